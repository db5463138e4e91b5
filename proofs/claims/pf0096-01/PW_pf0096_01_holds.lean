import PyProof.Rows.All
import Wide.All
import OpenK.AllK
import Wide.FinOn
import PySem.Challenge.RW_pf0096_01
open PySem PySem.W PyProof.Rows
set_option Elab.async false
set_option maxRecDepth 100000
set_option maxHeartbeats 8000000
set_option linter.all false
set_option rowWalk.seconds 0
namespace Mine
section
section
local macro_rules | `(tactic| o_head $_) => `(tactic| assumption)
theorem ktop (h : PySem.Challenge.rw_pf0096_01.row.Holds) : PySem.Challenge.rw_pf0096_01.row.Holds := by k_head
end
/-- the program, and the part of its top that the walk looks at -/
abbrev pr : Program := (OpenRow.toRowW (OpenLaw.row PySem.Challenge.rw_pf0096_01)).prog
end
section
noncomputable def mask : List Bool → List Stmt → List Stmt
  | true :: m, s :: l => s :: mask m l
  | false :: m, _ :: l => mask m l
  | _, _ => []
/-- what the walk looks at of the top: its statements without the names of the files -/
noncomputable def vw : Program := { pr with main := { pr.main with body := mask [false, true, true, true, true, true, true, false, true, true, true, true, true, true, true, true, true, true, true, false, true, true, true, false, true, true, true, false, true, true, true, false, true, true, false, true, true, false, true, true, true, true, true, true, true, true, true, true, true, false, true, false, true, true, true, true, true, true] pr.main.body } }
noncomputable def asK : List Addr := [2, 3, 15, 17, 18, 20, 21, 22, 24, 25, 27, 28, 29, 31, 32, 34, 35, 36, 38, 39, 41, 42, 43, 45, 46, 48, 49, 50, 52, 53, 55, 56, 57, 59, 60, 62, 63, 64, 71, 73, 74, 76, 77, 78, 79, 80, 81, 84, 91, 93, 94, 96, 97, 98, 99, 100, 103, 110, 111, 113, 114, 116, 117, 118, 119, 120, 123, 125, 126, 128, 129, 130, 132, 133, 135, 136, 137, 139, 140, 142, 143, 151, 153, 154, 156, 157, 158, 159, 160, 161, 162, 165, 167, 168, 170, 171, 179, 181, 182, 184, 185, 186, 188, 189, 191, 192, 193, 194, 195, 196, 197, 200, 202, 203, 205, 206, 207, 208, 216, 218, 219, 221, 222, 223, 224, 225, 226, 227, 230, 232, 233, 235, 236, 237, 239, 240, 242, 243, 244, 246, 247, 249, 250, 251, 253, 254, 256, 257, 258, 260, 261, 263, 264, 265, 267, 268, 270, 271, 272, 274, 275, 277, 278, 279, 281, 282, 284, 285, 286, 288, 289, 291, 292, 293, 295, 296, 298, 299, 300, 302, 303, 305, 306, 307, 309, 310, 312, 313, 314, 316, 317, 319, 320, 321, 323, 324, 326, 327, 328, 331, 332]
theorem asK_eq (P : Params) : asK = (ktop.heap_1 P).map (·.1) := by kernel_rfl
abbrev loose : List PySem.Str := [PySem.Str.ofString "MATE_LEAST", PySem.Str.ofString "SearchStopped"]
abbrev lv : List (PySem.Str × WData) := [(PySem.Str.ofString "MATE_LEAST", WData.int 31754)]
abbrev rr : OpenRow := OpenLaw.row PySem.Challenge.rw_pf0096_01
abbrev LeftK : Prop := LeftO pr vw loose (fun s => xlAt vw lv s && recOk (RowW.records (OpenRow.toRowW rr)) s) (Hook.obs (kHook ktop.heap_1 asK asK_eq)) (Hook.val (kHook ktop.heap_1 asK asK_eq)) 5332
theorem allLt_ne {d : Addr} : ∀ {l : List (Addr × Obj)}, AllLt d l → ∀ p ∈ l, p.1 ≠ d
  | [], _, _, hp => (nomatch hp)
  | q :: r, h, p, hp => by
    rcases List.mem_cons.mp hp with rfl | hp
    · exact Nat.ne_of_lt h.1
    · exact allLt_ne h.2 p hp
theorem ltAll_ne {d : Addr} {l : List (Addr × Obj)} (h : ∀ p ∈ l, p.1 < d) : ∀ p ∈ l, p.1 ≠ d := fun p hp => Nat.ne_of_lt (h p hp)
/-- a sum below a bound, a longer sum being below it -/
theorem lq0 {a k R : Nat} (h : a + k < R) : a < R := Nat.lt_of_le_of_lt (Nat.le_add_right _ _) h
theorem lq1 {a i k R : Nat} (h : a + k < R) (e : Nat.ble i k = true) : a + i < R := Nat.lt_of_le_of_lt (Nat.add_le_add_left (Nat.le_of_ble_eq_true e) _) h
theorem lq2 {a i j k R : Nat} (h : a + k < R) (e : Nat.ble (i + j) k = true) : a + i + j < R := Nat.add_assoc a i j ▸ lq1 h e
theorem lq3 {a i j l k R : Nat} (h : a + k < R) (e : Nat.ble (i + j + l) k = true) : a + i + j + l < R := Nat.add_assoc a i j ▸ lq2 h e
theorem lq4 {a i j l n k R : Nat} (h : a + k < R) (e : Nat.ble (i + j + l + n) k = true) : a + i + j + l + n < R := Nat.add_assoc a i j ▸ lq3 h e
theorem lq5 {a i j l n o k R : Nat} (h : a + k < R) (e : Nat.ble (i + j + l + n + o) k = true) : a + i + j + l + n + o < R := Nat.add_assoc a i j ▸ lq4 h e
theorem lq6 {a i j l n o p k R : Nat} (h : a + k < R) (e : Nat.ble (i + j + l + n + o + p) k = true) : a + i + j + l + n + o + p < R := Nat.add_assoc a i j ▸ lq5 h e
/-- two places apart, by a row of places below a newer one -/
theorem neL {a d x : Nat} {R : Prop} (h : x < d ∧ R) (f : x < d ∧ R → a < d) : a ≠ d := Nat.ne_of_lt (f h)
theorem neG {a d x : Nat} {R : Prop} (h : x < a ∧ R) (f : x < a ∧ R → d < a) : a ≠ d := Nat.ne_of_gt (f h)
theorem neLT {a d m x : Nat} {R : Prop} (g : m < d) (h : x < m ∧ R) (f : x < m ∧ R → a < m) : a ≠ d := Nat.ne_of_lt (Nat.lt_trans (f h) g)
theorem neGT {a d m x : Nat} {R : Prop} (g : m < a) (h : x < m ∧ R) (f : x < m ∧ R → d < m) : a ≠ d := Nat.ne_of_gt (Nat.lt_trans (f h) g)
theorem cjR {P Q G : Prop} (f : Q → G) : P ∧ Q → G := fun h => f h.2
end
section
/-- a def of the text, a method of a class of the text -/
noncomputable def fA (i : Nat) : Option Stmt := pr.main.body[i]?
noncomputable def fM (i j : Nat) : Option Stmt := match fA i with
  | some (.ClassDef _ _ _ b ..) => b[j]?
  | _ => none
noncomputable def fO (s : Option Stmt) (q : PySem.Str) : Obj := match s with
  | some (.FunctionDef nm ps bd _ _ _ sc _ _ _) => { cls := .none, data := .func { name := nm, qualname := q, params := ps, body := .stmts bd, scope := sc, globals := 0, closure := [], defaults := .none, kwdefaults := .none } }
  | _ => { cls := .none }
/-- the objects that the walk does not know, at their places; none: one that it knows -/
noncomputable def exF (P : Params) : List (Option Obj) := [
  some (boot_o_0 P),
  some (boot_o_1 P),
  none,
  none,
  some (boot_o_4 P),
  some (boot_o_5 P),
  some (boot_o_6 P),
  some (boot_o_7 P),
  some (boot_o_8 P),
  some (boot_o_9 P),
  some (boot_o_10 P),
  some ({ cls := Value.type "tuple", data := Data.seq #[] }),
  some ({ cls := Value.none, data := Data.fields #[Value.int 5 0, Value.int 0 0, Value.ref 20, Value.int 7 0, Value.int 0 0, Value.ref 27, Value.int 13 0, Value.int 0 0, Value.ref 34, Value.int 25 0, Value.int 0 0, Value.ref 41, Value.int 30 0, Value.int 0 0, Value.ref 48, Value.int 32 0, Value.int 0 0, Value.ref 55, Value.int 34 0, Value.int 0 0, Value.ref 62, Value.int 39 0, Value.int 0 0, Value.ref 69, Value.int 44 0, Value.int 0 0, Value.ref 89, Value.int 49 0, Value.int 0 0, Value.ref 108, Value.int 57 0, Value.int 0 0, Value.ref 128, Value.int 63 0, Value.int 0 0, Value.ref 135, Value.int 73 0, Value.int 0 0, Value.ref 142, Value.int 80 0, Value.int 0 0, Value.ref 149, Value.int 87 0, Value.int 0 0, Value.ref 170, Value.int 95 0, Value.int 0 0, Value.ref 177, Value.int 113 0, Value.int 0 0, Value.ref 205, Value.int 119 0, Value.int 0 0, Value.ref 214, Value.int 136 0, Value.int 0 0, Value.ref 235, Value.int 138 0, Value.int 0 0, Value.ref 242, Value.int 146 0, Value.int 0 0, Value.ref 249, Value.int 157 0, Value.int 0 0, Value.ref 256, Value.int 172 0, Value.int 0 0, Value.ref 263, Value.int 176 0, Value.int 0 0, Value.ref 270, Value.int 188 0, Value.int 0 0, Value.ref 277, Value.int 205 0, Value.int 0 0, Value.ref 284, Value.int 216 0, Value.int 0 0, Value.ref 291, Value.int 227 0, Value.int 0 0, Value.ref 298, Value.int 232 0, Value.int 0 0, Value.ref 305, Value.int 244 0, Value.int 0 0, Value.ref 312, Value.int 261 0, Value.int 0 0, Value.ref 319, Value.int 278 0, Value.int 0 0, Value.ref 326, Value.int 297 0, Value.int 0 0, Value.ref 331] }),
  some ({ cls := Value.type "code", data := Data.fields #[Value.str (Str.ofString "<module>") 182, Value.str (Str.ofString "<module>") 183, Value.str (Str.ofString "/claim/cut.py") 184, Value.int 1 0, Value.int 0 0, Value.int 0 0, Value.int 0 0, Value.int 0 0, Value.ref 11, Value.bool false, Value.int 181 0, Value.ref 12, Value.none, Value.none, Value.none, Value.none, Value.int 185 0, Value.int 1 0, Value.str (Str.ofString "/claim/cut.py") 186] }),
  some ({ cls := Value.type "frame", slots := #[some (Value.ref 13), some (Value.ref 3), some (Value.ref 3), none, some (Value.str (Str.ofString "__main__") 164), none, some (Value.ref 0)] }),
  none,
  some ({ cls := Value.none, data := Data.fields #[] }),
  none,
  none,
  some (fO (fA 4) (Str.ofString "is_mate_score")),
  none,
  none,
  none,
  some ({ cls := Value.none, data := Data.fields #[] }),
  none,
  none,
  some (fO (fA 5) (Str.ofString "moves_to_mate")),
  none,
  none,
  none,
  some ({ cls := Value.none, data := Data.fields #[] }),
  none,
  none,
  some (fO (fA 6) (Str.ofString "score_text")),
  none,
  none,
  none,
  some ({ cls := Value.none, data := Data.fields #[] }),
  none,
  none,
  some (fO (fA 15) (Str.ofString "pack_move")),
  none,
  none,
  none,
  some ({ cls := Value.none, data := Data.fields #[] }),
  none,
  none,
  some (fO (fA 16) (Str.ofString "move_from")),
  none,
  none,
  none,
  some ({ cls := Value.none, data := Data.fields #[] }),
  none,
  none,
  some (fO (fA 17) (Str.ofString "move_to")),
  none,
  none,
  none,
  some ({ cls := Value.none, data := Data.fields #[] }),
  none,
  none,
  some (fO (fA 18) (Str.ofString "move_promo")),
  none,
  none,
  none,
  some ({ cls := Value.type "builtin_function_or_method", data := Data.fields #[Value.builtin "type.__prepare__", Value.type "type"] }),
  some ({ cls := Value.type "dict", data := Data.dict #[{ hash := PyData.keyHash P (Str.ofString "__module__"), key := Value.str (Str.ofString "__module__") 273, val := Value.str (Str.ofString "chess.errors") 264 }, { hash := PyData.keyHash P (Str.ofString "__qualname__"), key := Value.str (Str.ofString "__qualname__") 275, val := Value.str (Str.ofString "ChessError") 274 }, { hash := PyData.keyHash P (Str.ofString "__firstlineno__"), key := Value.str (Str.ofString "__firstlineno__") 277, val := Value.int 39 276 }, { hash := PyData.keyHash P (Str.ofString "__init__"), key := Value.str (Str.ofString "__init__") 285, val := Value.ref 77 }, { hash := PyData.keyHash P (Str.ofString "__static_attributes__"), key := Value.str (Str.ofString "__static_attributes__") 287, val := Value.ref 78 }] 5 }),
  some ({ cls := Value.type "tuple", data := Data.seq #[] }),
  some ({ cls := Value.none, data := Data.fields #[Value.int 41 0, Value.int 4 0, Value.ref 76] }),
  some ({ cls := Value.type "code", data := Data.fields #[Value.str (Str.ofString "ChessError") 268, Value.str (Str.ofString "ChessError") 269, Value.str (Str.ofString "/claim/cut.py") 270, Value.int 39 0, Value.int 0 0, Value.int 0 0, Value.int 0 0, Value.int 0 0, Value.ref 67, Value.bool false, Value.int 181 0, Value.ref 68, Value.none, Value.none, Value.none, Value.none, Value.int 271 0, Value.int 39 0, Value.str (Str.ofString "/claim/cut.py") 272] }),
  some ({ cls := Value.type "frame", slots := #[some (Value.ref 69), some (Value.ref 3), some (Value.ref 66), none, some (Value.str (Str.ofString "chess.errors") 264), none, some (Value.ref 0)] }),
  none,
  some ({ cls := Value.none, data := Data.fields #[] }),
  none,
  none,
  some (fO (fM 20 0) (Str.ofString "ChessError.__init__")),
  none,
  none,
  none,
  none,
  none,
  none,
  some ({ cls := Value.type "super", data := Data.fields #[Value.ref 80, Value.ref 80, Value.ref 80] }),
  some ({ cls := Value.type "builtin_function_or_method", data := Data.fields #[Value.builtin "object.__init_subclass__", Value.ref 80] }),
  none,
  some ({ cls := Value.type "builtin_function_or_method", data := Data.fields #[Value.builtin "type.__prepare__", Value.type "type"] }),
  some ({ cls := Value.type "dict", data := Data.dict #[{ hash := PyData.keyHash P (Str.ofString "__module__"), key := Value.str (Str.ofString "__module__") 302, val := Value.str (Str.ofString "chess.errors") 264 }, { hash := PyData.keyHash P (Str.ofString "__qualname__"), key := Value.str (Str.ofString "__qualname__") 304, val := Value.str (Str.ofString "BadSquare") 303 }, { hash := PyData.keyHash P (Str.ofString "__firstlineno__"), key := Value.str (Str.ofString "__firstlineno__") 306, val := Value.int 44 305 }, { hash := PyData.keyHash P (Str.ofString "__init__"), key := Value.str (Str.ofString "__init__") 314, val := Value.ref 97 }, { hash := PyData.keyHash P (Str.ofString "__static_attributes__"), key := Value.str (Str.ofString "__static_attributes__") 316, val := Value.ref 98 }] 5 }),
  some ({ cls := Value.type "tuple", data := Data.seq #[] }),
  some ({ cls := Value.none, data := Data.fields #[Value.int 46 0, Value.int 4 0, Value.ref 96] }),
  some ({ cls := Value.type "code", data := Data.fields #[Value.str (Str.ofString "BadSquare") 297, Value.str (Str.ofString "BadSquare") 298, Value.str (Str.ofString "/claim/cut.py") 299, Value.int 44 0, Value.int 0 0, Value.int 0 0, Value.int 0 0, Value.int 0 0, Value.ref 87, Value.bool false, Value.int 181 0, Value.ref 88, Value.none, Value.none, Value.none, Value.none, Value.int 300 0, Value.int 44 0, Value.str (Str.ofString "/claim/cut.py") 301] }),
  some ({ cls := Value.type "frame", slots := #[some (Value.ref 89), some (Value.ref 3), some (Value.ref 86), none, some (Value.str (Str.ofString "chess.errors") 264), none, some (Value.ref 0)] }),
  none,
  some ({ cls := Value.none, data := Data.fields #[] }),
  none,
  none,
  some (fO (fM 21 0) (Str.ofString "BadSquare.__init__")),
  none,
  none,
  none,
  none,
  none,
  some ({ cls := Value.type "super", data := Data.fields #[Value.ref 100, Value.ref 100, Value.ref 100] }),
  some ({ cls := Value.type "builtin_function_or_method", data := Data.fields #[Value.builtin "object.__init_subclass__", Value.ref 100] }),
  none,
  some ({ cls := Value.type "builtin_function_or_method", data := Data.fields #[Value.builtin "type.__prepare__", Value.type "type"] }),
  some ({ cls := Value.type "dict", data := Data.dict #[{ hash := PyData.keyHash P (Str.ofString "__module__"), key := Value.str (Str.ofString "__module__") 327, val := Value.str (Str.ofString "chess.errors") 264 }, { hash := PyData.keyHash P (Str.ofString "__qualname__"), key := Value.str (Str.ofString "__qualname__") 329, val := Value.str (Str.ofString "SearchStopped") 328 }, { hash := PyData.keyHash P (Str.ofString "__firstlineno__"), key := Value.str (Str.ofString "__firstlineno__") 331, val := Value.int 49 330 }, { hash := PyData.keyHash P (Str.ofString "__init__"), key := Value.str (Str.ofString "__init__") 340, val := Value.ref 117 }, { hash := PyData.keyHash P (Str.ofString "__static_attributes__"), key := Value.str (Str.ofString "__static_attributes__") 342, val := Value.ref 118 }] 5 }),
  some ({ cls := Value.type "tuple", data := Data.seq #[] }),
  some ({ cls := Value.none, data := Data.fields #[Value.int 51 0, Value.int 4 0, Value.ref 116] }),
  some ({ cls := Value.type "code", data := Data.fields #[Value.str (Str.ofString "SearchStopped") 322, Value.str (Str.ofString "SearchStopped") 323, Value.str (Str.ofString "/claim/cut.py") 324, Value.int 49 0, Value.int 0 0, Value.int 0 0, Value.int 0 0, Value.int 0 0, Value.ref 106, Value.bool false, Value.int 181 0, Value.ref 107, Value.none, Value.none, Value.none, Value.none, Value.int 325 0, Value.int 49 0, Value.str (Str.ofString "/claim/cut.py") 326] }),
  some ({ cls := Value.type "frame", slots := #[some (Value.ref 108), some (Value.ref 3), some (Value.ref 105), none, some (Value.str (Str.ofString "chess.errors") 264), none, some (Value.ref 0)] }),
  none,
  none,
  some ({ cls := Value.none, data := Data.fields #[] }),
  none,
  none,
  some (fO (fM 22 0) (Str.ofString "SearchStopped.__init__")),
  none,
  none,
  none,
  none,
  none,
  some ({ cls := Value.type "super", data := Data.fields #[Value.ref 120, Value.ref 120, Value.ref 120] }),
  some ({ cls := Value.type "builtin_function_or_method", data := Data.fields #[Value.builtin "object.__init_subclass__", Value.ref 120] }),
  none,
  some ({ cls := Value.none, data := Data.fields #[] }),
  none,
  none,
  some (fO (fA 26) (Str.ofString "square_name")),
  none,
  none,
  none,
  some ({ cls := Value.none, data := Data.fields #[] }),
  none,
  none,
  some (fO (fA 29) (Str.ofString "promo_letter")),
  none,
  none,
  none,
  some ({ cls := Value.none, data := Data.fields #[] }),
  none,
  none,
  some (fO (fA 30) (Str.ofString "move_text")),
  none,
  none,
  some ({ cls := Value.type "tuple", data := Data.seq #[] }),
  some ({ cls := Value.type "builtin_function_or_method", data := Data.fields #[Value.builtin "type.__prepare__", Value.type "type"] }),
  some ({ cls := Value.type "dict", data := Data.dict #[{ hash := PyData.keyHash P (Str.ofString "__module__"), key := Value.str (Str.ofString "__module__") 390, val := Value.str (Str.ofString "chess.iterate") 381 }, { hash := PyData.keyHash P (Str.ofString "__qualname__"), key := Value.str (Str.ofString "__qualname__") 392, val := Value.str (Str.ofString "Report") 391 }, { hash := PyData.keyHash P (Str.ofString "__firstlineno__"), key := Value.str (Str.ofString "__firstlineno__") 394, val := Value.int 80 393 }, { hash := PyData.keyHash P (Str.ofString "__init__"), key := Value.str (Str.ofString "__init__") 405, val := Value.ref 157 }, { hash := PyData.keyHash P (Str.ofString "__static_attributes__"), key := Value.str (Str.ofString "__static_attributes__") 410, val := Value.ref 158 }] 5 }),
  some ({ cls := Value.type "tuple", data := Data.seq #[] }),
  some ({ cls := Value.none, data := Data.fields #[Value.int 82 0, Value.int 4 0, Value.ref 156] }),
  some ({ cls := Value.type "code", data := Data.fields #[Value.str (Str.ofString "Report") 385, Value.str (Str.ofString "Report") 386, Value.str (Str.ofString "/claim/cut.py") 387, Value.int 80 0, Value.int 0 0, Value.int 0 0, Value.int 0 0, Value.int 0 0, Value.ref 147, Value.bool false, Value.int 181 0, Value.ref 148, Value.none, Value.none, Value.none, Value.none, Value.int 388 0, Value.int 80 0, Value.str (Str.ofString "/claim/cut.py") 389] }),
  some ({ cls := Value.type "frame", slots := #[some (Value.ref 149), some (Value.ref 3), some (Value.ref 146), none, some (Value.str (Str.ofString "chess.iterate") 381), none, some (Value.ref 0)] }),
  none,
  some ({ cls := Value.none, data := Data.fields #[] }),
  none,
  none,
  some (fO (fM 32 0) (Str.ofString "Report.__init__")),
  none,
  none,
  none,
  none,
  none,
  none,
  none,
  some ({ cls := Value.type "super", data := Data.fields #[Value.ref 160, Value.ref 160, Value.ref 160] }),
  some ({ cls := Value.type "builtin_function_or_method", data := Data.fields #[Value.builtin "object.__init_subclass__", Value.ref 160] }),
  none,
  some ({ cls := Value.none, data := Data.fields #[] }),
  none,
  none,
  some (fO (fA 33) (Str.ofString "report_text")),
  none,
  none,
  some ({ cls := Value.type "tuple", data := Data.seq #[] }),
  some ({ cls := Value.type "builtin_function_or_method", data := Data.fields #[Value.builtin "type.__prepare__", Value.type "type"] }),
  some ({ cls := Value.type "dict", data := Data.dict #[{ hash := PyData.keyHash P (Str.ofString "__module__"), key := Value.str (Str.ofString "__module__") 437, val := Value.str (Str.ofString "chess.context") 428 }, { hash := PyData.keyHash P (Str.ofString "__qualname__"), key := Value.str (Str.ofString "__qualname__") 439, val := Value.str (Str.ofString "SearchContext") 438 }, { hash := PyData.keyHash P (Str.ofString "__firstlineno__"), key := Value.str (Str.ofString "__firstlineno__") 441, val := Value.int 95 440 }, { hash := PyData.keyHash P (Str.ofString "__init__"), key := Value.str (Str.ofString "__init__") 455, val := Value.ref 185 }, { hash := PyData.keyHash P (Str.ofString "tick"), key := Value.str (Str.ofString "tick") 462, val := Value.ref 192 }, { hash := PyData.keyHash P (Str.ofString "__static_attributes__"), key := Value.str (Str.ofString "__static_attributes__") 473, val := Value.ref 193 }] 6 }),
  some ({ cls := Value.type "tuple", data := Data.seq #[] }),
  some ({ cls := Value.none, data := Data.fields #[Value.int 97 0, Value.int 4 0, Value.ref 184, Value.int 109 0, Value.int 4 0, Value.ref 191] }),
  some ({ cls := Value.type "code", data := Data.fields #[Value.str (Str.ofString "SearchContext") 432, Value.str (Str.ofString "SearchContext") 433, Value.str (Str.ofString "/claim/cut.py") 434, Value.int 95 0, Value.int 0 0, Value.int 0 0, Value.int 0 0, Value.int 0 0, Value.ref 175, Value.bool false, Value.int 181 0, Value.ref 176, Value.none, Value.none, Value.none, Value.none, Value.int 435 0, Value.int 95 0, Value.str (Str.ofString "/claim/cut.py") 436] }),
  some ({ cls := Value.type "frame", slots := #[some (Value.ref 177), some (Value.ref 3), some (Value.ref 174), none, some (Value.str (Str.ofString "chess.context") 428), none, some (Value.ref 0)] }),
  none,
  some ({ cls := Value.none, data := Data.fields #[] }),
  none,
  none,
  some (fO (fM 35 0) (Str.ofString "SearchContext.__init__")),
  none,
  none,
  none,
  some ({ cls := Value.none, data := Data.fields #[] }),
  none,
  none,
  some (fO (fM 35 1) (Str.ofString "SearchContext.tick")),
  none,
  none,
  none,
  none,
  none,
  none,
  none,
  some ({ cls := Value.type "super", data := Data.fields #[Value.ref 195, Value.ref 195, Value.ref 195] }),
  some ({ cls := Value.type "builtin_function_or_method", data := Data.fields #[Value.builtin "object.__init_subclass__", Value.ref 195] }),
  none,
  some ({ cls := Value.none, data := Data.fields #[] }),
  none,
  none,
  some (fO (fA 36) (Str.ofString "start_count")),
  none,
  none,
  none,
  none,
  some ({ cls := Value.type "tuple", data := Data.seq #[] }),
  some ({ cls := Value.type "builtin_function_or_method", data := Data.fields #[Value.builtin "type.__prepare__", Value.type "type"] }),
  some ({ cls := Value.type "dict", data := Data.dict #[{ hash := PyData.keyHash P (Str.ofString "__module__"), key := Value.str (Str.ofString "__module__") 522, val := Value.str (Str.ofString "chess.geometry") 489 }, { hash := PyData.keyHash P (Str.ofString "__qualname__"), key := Value.str (Str.ofString "__qualname__") 524, val := Value.str (Str.ofString "Geometry") 523 }, { hash := PyData.keyHash P (Str.ofString "__firstlineno__"), key := Value.str (Str.ofString "__firstlineno__") 526, val := Value.int 119 525 }, { hash := PyData.keyHash P (Str.ofString "__init__"), key := Value.str (Str.ofString "__init__") 537, val := Value.ref 222 }, { hash := PyData.keyHash P (Str.ofString "__static_attributes__"), key := Value.str (Str.ofString "__static_attributes__") 552, val := Value.ref 223 }] 5 }),
  some ({ cls := Value.type "tuple", data := Data.seq #[] }),
  some ({ cls := Value.none, data := Data.fields #[Value.int 121 0, Value.int 4 0, Value.ref 221] }),
  some ({ cls := Value.type "code", data := Data.fields #[Value.str (Str.ofString "Geometry") 517, Value.str (Str.ofString "Geometry") 518, Value.str (Str.ofString "/claim/cut.py") 519, Value.int 119 0, Value.int 0 0, Value.int 0 0, Value.int 0 0, Value.int 0 0, Value.ref 212, Value.bool false, Value.int 181 0, Value.ref 213, Value.none, Value.none, Value.none, Value.none, Value.int 520 0, Value.int 119 0, Value.str (Str.ofString "/claim/cut.py") 521] }),
  some ({ cls := Value.type "frame", slots := #[some (Value.ref 214), some (Value.ref 3), some (Value.ref 211), none, some (Value.str (Str.ofString "chess.geometry") 489), none, some (Value.ref 0)] }),
  none,
  some ({ cls := Value.none, data := Data.fields #[] }),
  none,
  none,
  some (fO (fM 40 0) (Str.ofString "Geometry.__init__")),
  none,
  none,
  none,
  none,
  none,
  none,
  none,
  some ({ cls := Value.type "super", data := Data.fields #[Value.ref 225, Value.ref 225, Value.ref 225] }),
  some ({ cls := Value.type "builtin_function_or_method", data := Data.fields #[Value.builtin "object.__init_subclass__", Value.ref 225] }),
  none,
  some ({ cls := Value.none, data := Data.fields #[] }),
  none,
  none,
  some (fO (fA 41) (Str.ofString "is_growing")),
  none,
  none,
  none,
  some ({ cls := Value.none, data := Data.fields #[] }),
  none,
  none,
  some (fO (fA 42) (Str.ofString "add_masks")),
  none,
  none,
  none,
  some ({ cls := Value.none, data := Data.fields #[] }),
  none,
  none,
  some (fO (fA 43) (Str.ofString "inner_squares")),
  none,
  none,
  none,
  some ({ cls := Value.none, data := Data.fields #[] }),
  none,
  none,
  some (fO (fA 44) (Str.ofString "add_rays")),
  none,
  none,
  none,
  some ({ cls := Value.none, data := Data.fields #[] }),
  none,
  none,
  some (fO (fA 45) (Str.ofString "add_pawns")),
  none,
  none,
  none,
  some ({ cls := Value.none, data := Data.fields #[] }),
  none,
  none,
  some (fO (fA 46) (Str.ofString "add_knights")),
  none,
  none,
  none,
  some ({ cls := Value.none, data := Data.fields #[] }),
  none,
  none,
  some (fO (fA 47) (Str.ofString "add_castles")),
  none,
  none,
  none,
  some ({ cls := Value.none, data := Data.fields #[] }),
  none,
  none,
  some (fO (fA 48) (Str.ofString "make_geometry")),
  none,
  none,
  none,
  some ({ cls := Value.none, data := Data.fields #[] }),
  none,
  none,
  some (fO (fA 50) (Str.ofString "lines_text")),
  none,
  none,
  none,
  some ({ cls := Value.none, data := Data.fields #[] }),
  none,
  none,
  some (fO (fA 52) (Str.ofString "_law_pick")),
  none,
  none,
  none,
  some ({ cls := Value.none, data := Data.fields #[] }),
  none,
  none,
  some (fO (fA 53) (Str.ofString "_law_value")),
  none,
  none,
  none,
  some ({ cls := Value.none, data := Data.fields #[] }),
  none,
  none,
  some (fO (fA 54) (Str.ofString "_law_line")),
  none,
  none,
  none,
  some ({ cls := Value.none, data := Data.fields #[] }),
  none,
  none,
  some (fO (fA 55) (Str.ofString "_law_reports_right")),
  none,
  none,
  none,
  some ({ cls := Value.none, data := Data.fields #[] }),
  none,
  none,
  some (fO (fA 56) (Str.ofString "_law_counts_right")),
  none,
  none,
  none,
  some ({ cls := Value.none, data := Data.fields #[] }),
  some (fO (fA 57) (Str.ofString "law")),
  none,
  none]
noncomputable def fillK : List (Option Obj) → Frag → List Obj
  | some o :: r, K => o :: fillK r K
  | none :: r, p :: K => p.2 :: fillK r K
  | _, _ => []
noncomputable def cutD (k : Nat) (nm : Value) (o : Obj) : Obj := match o.data with
  | .dict es _ => { o with data := .dict (match es.toList with | e :: r => { e with val := nm } :: r.take (k - 1) | [] => []).toArray k }
  | _ => o
noncomputable def cutF (k : Nat) (o : Obj) : Obj := match o.data with
  | .fields vs => { o with data := .fields (vs.toList.take k).toArray }
  | _ => o
noncomputable def cutS (k : Nat) (o : Obj) : Obj := match o.data with
  | .cls c => { o with data := .cls { c with subclasses := c.subclasses.take k } }
  | _ => o
noncomputable def setAt : List Obj → Nat → (Obj → Obj) → List Obj
  | [], _, _ => []
  | o :: r, 0, f => f o :: r
  | o :: r, n + 1, f => o :: setAt r n f
noncomputable def objsF (P : Params) : List Obj := fillK (exF P) (ktop.heap_1 P)
noncomputable def stF (P : Params) : Heap := ⟨⟨objsF P⟩, {}⟩
noncomputable def stC (n k m : Nat) (nm : Value) (P : Params) : Heap := ⟨⟨setAt (setAt ((objsF P).take n) 3 (cutD k nm)) 12 (cutF m)⟩, {}⟩
noncomputable def stB (P : Params) : Heap := ⟨⟨setAt (setAt (setAt ((objsF P).take 15) 3 (cutD 9 (.str (PySem.Str.ofString "__main__") 164))) 12 (cutF 0)) 2 (fun _ => boot_o_2 P)⟩, {}⟩
noncomputable def hqS1 (P : Params) : Heap := ⟨⟨setAt (stC 64 26 21 (.str (PySem.Str.ofString "chess.errors") 264) P).objs.toList 2 (fun _ => boot_o_2 P)⟩, {}⟩
noncomputable def hqS2 (P : Params) : Heap := ⟨⟨setAt (stC 84 27 24 (.str (PySem.Str.ofString "chess.errors") 264) P).objs.toList 80 (cutS 0)⟩, {}⟩
noncomputable def hqS3 (P : Params) : Heap := ⟨⟨setAt (stC 103 28 27 (.str (PySem.Str.ofString "chess.errors") 264) P).objs.toList 80 (cutS 1)⟩, {}⟩
noncomputable def hqS4 (P : Params) : Heap := stC 123 29 30 (.str (PySem.Str.ofString "chess.errors") 264) P
noncomputable def hqS5 (P : Params) : Heap := stC 165 36 42 (.str (PySem.Str.ofString "chess.iterate") 381) P
noncomputable def hqS6 (P : Params) : Heap := stC 200 38 48 (.str (PySem.Str.ofString "chess.context") 428) P
noncomputable def hqS7 (P : Params) : Heap := stC 230 42 54 (.str (PySem.Str.ofString "chess.geometry") 489) P
noncomputable def hqS8 (P : Params) : Heap := stC 265 47 69 (.str (PySem.Str.ofString "chess.geometry") 489) P
abbrev q0 : Pos := { line := 0, col := 0, endLine := 0, endCol := 0 }
abbrev hqP1 : Pos := { line := 38, col := 0, endLine := 38, endCol := 8 }
abbrev hqP2 : Pos := { line := 39, col := 0, endLine := 43, endCol := 24 }
abbrev hqP3 : Pos := { line := 44, col := 0, endLine := 48, endCol := 28 }
abbrev hqP4 : Pos := { line := 49, col := 0, endLine := 53, endCol := 26 }
abbrev hqP5 : Pos := { line := 80, col := 0, endLine := 86, endCol := 26 }
abbrev hqP6 : Pos := { line := 95, col := 0, endLine := 112, endCol := 23 }
abbrev hqP7 : Pos := { line := 119, col := 0, endLine := 135, endCol := 29 }
abbrev hqP8 : Pos := { line := 172, col := 0, endLine := 175, endCol := 90 }
abbrev hqP9 : Pos := { line := 297, col := 0, endLine := 302, endCol := 68 }
noncomputable def env0 : Env := { scope := pr.main.scope, locals := mainNs, globals := mainNs, cells := [], code := .ref 13, frame := some 14 }
noncomputable def bE : List Stmt := behindTheImports pr
noncomputable def cE : Code := .body bE env0
abbrev ann0 : Option Value := some (.ref 6)
noncomputable def hqL1 : List Stmt := (bE.drop 0).take 20
noncomputable def hqL2 : List Stmt := (bE.drop 20).take 1
noncomputable def hqL3 : List Stmt := (bE.drop 21).take 1
noncomputable def hqL4 : List Stmt := (bE.drop 22).take 1
noncomputable def hqL5 : List Stmt := (bE.drop 23).take 10
noncomputable def hqL6 : List Stmt := (bE.drop 33).take 3
noncomputable def hqL7 : List Stmt := (bE.drop 36).take 5
noncomputable def hqL8 : List Stmt := (bE.drop 41).take 5
noncomputable def hqL9 : List Stmt := bE.drop 46
noncomputable abbrev shF (h : Heap) (k : Nat) (os : OsState) : Shared := ⟨h, Array.mk [], {}, k, os⟩
end
section
theorem preT (w : World) (os : OsState) : topGo treeTable pr w 11 ann0 12 ⟨boot_heap w.params, Array.mk [], boot_drawn, boot_toks, os⟩ (topStub pr) = some (shF (stB w.params) 187 os, ⟨denote treeTable cE, cE, q0, [topFrame q0]⟩) := by kernel_rfl
theorem blockT (w : World) (os : OsState) : segRun treeTable pr w 11 ann0 1 1 (shF (stB w.params) 187 os) (blockOf bE env0 cE q0 [topFrame q0]) = some (.next, shF (stB w.params) 187 os, cE, q0) := by kernel_rfl
theorem bodyT : bE = hqL1 ++ (hqL2 ++ (hqL3 ++ (hqL4 ++ (hqL5 ++ (hqL6 ++ (hqL7 ++ (hqL8 ++ (hqL9 ++ ([]))))))))) := by kernel_rfl
theorem run1 (w : World) (os : OsState) : segRun treeTable pr w 11 ann0 1 333 (shF (stB w.params) 187 os) (piecesOf hqL1 env0 cE q0 [topFrame q0]) = some (.next, shF (hqS1 w.params) 266 os, cE, hqP1) := by kernel_rfl
theorem run2 (w : World) (os : OsState) : segRun treeTable pr w 11 ann0 1 229 (shF (hqS1 w.params) 266 os) (piecesOf hqL2 env0 cE hqP1 [topFrame q0]) = some (.next, shF (hqS2 w.params) 295 os, cE, hqP2) := by kernel_rfl
theorem run3 (w : World) (os : OsState) : segRun treeTable pr w 11 ann0 1 246 (shF (hqS2 w.params) 295 os) (piecesOf hqL3 env0 cE hqP2 [topFrame q0]) = some (.next, shF (hqS3 w.params) 320 os, cE, hqP3) := by kernel_rfl
theorem run4 (w : World) (os : OsState) : segRun treeTable pr w 11 ann0 1 248 (shF (hqS3 w.params) 320 os) (piecesOf hqL4 env0 cE hqP3 [topFrame q0]) = some (.next, shF (hqS4 w.params) 346 os, cE, hqP4) := by kernel_rfl
theorem run5 (w : World) (os : OsState) : segRun treeTable pr w 11 ann0 1 374 (shF (hqS4 w.params) 346 os) (piecesOf hqL5 env0 cE hqP4 [topFrame q0]) = some (.next, shF (hqS5 w.params) 418 os, cE, hqP5) := by kernel_rfl
theorem run6 (w : World) (os : OsState) : segRun treeTable pr w 11 ann0 1 310 (shF (hqS5 w.params) 418 os) (piecesOf hqL6 env0 cE hqP5 [topFrame q0]) = some (.next, shF (hqS6 w.params) 481 os, cE, hqP6) := by kernel_rfl
theorem run7 (w : World) (os : OsState) : segRun treeTable pr w 11 ann0 1 344 (shF (hqS6 w.params) 481 os) (piecesOf hqL7 env0 cE hqP6 [topFrame q0]) = some (.next, shF (hqS7 w.params) 560 os, cE, hqP7) := by kernel_rfl
theorem run8 (w : World) (os : OsState) : segRun treeTable pr w 11 ann0 1 160 (shF (hqS7 w.params) 560 os) (piecesOf hqL8 env0 cE hqP7 [topFrame q0]) = some (.next, shF (hqS8 w.params) 609 os, cE, hqP8) := by kernel_rfl
theorem run9 (w : World) (os : OsState) : segRun treeTable pr w 11 ann0 1 368 (shF (hqS8 w.params) 609 os) (piecesOf hqL9 env0 cE hqP8 [topFrame q0]) = some (.next, shF (stF w.params) 744 os, cE, hqP9) := by kernel_rfl
theorem finT (w : World) (os : OsState) : topRun treeTable pr w 11 ann0 2 (shF (stF w.params) 744 os) ⟨doneF .next, cE, hqP9, [topFrame q0]⟩ = some (shF (stF w.params) 744 os) := by kernel_rfl
theorem runT (w : World) (os : OsState) : topRun treeTable pr w 11 ann0 (12 + (1 + (333 + (229 + (246 + (248 + (374 + (310 + (344 + (160 + (368 + 2))))))))))) ⟨boot_heap w.params, Array.mk [], boot_drawn, boot_toks, os⟩ (topStub pr) = some (shF (stF w.params) 744 os) := by
  refine go_top (preT w os) (piece_block (blockT w os) ?_)
  rw [bodyT]
  exact piece_app (run1 w os) (piece_app (run2 w os) (piece_app (run3 w os) (piece_app (run4 w os) (piece_app (run5 w os) (piece_app (run6 w os) (piece_app (run7 w os) (piece_app (run8 w os) (piece_app (run9 w os) (piece_nil (finT w os))))))))))
theorem openT : opening pr = plainProg pr.main.scope.names := by kernel_rfl
theorem fenceT (s : Shared) : fenceModules? pr s = some s := by kernel_rfl
theorem sizeT (w : World) : ((boot_heap w.params).isNs mainGlobals && (Array.mk [] : Array GenState).size == 0, (boot_heap w.params).objs.size, (boot_heap w.params).nsMap mainGlobals "__annotations__") = (true, 11, ann0) := by kernel_rfl
theorem look1 (w : World) (os : OsState) : (staticsOk (importedModules pr.main.body) (boot_heap w.params) (stF w.params) && namesBound pr (stF w.params) && gensDone (shF (stF w.params) 744 os) && laidKept (boot_heap w.params) (stF w.params)) = true := by kernel_rfl
theorem look2 (w : World) (os : OsState) : openSeen vw loose (importedModules pr.main.body) (fun s => xlAt vw lv s && recOk (RowW.records (OpenRow.toRowW rr)) s) true (shF (stF w.params) 744 os) = openGood vw loose := by kernel_rfl
theorem look3 (w : World) (os : OsState) : Hook.obs (kHook ktop.heap_1 asK asK_eq) (shF (stF w.params) 744 os) = Hook.val (kHook ktop.heap_1 asK asK_eq) w := by kernel_rfl
noncomputable def dL : DefRec := match fA 57 with
  | some (.FunctionDef nm ps bd _ _ _ sc _ _ pos) => ⟨nm, ps, bd, sc, pos⟩
  | _ => ⟨PySem.Str.ofString "", { posonlyargs := [], args := [], vararg := none, kwonlyargs := [], kw_defaults := [], kwarg := none, defaults := [] }, [], { kind := .function, names := [], isGenerator := false, isCoroutine := false }, q0⟩
theorem defT : defOf vw rr.name = some (dL, []) := by kernel_rfl
theorem theDefT : pr.theDef rr.name = some (dL.params, dL.body, dL.scope) := by kernel_rfl
theorem saidT : OpenLaw.wellSaid PySem.Challenge.rw_pf0096_01 = true := by kernel_rfl
theorem okT : (chainsOk vw && opensWell pr && (frees (OpenRow.toRowW rr) && rr.within.isEmpty)) = true := by kernel_rfl
theorem left : LeftK := LeftO.of_pieces (boot_open openT (by decide) fenceT) sizeT runT (by decide) fun w => funext fun os => Prod.ext (look1 w os) (Prod.ext (look2 w os) (look3 w os))
end
local macro_rules | `(tactic| walk_at $s:str) => `(tactic| k_extra $s)
local macro_rules | `(tactic| k_room) => `(tactic| k_extra "room0")
local macro_rules | `(tactic| k_units) => `(tactic| k_extra "units0")
local macro_rules | `(tactic| k_all) => `(tactic| k_extra "all0")
local macro_rules | `(tactic| k_mem) => `(tactic| assumption)
local macro_rules | `(tactic| k_ne) => `(tactic| k_extra "ne0")
local macro_rules | `(tactic| k_steps) => `(tactic| k_extra "steps0")
section
def BeltIs (w : World) (c : Addr) (k : Int) (ob : Obj) : Prop :=
  ∃ t3, ob.IsDictOf (PySem.strKind PySem.Challenge.rw_pf0096_01.row.prog w) [(Str.ofString "cells", Value.ref c), (Str.ofString "spot", Value.int k t3)]
def CellsOk (oc : Obj) : Prop :=
  ∃ ys ns, oc = LCg.lst ys ∧ IntsAre ys ns ∧ (∀ x ∈ ns, 0 ≤ x ∧ x < 1000000000) ∧ ns.length ≤ 60
structure Belt (w : World) (b c : Addr) (ob oc : Obj) (k : Int) : Prop where
  ne : c ≠ b
  dict : BeltIs w c k ob
  cells : CellsOk oc
  lo : 0 ≤ k
  hi : k ≤ 1000

theorem pick0 {w : World} {mean : ExcName → Option Value} {mg mb : Str → Option Value} {dp un : Nat} {gd : Option (List Code)} {cn : Str} {cs : Scope} {a : Addr} {ccd : Value} {cl : List (Str × Addr)} {outer : List Env} {A₀ : Around} {base h₀ : Heap} {L : Addr} {m : Str → Option Value} {own : List (Addr × Obj)} {s : Shared}
    {Q E : Value → Shared → Prop} {b c : Addr} {ob : Obj} {ys : List Value} {ns : List Int} {k n : Int} {tn t3 : Nat}
    (B : Below A₀ base outer h₀) (F : Fr h₀ L s.heap m) (X : (ktop.heap_1 w.params).In h₀) (N : News h₀ L s.heap ((b, ob) :: (c, LCg.lst ys) :: own))
    (T : Top vw (looseW vw loose) mean mg mb h₀) (hk : cs.kind = .function)
    (hoff : OwnOff own [b]) (hcb : c ≠ b)
    (hb : ob.IsDictOf (PySem.strKind PySem.Challenge.rw_pf0096_01.row.prog w) [(Str.ofString "cells", Value.ref c), (Str.ofString "spot", Value.int k t3)])
    (hi : IntsAre ys ns) (hns : ∀ x ∈ ns, 0 ≤ x ∧ x < 1000000000) (hl : ns.length ≤ 60) (hk0 : 0 ≤ k) (hk1 : k ≤ 1000) (hn0 : 1 ≤ n) (hn1 : n ≤ 100000000)
    (hdp : dp + 1 < recursionLimit) (hun : un + 40 < cLine)
    (ret : ∀ r t h' tk' ob' u3, Fr h₀ L h' m → News h₀ L h' ((b, ob') :: (c, LCg.lst ys) :: own) →
      ob'.IsDictOf (PySem.strKind PySem.Challenge.rw_pf0096_01.row.prog w) [(Str.ofString "cells", Value.ref c), (Str.ofString "spot", Value.int (k + 1) u3)] →
      0 ≤ r → r < n → Q (.int r t) { s with heap := h', toks := tk' }) :
    wpAny (model PySem.Challenge.rw_pf0096_01.row.prog w) (ktrTop dp un gd cn cs L a ccd cl outer) (call (.ref 299) [.ref b, .int n tn]) Q E s := by
  k_with_none
  k_with "room0" => ((try simp only [depth_under_make, depth_under_kw, depth_in1, depth_deeper, depth_caller]); (try dsimp only [ktrTop]); (first | exact lq0 (by with_reducible assumption) | exact lq1 (by with_reducible assumption) (by rfl) | exact lq2 (by with_reducible assumption) (by rfl) | exact lq3 (by with_reducible assumption) (by rfl) | exact lq4 (by with_reducible assumption) (by rfl) | exact lq5 (by with_reducible assumption) (by rfl) | exact lq6 (by with_reducible assumption) (by rfl) | omega))
  k_with "units0" => ((try simp only [units_in1, units_deeper, Around.mark_units, units_caller]); (try dsimp only [ktrTop]); (first | exact lq0 (by with_reducible assumption) | exact lq1 (by with_reducible assumption) (by rfl) | exact lq2 (by with_reducible assumption) (by rfl) | exact lq3 (by with_reducible assumption) (by rfl) | exact lq4 (by with_reducible assumption) (by rfl) | exact lq5 (by with_reducible assumption) (by rfl) | exact lq6 (by with_reducible assumption) (by rfl) | omega))
  k_with "all0" => (first | assumption | exact allLt_ne (by assumption) | exact allLt_ne (And.right (by assumption)) | exact allLt_ne (And.right (And.right (by assumption))) | exact allLt_ne (And.right (And.right (And.right (by assumption)))) | exact allLt_ne (And.right (And.right (And.right (And.right (by assumption))))) | exact allLt_ne (And.right (And.right (And.right (And.right (And.right (by assumption)))))) | exact allLt_ne (And.right (And.right (And.right (And.right (And.right (And.right (by assumption))))))) | exact allLt_ne (And.right (And.right (And.right (And.right (And.right (And.right (And.right (by assumption)))))))) | exact allLt_ne (And.right (And.right (And.right (And.right (And.right (And.right (And.right (And.right (by assumption))))))))) | exact allLt_ne (And.right (And.right (And.right (And.right (And.right (And.right (And.right (And.right (And.right (by assumption)))))))))) | exact allLt_ne (And.right (And.right (And.right (And.right (And.right (And.right (And.right (And.right (And.right (And.right (by assumption))))))))))) | exact allLt_ne (And.right (And.right (And.right (And.right (And.right (And.right (And.right (And.right (And.right (And.right (And.right (by assumption)))))))))))) | exact allLt_ne (And.right (And.right (And.right (And.right (And.right (And.right (And.right (And.right (And.right (And.right (And.right (And.right (by assumption))))))))))))) | exact allLt_ne (And.right (And.right (And.right (And.right (And.right (And.right (And.right (And.right (And.right (And.right (And.right (And.right (And.right (by assumption)))))))))))))) | exact allLt_ne (And.right (And.right (And.right (And.right (And.right (And.right (And.right (And.right (And.right (And.right (And.right (And.right (And.right (And.right (by assumption))))))))))))))) | exact allLt_ne (And.right (And.right (And.right (And.right (And.right (And.right (And.right (And.right (And.right (And.right (And.right (And.right (And.right (And.right (And.right (by assumption)))))))))))))))) | exact allLt_ne (And.right (And.right (And.right (And.right (And.right (And.right (And.right (And.right (And.right (And.right (And.right (And.right (And.right (And.right (And.right (And.right (by assumption))))))))))))))))) | exact allLt_ne (And.right (And.right (And.right (And.right (And.right (And.right (And.right (And.right (And.right (And.right (And.right (And.right (And.right (And.right (And.right (And.right (And.right (by assumption)))))))))))))))))) | exact ltAll_ne (by assumption))
  k_with "cj" => (first | with_reducible exact And.left | (with_reducible refine cjR ?_; k_extra "cj"))
  k_with "ne0" => ((refine neN ?_; (try dsimp only); first | with_reducible assumption | exact Ne.symm (by with_reducible assumption) | exact Nat.ne_of_lt (by with_reducible assumption) | exact Nat.ne_of_gt (by with_reducible assumption) | exact neL (by with_reducible assumption) (by k_extra "cj") | exact neG (by with_reducible assumption) (by k_extra "cj") | exact neLT (by with_reducible assumption) (by with_reducible assumption) (by k_extra "cj") | exact neGT (by with_reducible assumption) (by with_reducible assumption) (by k_extra "cj")))
  k_with "steps0" => (repeat' (first | (k_unfold; (try dsimp only)) | (k_end; wrow_close) | (walk1; all_goals (try dsimp only)) | (dsimp only; walk1; all_goals (try dsimp only)) | (leave1; walk_say "STEP leave1"; try dsimp only) | fail "no step"))
  revert X; k_fill; intro X
  refine wpAny_call ?_
  k_dflt ktr_enter
  k_steps
  all_goals (
    refine ret _ _ _ _ _ _ (by assumption) (by assumption) (by assumption) ?_ ?_
    · exact Int.fmod_nonneg_of_pos _ (by omega)
    · exact Int.fmod_lt_of_pos _ (by omega))

theorem pickU {w : World} {mean : ExcName → Option Value} {mg mb : Str → Option Value} {dp un : Nat} {gd : Option (List Code)} {cn : Str} {cs : Scope} {a : Addr} {ccd : Value} {cl : List (Str × Addr)} {outer : List Env} {A₀ : Around} {base h₀ : Heap} {L : Addr} {m : Str → Option Value} {news : List (Addr × Obj)} {g : Obj → List (Addr × Obj)} {s : Shared}
    {Q E : Value → Shared → Prop} {b c : Addr} {ob oc : Obj} {k n : Int} {tn : Nat}
    (B : Below A₀ base outer h₀) (F : Fr h₀ L s.heap m) (X : (ktop.heap_1 w.params).In h₀) (N : News h₀ L s.heap news)
    (T : Top vw (looseW vw loose) mean mg mb h₀) (hk : cs.kind = .function)
    (U : UpdF b ob news g) (hbelt : Belt w b c ob oc k) (hc : (c, oc) ∈ news)
    (hk1 : k < 1000) (hn0 : 1 ≤ n) (hn1 : n ≤ 100000000)
    (hdp : dp + 1 < recursionLimit) (hun : un + 40 < cLine)
    (ret : ∀ r t h' tk' ob', Fr h₀ L h' m → News h₀ L h' (g ob') → Belt w b c ob' oc (k + 1) → 0 ≤ r → r < n → Q (.int r t) { s with heap := h', toks := tk' }) :
    wpAny (model PySem.Challenge.rw_pf0096_01.row.prog w) (ktrTop dp un gd cn cs L a ccd cl outer) (call (.ref 299) [.ref b, .int n tn]) Q E s := by
  obtain ⟨pre, post, e, hg, h1, h2⟩ := U.split
  obtain ⟨hne, ⟨t3, hb⟩, ⟨ys, ns, rfl, hi, hns, hl⟩, hlo, hhi⟩ := hbelt
  subst e
  have N' : News h₀ L s.heap ((b, ob) :: (c, LCg.lst ys) :: (pre ++ post)) := by
    intro p hp
    simp only [List.mem_cons, List.mem_append] at hp
    rcases hp with rfl | rfl | hp | hp
    · exact N _ (List.mem_append_right _ (.head _))
    · exact N _ hc
    · exact N _ (List.mem_append_left _ hp)
    · exact N _ (List.mem_append_right _ (.tail _ hp))
  refine pick0 B F X N' T hk ?_ hne hb hi hns hl hlo hhi hn0 hn1 hdp hun fun r t h' tk' ob' u3 F' N'' hb' hr0 hr1 => ret r t h' tk' ob' F' ?_ ⟨hne, ⟨_, hb'⟩, ⟨ys, ns, rfl, hi, hns, hl⟩, by omega, by omega⟩ hr0 hr1
  · intro p hp q hq
    rw [List.mem_singleton.mp hq]
    rcases List.mem_append.mp hp with hp | hp
    · exact h1 p hp
    · exact h2 p hp
  · rw [hg]
    intro p hp
    simp only [List.mem_cons, List.mem_append] at hp
    rcases hp with hp | rfl | hp
    · exact N'' _ (.tail _ (.tail _ (List.mem_append_left _ hp)))
    · exact N'' _ (.head _)
    · exact N'' _ (.tail _ (.tail _ (List.mem_append_right _ hp)))
end
section
def PostJ (h₀ : Heap) (L : Addr) (J : (Str → Option Value) → List (Addr × Obj) → Prop) (I : Addr) (oI : Obj) (s₁ : Shared) (Q : Flow → Shared → Prop) (f : Flow) (s₂ : Shared) : Prop :=
  match f with
  | .ret v => Q (.ret v) s₂
  | .brk => Q .next s₂
  | _ => ∃ h' tk m' nx, s₂ = { s₁ with heap := h', toks := tk } ∧ Fr h₀ L h' m' ∧ News h₀ L h' ((I, oI) :: nx) ∧ (∀ p ∈ nx, p.1 ≠ I) ∧ J m' nx
section
variable {prog : Program} {w : World} {A : Around} {E : Value → Shared → Prop} {s : Shared} {env : Env} {h₀ : Heap} {x : Str} {body : List Stmt} {Q : Flow → Shared → Prop}
theorem loopJ {I : Addr} {fp : List Addr} {n : Nat} {P : Nat → Value → Prop} {St : Nat → Heap → Prop} {m₀ : Str → Option Value} {news : List (Addr × Obj)} (J : Nat → (Str → Option Value) → List (Addr × Obj) → Prop)
    (W : Walks prog w A I fp [I] n P St) (hLf : env.locals ∉ fp) (hwr : h₀.get? I = none) (hlive : ∀ i h, St i h → ∃ o, h.get? I = some o)
    (hfix : ∀ b ∈ fp, b ≠ I → ∃ o, ∀ i m nx, J i m nx → (b, o) ∈ nx)
    (hfp : ∀ q ∈ news, q.1 ≠ I) (hst : St 0 s.heap) (F : Fr h₀ env.locals s.heap m₀) (N : News h₀ env.locals s.heap news) (hj : J 0 m₀ news)
    (turn : ∀ i v m₁ nx h tk oI, i < n → P i v → (∀ p ∈ nx, p.1 ≠ I) → J i m₁ nx → Fr h₀ env.locals h (fun y => if y = x then some v else m₁ y) → News h₀ env.locals h ((I, oI) :: nx) →
      wpAny (model prog w) A (execs body env) (PostJ h₀ env.locals (J (i + 1)) I oI { s with heap := h, toks := tk } Q) E { s with heap := h, toks := tk })
    (done : ∀ m₁ nx h tk, J n m₁ nx → Fr h₀ env.locals h m₁ → News h₀ env.locals h nx → Q .next { s with heap := h, toks := tk }) :
    LoopAtV prog w A h₀ env x body Q E (.ref I) s := by
  refine ⟨I, fp, [I], n, P, St, m₀, news, J, rfl, W, hLf, fun b hb => by rw [List.mem_singleton.mp hb]; exact hwr, fun p hp h => hfp p hp (List.mem_singleton.mp h), hst, F, N, hj, ?_, ?_⟩
  · rintro i v m₁ nx s₁ own ⟨hh', tk', rfl⟩ hin hP hJ hoff hown _ hall hst₁ F₁ N₁
    obtain ⟨oI, hoI⟩ := hlive _ _ hst₁
    have hI : (I, oI) ∈ own := hall I (W.sub I (List.mem_singleton.mpr rfl)) hwr oI hoI
    have N₂ : News h₀ env.locals hh' ((I, oI) :: nx) := fun p hp => (List.mem_cons.mp hp).elim (fun e => e ▸ N₁ _ (List.mem_append_left _ hI)) fun h => N₁ p (List.mem_append_right _ h)
    refine wpAny_mono (turn i v m₁ nx hh' tk' oI hin hP (fun p hp e => hoff p hp (List.mem_singleton.mpr e)) hJ F₁ N₂) (fun f s₂ p => ?_) fun _ _ e => e
    have fin : (∃ h' tk m' nx', s₂ = { ({ s with heap := hh', toks := tk' } : Shared) with heap := h', toks := tk } ∧ Fr h₀ env.locals h' m' ∧ News h₀ env.locals h' ((I, oI) :: nx') ∧ (∀ p ∈ nx', p.1 ≠ I) ∧ J (i + 1) m' nx') → LoopStepU h₀ env.locals [I] own (J (i + 1)) { s with heap := hh', toks := tk' } .next s₂ := by
      rintro ⟨h', tk, m', nx', e, F', N', ho, hm⟩
      refine ⟨rfl, h', tk, m', nx', e, F', fun p hp => ?_, fun p hp h => ho p hp (List.mem_singleton.mp h), hm⟩
      rcases List.mem_append.mp hp with hp | hp
      · have hp1 := (N₁ p (List.mem_append_left _ hp)).1
        by_cases e1 : p.1 = I
        · have e2 := (N₁ _ (List.mem_append_left _ hI)).1
          rw [e1] at hp1
          have e3 : p = (I, oI) := by
            have := hp1.symm.trans e2
            exact Prod.ext e1 (Option.some.inj this)
          rw [e3]
          exact N' _ (.head _)
        · obtain ⟨o, ho'⟩ := hfix p.1 (hown p hp) e1
          have e2 := (N₁ _ (List.mem_append_right _ (ho' _ _ _ hJ))).1
          have e3 : p = (p.1, o) := by
            have := hp1.symm.trans e2
            exact Prod.ext rfl (Option.some.inj this)
          rw [e3]
          exact N' _ (.tail _ (ho' _ _ _ hm))
      · exact N' p (.tail _ hp)
    cases f with
    | ret v => exact .ret p
    | brk => exact .brk p
    | next => exact .next (fin p)
    | cont => exact .cont (fin p)
  · rintro h' tk m' news' F' N' _ hJ
    exact done m' news' h' tk hJ F' N'

theorem iter_rangeJ {r : Addr} {a₀ b₀ : Int} {t₀ u₀ v₀ : Tok} {n : Nat} {m₀ : Str → Option Value} {news nx₀ : List (Addr × Obj)}
    (J : Nat → (Str → Option Value) → List (Addr × Obj) → Prop)
    (hh : A.handled = none) (hr : IsRange s.heap r a₀ b₀ 1 t₀ u₀ v₀) (hsmall : Builtin.Range.small a₀ b₀ 1 = true) (hn : Builtin.Range.rangeSize a₀ b₀ 1 = (n : Int)) (F : Fr h₀ env.locals s.heap m₀) (N : News h₀ env.locals s.heap news) (hsub : ∀ p ∈ nx₀, p ∈ news) (hJ : J 0 m₀ nx₀)
    (turn : ∀ i t m₁ nx h tk I oI, i < n → (∀ p ∈ nx, p.1 ≠ I) → J i m₁ nx → Fr h₀ env.locals h (fun y => if y = x then some (.int (a₀ + (i : Int)) t) else m₁ y) → News h₀ env.locals h ((I, oI) :: nx) →
      wpAny (model prog w) A (execs body env) (PostJ h₀ env.locals (J (i + 1)) I oI { s with heap := h, toks := tk } Q) E { s with heap := h, toks := tk })
    (done : ∀ m₁ nx h tk, J n m₁ nx → Fr h₀ env.locals h m₁ → News h₀ env.locals h nx → Q .next { s with heap := h, toks := tk }) :
    wpAny (model prog w) A (pyIter (.ref r)) (fun it s₂ => LoopAtV prog w A h₀ env x body Q E it s₂) E s := by
  refine wpAny_pyIter_range hr hsmall ?_
  have W : Walks prog w A s.heap.objs.size [s.heap.objs.size] [s.heap.objs.size] n (fun i v => i < n ∧ ∃ t, v = .int (a₀ + i * 1) t)
      (fun i h => IsRangeIter h s.heap.objs.size (a₀ + (i : Nat) * 1) ((n : Int) - (i : Nat)) 1) := (Walks.range hh _ a₀ 1 n).bound
  refine loopJ J W ?_ (next_is_new F) (fun i h hi => ⟨_, hi⟩) (fun b hb hne => absurd (List.mem_singleton.mp hb) hne) ?_ (by show IsRangeIter _ _ _ _ _; rw [hn]; simpa using Heap.get?_push_size _ rfl) (F.push _) (fun p hp => ⟨Heap.get?_push_of_some _ (N p (hsub p hp)).1, (N p (hsub p hp)).2⟩) hJ ?_ ?_
  · intro hm
    exact absurd F.ns.lt ((List.mem_singleton.mp hm) ▸ Nat.lt_irrefl _)
  · intro p hp hI
    exact absurd (Heap.lt_size (N p (hsub p hp)).1) (hI ▸ Nat.lt_irrefl _)
  · rintro i v m₁ nx h tk oI hin ⟨_, t, rfl⟩ ho hJ F₁ N₁
    rw [Int.mul_one] at F₁
    exact turn i t m₁ nx h tk _ oI hin ho hJ F₁ N₁
  · exact done

theorem iter_listJ {l : Addr} {vs : List Value} {ns : List Int} {k : Nat} {m₀ : Str → Option Value} {news nx₀ : List (Addr × Obj)}
    (J : Nat → (Str → Option Value) → List (Addr × Obj) → Prop)
    (hh : A.handled = none) (hi : IntsAre vs ns) (F : Fr h₀ env.locals s.heap m₀) (N : News h₀ env.locals s.heap news) (hsub : ∀ p ∈ nx₀, p ∈ news) (hJ : J 0 m₀ nx₀)
    (hfix : ∀ i m nx, J i m nx → (l, W.listOf vs.toArray k) ∈ nx)
    (turn : ∀ i n t m₁ nx h tk I oI, ns[i]? = some n → (∀ p ∈ nx, p.1 ≠ I) → J i m₁ nx → Fr h₀ env.locals h (fun y => if y = x then some (.int n t) else m₁ y) → News h₀ env.locals h ((I, oI) :: nx) →
      wpAny (model prog w) A (execs body env) (PostJ h₀ env.locals (J (i + 1)) I oI { s with heap := h, toks := tk } Q) E { s with heap := h, toks := tk })
    (done : ∀ m₁ nx h tk, J ns.length m₁ nx → Fr h₀ env.locals h m₁ → News h₀ env.locals h nx → Q .next { s with heap := h, toks := tk }) :
    wpAny (model prog w) A (pyIter (.ref l)) (fun it s₂ => LoopAtV prog w A h₀ env x body Q E it s₂) E s := by
  have Nl := N _ (hsub _ (hfix _ _ _ hJ))
  have hls : s.heap.IsList l vs.toArray := ⟨_, Nl.1, rfl, _, rfl⟩
  have hlt : l < s.heap.objs.size := Heap.lt_size Nl.1
  have hne : l ≠ s.heap.objs.size := Nat.ne_of_lt hlt
  refine wpAny_pyIter_list hls ?_
  have W := Walks.list (prog := prog) (w := w) hh s.heap.objs.size l hne vs.toArray
  have hlen : vs.toArray.size = ns.length := by simp [hi.length]
  rw [hlen] at W
  refine loopJ J W ?_ (next_is_new F) (fun i h hi => let ⟨o, ho, _⟩ := hi.1; ⟨o, ho⟩) (fun b hb hne' => ?_) ?_ ⟨⟨_, Heap.get?_push_size _ rfl, rfl, rfl⟩, hls.at fun o e => Heap.get?_push_of_some _ e⟩ (F.push _) (fun p hp => ⟨Heap.get?_push_of_some _ (N p (hsub p hp)).1, (N p (hsub p hp)).2⟩) hJ ?_ ?_
  · intro hm
    rcases List.mem_cons.mp hm with e | hm
    · exact absurd F.ns.lt (e ▸ Nat.lt_irrefl _)
    · exact Nl.2.1 (List.mem_singleton.mp hm).symm
  · rcases List.mem_cons.mp hb with e | hb
    · exact absurd e hne'
    · rw [List.mem_singleton.mp hb]
      exact ⟨_, hfix⟩
  · intro p hp hI
    exact absurd (Heap.lt_size (N p (hsub p hp)).1) (hI ▸ Nat.lt_irrefl _)
  · intro i v m₁ nx h tk oI hin hP ho hJ F₁ N₁
    obtain ⟨t, hx⟩ := hi.get i ns[i] (by simp [hin])
    have hv : v = .int ns[i] t := by
      have hP' : vs[i]? = some v := by simpa using hP
      rw [hx] at hP'; exact (Option.some.inj hP').symm
    subst hv
    exact turn i ns[i] t m₁ nx h tk _ oI (by simp [hin]) ho hJ F₁ N₁
  · exact done
end
end
section
def Stop (P : Prop) : Prop := P
theorem Stop.mk' {P : Prop} (h : Stop P) : P := h
end
section
def TracP (h base : Heap) (e : Addr) (P : Obj → Prop) (fl : Value) : Prop :=
  ∃ oe vs T oT ts, h.get? e = some oe ∧ P oe ∧ oe.data = .fields vs ∧ vs[1]? = some (.ref T) ∧ base.get? T = none ∧ T ≠ e ∧ h.get? T = some oT ∧ oT.data = .fields ts ∧ ts[3]? = some fl
def NotP (base : Heap) (l : List Env) (e : Addr) (P : Obj → Prop) (fl : Value) (h h' : Heap) : Prop :=
  base.StaysIn h' ∧ h'.FunFrames base l ∧ TracP h' base e P fl ∧ h.UpToSlots h'
def FlyP (base : Heap) (l : List Env) (e : Addr) (P : Obj → Prop) (fl : Value) (h : Heap) : Prop :=
  base.StaysIn h ∧ base.get? e = none ∧ h.FunFrames base l ∧ TracP h base e P fl
section
variable {M : Model} {A : Around} {E : Value → Shared → Prop} {s : Shared} {P : Obj → Prop}

theorem entryP (hP : ∀ o f, P o → P (Obj.mapFields f o)) {base : Heap} {env : Env} {outer : List Env} {L e : Addr} {oe : Obj} {vs : Array Value} {head : Value} {hadNext : Bool} {Q : Unit → Shared → Prop}
    (hfr : A.frames = some (env :: outer)) (hl : s.heap.FunFrames base (env :: outer)) (hf : env.frame = some L)
    (he : s.heap.get? e = some oe) (hp : P oe) (hkb : base.StaysIn s.heap) (hen : base.get? e = none) (hd : oe.data = .fields vs) (hsz : 1 < vs.size)
    (h : ∀ h', NotP base (env :: outer) e P (rawInt L) s.heap h' → Q () { s with heap := h' }) :
    wpAny M A (do let a ← frameOf env; let pl ← entryPlaceOf L hadNext; let b ← EntryCells.newEntry head a .none (rawInt L) .none pl; setField (.ref e) 1 b) Q E s := by
  have hene : e ∉ (env :: outer).filterMap (·.frame) := fun hm => by
    obtain ⟨_, o, ho, hnf⟩ := hl.mem hm
    rw [he] at ho; injection ho with ho; subst ho; exact hnf vs hd
  refine wpAny_bind (wpAny_frameOf_fun hfr hl hf fun h₁ hs₁ => ?_)
  refine wpAny_bind (wpAny_entryPlaceOf fun pl hpl => ?_)
  unfold EntryCells.newEntry newFields
  refine wpAny_bind (wpAny_newObj_type ?_ (hpl.sizeOk5 _ _ _ _ _))
  have he₁ : h₁.get? e = some oe := (hs₁.2.1 e hene).trans he
  have kb₁ : base.StaysIn h₁ := fun b o hbo => (hs₁.2.1 b fun hm => by rw [(hl.mem hm).1] at hbo; cases hbo).trans (hkb b o hbo)
  generalize hT : ({ cls := .type "traceback", dict := none, data := .fields ([head, .ref L, .none, rawInt L, .none] ++ (if pl.isEmpty then List.replicate 6 Value.none else pl)).toArray } : Obj) = oT
  have hTf : oT.isFreed = false := by subst hT; rfl
  have hTd : oT.data = .fields ([head, .ref L, .none, rawInt L, .none] ++ (if pl.isEmpty then List.replicate 6 Value.none else pl)).toArray := by subst hT; rfl
  have he₂ := Heap.get?_push_of_some (h := h₁) oT he₁
  refine wpAny_setField he₂ hd hsz (h _ ?_)
  have hTe : h₁.objs.size ≠ e := Nat.ne_of_gt (Heap.lt_size he₁)
  have hd₃ := Obj.data_mapFields hd (·.setIfInBounds 1 (Value.ref h₁.objs.size))
  have he₃ := Heap.get?_update_self (Obj.mapFields (·.setIfInBounds 1 (Value.ref h₁.objs.size))) he₂ (Obj.isFreed_of_fields hd₃)
  have hT₃ := (Heap.get?_update_other (h₁.push oT) (Obj.mapFields (·.setIfInBounds 1 (Value.ref h₁.objs.size))) (Ne.symm hTe)).trans (Heap.get?_push_size h₁ hTf)
  have keep : ∀ b o, b ≠ e → h₁.get? b = some o → ((h₁.push oT).update e (Obj.mapFields (·.setIfInBounds 1 (Value.ref h₁.objs.size)))).get? b = some o := fun b o hbe hb => by
    rw [Heap.get?_update_other _ _ (Ne.symm hbe)]
    exact Heap.get?_push_of_some _ hb
  have noRecord : ∀ b o, s.heap.get? b = some o → (∀ vs, o.data ≠ .fields vs) → b ≠ e := fun b o hb hnf q => by
    rw [q, he] at hb; injection hb with hb; subst hb; exact hnf vs hd
  refine ⟨fun b o hbo => keep b o (fun q => by rw [q, hen] at hbo; cases hbo) (kb₁ b o hbo), hl.of_keeps fun b o hb hnf => ?_, ?_, fun b o hb hnf => ?_⟩
  · obtain ⟨sl, hs⟩ := hs₁.2.2 b o hb
    exact ⟨_, keep b _ (noRecord b o hb hnf) hs, rfl⟩
  · exact ⟨_, _, h₁.objs.size, _, _, he₃, hP _ _ hp, hd₃, by simp [hsz], kb₁.fresh, hTe, hT₃, hTd, by simp⟩
  · obtain ⟨sl, hs⟩ := hs₁.2.2 b o hb
    exact ⟨sl, keep b _ (noRecord b o hb hnf) hs⟩

theorem flightP {base : Heap} {l : List Env} {e : Addr} {fl : Value} {Q : Unit → Shared → Prop} (hx : FlyP base l e P fl s.heap)
    (h : ∀ h', FlyP base l e P .none h' → s.heap.UpToSlots h' → Q () { s with heap := h' }) :
    wpAny M A (setFlight (.ref e) none) Q E s := by
  obtain ⟨hkb, hen, hl, oe, vs, T, oT, ts, he, hp, hd, h1, hnT, hTe, hT, hdT, h3⟩ := hx
  have hsz3 : 3 < ts.size := (Array.getElem?_eq_some_iff.mp h3).1
  have other : ∀ b, b ≠ T → (s.heap.update T (Obj.mapFields (·.setIfInBounds 3 ((none : Option Addr).elim Value.none fun f => rawInt f)))).get? b = s.heap.get? b :=
    fun b hb => Heap.get?_update_other _ _ (Ne.symm hb)
  have noRecord : ∀ b o, s.heap.get? b = some o → (∀ vs, o.data ≠ .fields vs) → b ≠ T := fun b o hb hnf q => by
    rw [q, hT] at hb; injection hb with hb; subst hb; exact hnf ts hdT
  unfold setFlight
  refine wpAny_bind (wpAny_field he hd h1 ?_)
  rw [if_pos (show (Value.ref T != Value.none) = true from by simp)]
  refine wpAny_setField hT hdT hsz3 (h _ ⟨fun b o hbo => (other b fun q => by rw [q, hnT] at hbo; cases hbo).trans (hkb b o hbo), hen,
    hl.of_keeps fun b o hb hnf => ⟨o, (other b (noRecord b o hb hnf)).trans hb, rfl⟩, ?_⟩ fun b o hb hnf => ⟨o.slots, (other b (noRecord b o hb hnf)).trans hb⟩)
  exact ⟨oe, vs, T, _, _, (other e (Ne.symm hTe)).trans he, hp, hd, h1, hnT, hTe, Heap.get?_update_self _ hT (Obj.isFreed_of_fields (Obj.data_mapFields hdT _)), Obj.data_mapFields hdT _, by simp [hsz3]⟩

theorem leaveFirstP (hP : ∀ o f, P o → P (Obj.mapFields f o)) {base : Heap} {env : Env} {outer : List Env} {L e : Addr} {oe : Obj} {vs : Array Value} {Q : Unit → Shared → Prop}
    (hfr : A.frames = some (env :: outer)) (hl : s.heap.FunFrames base (env :: outer)) (hf : env.frame = some L)
    (he : s.heap.get? e = some oe) (hp : P oe) (hkb : base.StaysIn s.heap) (hen : base.get? e = none) (hd : oe.data = .fields vs) (h1 : vs[1]? = some .none)
    (h : ∀ h', FlyP base outer e P .none h' → s.heap.UpToSlots h' → Q () { s with heap := h' }) : wpAny M A (leaving env (.ref e)) Q E s := by
  unfold leaving noteFrame
  simp only [hf]
  refine wpAny_bind (wpAny_bind (wpAny_field he hd h1 ?_))
  rw [if_neg (by decide)]
  refine entryP hP hfr hl hf he hp hkb hen hd (Array.getElem?_eq_some_iff.mp h1).1 fun h' x => ?_
  obtain ⟨x1, x2, x3, x4⟩ := x
  refine flightP (base := base) (l := env :: outer) ⟨x1, hen, x2, x3⟩ fun h'' y z => ?_
  obtain ⟨y1, y2, ⟨_, _, y3⟩, y4⟩ := y
  exact h h'' ⟨y1, y2, y3, y4⟩ (x4.trans z)

theorem noteNextP (hP : ∀ o f, P o → P (Obj.mapFields f o)) {base : Heap} {env : Env} {outer : List Env} {L e : Addr} {Q : Unit → Shared → Prop}
    (hfr : A.frames = some (env :: outer)) (hf : env.frame = some L) (hx : FlyP base (env :: outer) e P .none s.heap)
    (h : ∀ h', FlyP base (env :: outer) e P (rawInt L) h' → s.heap.UpToSlots h' → Q () { s with heap := h' }) : wpAny M A (noteFrame (.ref e) env) Q E s := by
  obtain ⟨hkb, hen, hl, oe, vs, T, oT, ts, he, hp, hd, h1, hnT, hTe, hT, hdT, h3⟩ := hx
  unfold noteFrame
  simp only [hf]
  refine wpAny_bind (wpAny_field he hd h1 ?_)
  rw [if_pos (show (Value.ref T != Value.none) = true from by simp)]
  refine wpAny_bind (wpAny_field hT hdT h3 ?_)
  rw [if_neg (show ¬ ((Value.none == rawInt L) = true) from by simp [rawInt])]
  refine wpAny_bind (wpAny_setField hT hdT (Array.getElem?_eq_some_iff.mp h3).1 ?_)
  have other : ∀ b, b ≠ T → (s.heap.update T (Obj.mapFields (·.setIfInBounds 3 Value.none))).get? b = s.heap.get? b := fun b hb => Heap.get?_update_other _ _ (Ne.symm hb)
  have noRecord : ∀ b o, s.heap.get? b = some o → (∀ vs, o.data ≠ .fields vs) → b ≠ T := fun b o hb hnf q => by
    rw [q, hT] at hb; injection hb with hb; subst hb; exact hnf ts hdT
  refine entryP hP hfr (hl.of_keeps fun b o hb hnf => ⟨o, (other b (noRecord b o hb hnf)).trans hb, rfl⟩) hf ((other e (Ne.symm hTe)).trans he) hp
    (fun b o hbo => (other b fun q => by rw [q, hnT] at hbo; cases hbo).trans (hkb b o hbo)) hen hd (Array.getElem?_eq_some_iff.mp h1).1 fun h' x => ?_
  obtain ⟨x1, x2, x3, x4⟩ := x
  exact h h' ⟨x1, hen, x2, x3⟩ fun b o hb hnf => x4 b o ((other b (noRecord b o hb hnf)).trans hb) hnf
end
end
section
def RaisedD (base G : Heap) (l : List Env) (e : Addr) (P : Obj → Prop) (news : List (Addr × Obj)) (h : Heap) : Prop :=
  ∃ B, base.StaysIn B ∧ (∀ b o, G.get? b = some o → b ∉ l.filterMap (·.frame) → B.get? b = some o) ∧ (∀ q ∈ news, B.get? q.1 = some q.2 ∧ G.get? q.1 = none ∧ base.get? q.1 = none) ∧ FlyP B l e P .none h
section
variable {M : Model} {A : Around} {E : Value → Shared → Prop} {s' : Shared} {base g : Heap} {outer : List Env} {L a e : Addr} {m : Str → Option Value} {name : Str} {scope : Scope} {cd : Value} {Q : Unit → Shared → Prop} {news : List (Addr × Obj)} {P : Obj → Prop} {oe : Obj} {vs : Array Value}
theorem leave_raiseD (hP : ∀ o f, P o → P (Obj.mapFields f o)) (K : Below A base outer g) (F : Fr g L s'.heap m) (N : News g L s'.heap ((e, oe) :: news)) (hne : ∀ p ∈ news, p.1 ≠ e) (hp : P oe) (hd : oe.data = .fields vs) (h1 : vs[1]? = some .none)
    (hQ : ∀ h', RaisedD base g outer e P news h' → g.UpToSlots h' → Q () { s' with heap := h' }) (hk : scope.kind = .function := by rfl) :
    wpAny M (A.deeper (envOf name scope L a cd)) (leaving (envOf name scope L a cd) (.ref e)) Q E s' := by
  have K' := K.push (name := name) (a := a) (cd := cd) F hk
  have Ne := N _ (.head _)
  have hin : ∀ env ∈ (envOf name scope L a cd :: outer), ∀ b, env.frame = some b → b ∈ e :: (envOf name scope L a cd :: outer).filterMap (·.frame) := fun env he b hb => .tail _ (List.mem_filterMap.mpr ⟨env, he, hb⟩)
  have ebase : base.get? e = none := fresh_of_stays K.stays Ne.2.2
  have st : base.StaysIn (hideAll s'.heap (e :: (envOf name scope L a cd :: outer).filterMap (·.frame))) := fun b o q => hideAll_get _ (K'.stays b o q) fun hm => by
    rcases List.mem_cons.mp hm with z | hm
    · rw [z, ebase] at q; cases q
    · rw [(K'.frames.mem hm).1] at q; cases q
  have sg : ∀ b o, g.get? b = some o → b ∉ outer.filterMap (·.frame) → (hideAll s'.heap (e :: (envOf name scope L a cd :: outer).filterMap (·.frame))).get? b = some o := fun b o q nm => hideAll_get _ (F.keep b o q) fun hm => by
    rcases List.mem_cons.mp hm with z | hm
    · rw [z, Ne.2.2] at q; cases q
    rcases kts_mem hm with z | z
    · rw [z, kts_self F] at q
      cases q
    · exact nm z
  have hl : ∀ q ∈ news, (hideAll s'.heap (e :: (envOf name scope L a cd :: outer).filterMap (·.frame))).get? q.1 = some q.2 ∧ g.get? q.1 = none ∧ base.get? q.1 = none := fun q hq => by
    have Nq := N q (.tail _ hq)
    refine ⟨hideAll_get _ Nq.1 fun hm => ?_, Nq.2.2, fresh_of_stays K.stays Nq.2.2⟩
    rcases List.mem_cons.mp hm with z | hm
    · exact hne q hq z
    obtain ⟨env, he, hf⟩ := List.mem_filterMap.mp hm
    rcases List.mem_cons.mp he with rfl | he
    · exact Nq.2.1 (Option.some.inj hf).symm
    · obtain ⟨o, ho, _⟩ := (K.frames.mem (List.mem_filterMap.mpr ⟨env, he, hf⟩)).2
      rw [Nq.2.2] at ho; cases ho
  refine leaveFirstP hP K'.stack (funFrames_hide K'.frames hin) rfl Ne.1 hp (fun b o q => of_hideAll _ q) (hideAll_none _ (.head _)) hd h1 fun h' x y => ?_
  exact hQ h' ⟨_, st, sg, hl, x⟩ ((Heap.UpToSlots.of_keeps F.keep).trans y)
end

def PC (C dx : Addr) (o : Obj) : Prop := o.cls = .ref C ∧ o.dict = some dx
theorem PC.map {C dx : Addr} : ∀ o f, PC C dx o → PC C dx (Obj.mapFields f o) := fun o f h => by
  obtain ⟨c, d, dt, sl⟩ := o
  cases dt <;> exact h

section
variable {prog : Program} {w : World} {A₀ : Around} {E : Value → Shared → Prop} {s' : Shared} {base g G : Heap} {outer : List Env} {L a e C dx : Addr} {m : Str → Option Value} {name : Str} {scope : Scope} {cd : Value}
  {n : Str} {b₀ : Stmt} {suite : List Stmt} {pos np : Pos} {rest : List ExceptHandler} {Q : Flow → Shared → Prop} {news : List (Addr × Obj)} {KF : Frag}
  {p : Program} {loose : List Str} {mean : ExcName → Option Value} {mg mb : Str → Option Value} {x : Str}

theorem caught_D (R : RaisedD base G (envOf name scope L a cd :: outer) e (PC C dx) news s'.heap) (F : Fr g L G m) (K : Below A₀ base outer g) (hsm : G.UpToSlots s'.heap) (XB : KF.In base) (TB : Top p loose mean mg mb base)
    (ex : nsIn KF mainGlobals x = some (some (.ref C))) (q : ktsIn KF C "BaseException" = true)
    (k : ∀ h' g' vs sl tk, KtsTurn (outer.filterMap (·.frame)) g g' → Fr g' L h' (fun y => if y = n then some (.ref e) else m y) → News g' L h' ((e, ⟨.ref C, some dx, .fields vs, sl⟩) :: news) → Below A₀ base outer g' → KF.In g' → Top p loose mean mg mb g' →
      wpAny (model prog w) ((A₀.deeper (envOf name scope L a cd)).mark (some (.ref e))) (execs (b₀ :: suite) (envOf name scope L a cd))
        (fun f s₄ => wpAny (model prog w) (A₀.deeper (envOf name scope L a cd)) (do bindName (envOf name scope L a cd) n .none; unbindBehindTheSuite (envOf name scope L a cd) n pos) (fun _ s₅ => Q f s₅) E s₄)
        (AsSuiteRaised (model prog w) ((A₀.deeper (envOf name scope L a cd)).mark (some (.ref e))) (envOf name scope L a cd) n pos (notedBy (model prog w) ((A₀.deeper (envOf name scope L a cd)).mark (some (.ref e))) (envOf name scope L a cd) (cameBackBy (model prog w) (A₀.deeper (envOf name scope L a cd)) (envOf name scope L a cd) E)))
        { s' with heap := h', toks := tk })
    (hk : scope.kind = .function := by rfl) (hlo : (envOf name scope L a cd).kindOf n = some .local := by rfl) (hx : (envOf name scope L a cd).kindOf x = some .globalImplicit := by rfl) (hd : (x == ("__debug__" : Str)) = false := by decide) :
    wpAny (model prog w) (A₀.deeper (envOf name scope L a cd)) (noteFrame (.ref e) (envOf name scope L a cd))
      (fun _ s₂ => wpAny (model prog w) (A₀.deeper (envOf name scope L a cd)) (setFlight (.ref e) none) (fun _ s₃ =>
        wpAny (model prog w) (A₀.deeper (envOf name scope L a cd)) (handleBy (.ref e) (envOf name scope L a cd) (.ExceptHandler (some (.Name x np)) (some n) (b₀ :: suite) pos :: rest)) Q E s₃) E s₂) E s' := by
  obtain ⟨B, hB, hBG, hl, hfl⟩ := R
  have hL : B.get? L = none := by
    obtain ⟨_, ⟨L', _, hf, hn', _⟩, _⟩ := hfl.2.2.1
    obtain rfl : L = L' := Option.some.inj hf
    exact hn'
  refine noteNextP PC.map (Around.frames_deeper K.stack) rfl hfl fun h₄ hheld₄ hsm₄ => ?_
  refine flightP hheld₄ fun h₅ hheld hsm₅' => ?_
  have hsm₅ := hsm₄.trans hsm₅'
  obtain ⟨g₅, T₅, F₅, K₅⟩ := kts_ground K F hBG hheld.1 (hsm.trans hsm₅)
  have X₅ : KF.In g₅ := XB.keeps K₅.stays
  have P₅ : TopRead p loose mg mb g₅ := topRead_of (TB.keeps K₅.stays)
  obtain ⟨ob, _, _, _, _, hob, hobc, _⟩ := hheld.2.2.2
  obtain ⟨nm, q', N, bs, bm, hdct, sn, sub, ab, col, dd, k0, k1, k2, k3, k5, newId, hC, hbase, hbT⟩ := kts_cls X₅ q
  have hC₅ := F₅.keep _ _ hC
  refine wpAny_handleBy_cons (codeAny_handlers_test (name_K F₅ X₅ P₅ ex ?_ hk hx hd)) (by intro q; cases q)
  refine wpAny_excMatches_sub_self hC₅ hob hobc.1 hbase (codeAny_handlers_suite_as ?_)
  refine flightP hheld fun h₆ hfl₆ hsm₆ => ?_
  obtain ⟨g₆, T₆, F₆, K₆⟩ := kts_ground K F hBG hfl₆.1 ((hsm.trans hsm₅).trans hsm₆)
  obtain ⟨oe, vs, _, _, _, hoe, ⟨hoec, hoed⟩, hoeD, _⟩ := hfl₆.2.2.2
  have ne₆ : g₆.get? e = none := T₆.none_ _ (kts_fresh F hBG hfl₆.2.1 fun o ho m => by
    obtain ⟨_, o', ho', hd⟩ := K.frames.mem m
    rw [ho] at ho'
    cases ho'
    obtain ⟨sl, hs⟩ := ((hsm.trans hsm₅).trans hsm₆) _ _ (F.keep _ _ ho) hd
    rw [hoe] at hs
    cases hs
    exact hd _ hoeD)
  have N₆ := News.more F₆ News.nil hoe (fun es n q => by rw [hoeD] at q; cases q) ne₆
  have Nl : News g₆ L h₆ news := fun q hq => ⟨hfl₆.1 _ _ (hl q hq).1, (fun z => by have := (hl q hq).1; rw [z, hL] at this; cases this), T₆.none_ _ (kts_none F.keep (hl q hq).2.1)⟩
  have X₆ : KF.In g₆ := XB.keeps K₆.stays
  have P₆ : Top p loose mean mg mb g₆ := TB.keeps K₆.stays
  obtain ⟨oec, oed, oeda, oesl⟩ := oe
  dsimp only at hoec hoed hoeD
  subst hoec hoed hoeD
  refine stN F₆ (news := _ ++ news) (fun q hq => (List.mem_append.mp hq).elim (N₆ q) (Nl q)) (fun h₇ F₇ N₇ => ?_) hk hlo
  exact k h₇ g₆ vs oesl _ T₆ F₇ N₇ K₆ X₆ P₆
end
end
section
open Builtin Builtin.ObjectAttr
section
variable {prog : Program} {w : World} {A : Around} {E : Value → Shared → Prop} {s : Shared} {K : Frag} {x C dx L : Addr} {h₀ : Heap} {m : Str → Option Value} {news news' : List (Addr × Obj)} {ox : Obj} {od : Option Obj} {es es' : List DictEntry} {n n' : Nat} {name : Str} {v : Value} {cd : ClassData} {R : Result → Shared → Prop}

theorem osa_openE {tk : Tok} (X : K.In s.heap) (I : InstAt s.heap x ox C od) (hc : clsIn K C = some cd) (hr : ∀ self, refuseLoop self "__setattr__" cd.mro = pure ()) (ho : cd.mro.contains (.type "object") = true) (ne : cd.mro.isEmpty = false) (ht : takerIn K C name = some none)
    (h : ∀ b, wpAny (model prog w) A.in1 (storeInOwnDict (.ref x) (.ref C) (.str name tk) name v b)
      (fun fin s' => match fin with | .done f => R (.ok f) s' | .again c' => c'.quiet = true ∧ codeAny (model prog w) A c' R s') (fun e s' => R (.error e) s') s) :
    codeAny (model prog w) A (.call (.builtin "object.__setattr__") ⟨[.ref x, .str name tk, v], []⟩) R s := by
  have SF := PySem.F.store_object
  have sub : Looks (model prog w) s.heap (isInstance (.ref x) (.type "object")) true := I.type.andThen (looks_mroIn X (by unfold mroIn; rw [hc, Option.bind_some, if_neg (by rw [ne]; decide), ho]))
  refine codeAny_call_builtin SF.slot.plain SF.entry (@check_slot (model prog w) _ _ s "object.__setattr__" "object" "__setattr__" (.ref x) [.str name tk, v] [] _ SF.kind SF.split sub (SF.args (.ref x) (.str name tk) v) ?_)
  obtain ⟨attr, ha, hr'⟩ := Option.bind_eq_some_iff.mp ht
  have hm : Looks (model prog w) s.heap (mroOf (.ref C)) cd.mro := (looks_clsIn X hc).andThen .now
  have L3 : Looks (model prog w) s.heap (storeTaker? attr) none := by
    cases attr with
    | none => exact .now
    | some a =>
      obtain ⟨b, hb, hb'⟩ := Option.map_eq_some_iff.mp hr'
      refine (looks_takesIn X hb).andThen ?_
      cases b with
      | true => cases hb'
      | false => exact .now
  rw [osa_eq, refuse_eq]
  refine wpAny_bind (wpAny_bind (I.type.here (wpAny_bind (hm.here ?_))))
  rw [hr]
  refine wpAny_pure (wpAny_bind (I.type.here (wpAny_bind ((looks_findIn X ha).here (wpAny_bind (L3.here ?_))))))
  exact h _

theorem store_dictE {tk : Tok} {Q : Fin → Shared → Prop} (F : Fr h₀ L s.heap m) (N : News h₀ L s.heap news) (hl : (getL name es).isSome = true)
    (e : (putL name (PyData.keyHash w.params name) (.str name s.toks) v es, putN name es n) = (es', n')) (U : Upd dx (dictOf es n) (dictOf es' n') news news') (hz : es'.length ≤ 1000)
    (h : ∀ h', Fr h₀ L h' m → News h₀ L h' news' → Q (.done (.ret .none)) { s with heap := h', toks := s.toks + 1 }) :
    wpAny (model prog w) A (storeInDict dx (.str name tk) name v) Q E s := by
  obtain ⟨pre, post, rfl, rfl, h1, h2⟩ := U.split
  obtain ⟨e1, e2⟩ := Prod.mk.inj e
  obtain ⟨U1, U2⟩ := news_upd (f := Obj.putName name (PyData.keyHash w.params name) (.str name s.toks) v) F N h1 h2 (by rw [putName_dict, e1, e2]) rfl
  have D := (N (dx, dictOf es n) (by simp)).1
  have D' := (U2 (dx, dictOf es' n') (by simp)).1
  unfold storeInDict
  refine wpAny_bind (wpAny_pure (wpAny_bind ?_))
  unfold nsSet
  refine wpAny_bind (wpAny_bind (wpAny_askSetting (wpAny_pure (wpAny_bind (wpAny_mkText (wpAny_bind (wpAny_loadPart D ?_)))))))
  dsimp only
  have c : (!es.toArray.any (·.key.isStr name) && es.toArray.any (·.refKey)) = false := by
    rw [← Array.any_toList, ← Array.any_toList]
    unfold getL at hl
    split at hl
    · rename_i en he
      rw [List.any_eq_true.mpr ⟨en, List.mem_of_find?_eq_some he, List.find?_some he⟩]; rfl
    · split at hl
      · cases hl
      · rename_i z; rw [Bool.not_eq_true] at z; rw [z, Bool.and_false]
  rw [aRefKeyMayBeTheName_at, c]
  refine wpAny_updatePart D ?_
  refine wpAny_bind (wpAny_lookBehind D' (pastItsLine_dict (by rw [List.size_toArray, sizeLine_eq]; omega)) ?_)
  exact wpAny_pure (h _ U1 U2)

theorem set_oldE {vs : Array Value} {sl : Array (Option Value)} {Q : Unit → Shared → Prop} (F : Fr h₀ L s.heap m) (X : K.In h₀) (N : News h₀ L s.heap news)
    (hx : (x, (⟨.ref C, some dx, .fields vs, sl⟩ : Obj)) ∈ news) (hdx : (dx, dictOf es n) ∈ news)
    (hs : findIn K (.ref C) "__setattr__" = some (some (.builtin "object.__setattr__"))) (hc : clsIn K C = some cd) (hd : cd.hasDict = true) (hr : ∀ self, refuseLoop self "__setattr__" cd.mro = pure ()) (ho : cd.mro.contains (.type "object") = true) (ne : cd.mro.isEmpty = false) (ht : takerIn K C name = some none)
    (hl : (getL name es).isSome = true)
    (e : (putL name (PyData.keyHash w.params name) (.str name (s.toks + 1)) v es, putN name es n) = (es', n')) (U : Upd dx (dictOf es n) (dictOf es' n') news news') (hz : es'.length ≤ 1000)
    (h : ∀ h', Fr h₀ L h' m → News h₀ L h' news' → Q () { s with heap := h', toks := s.toks + 2 }) :
    wpAny (model prog w) A (setAttr (.ref x) name v) Q E s := by
  have Xh := X.keeps F.keep
  have I : InstAt s.heap x ⟨.ref C, some dx, .fields vs, sl⟩ C (some (dictOf es n)) := ⟨(N _ hx).1, rfl, rfl, (N _ hdx).1⟩
  refine set_plain Xh I hs ?_
  refine osa_openE (s := { s with toks := s.toks + 1 }) Xh I hc hr ho ne ht fun b => ?_
  refine wpAny_bind (wpAny_pure (wpAny_bind (wpAny_bind (wpAny_loadPart (N _ hx).1 (wpAny_bind (looks_clsIn Xh hc _ _ _ _ (fun _ _ e => e) ?_))))))
  rw [hd]
  refine wpAny_pure (a := some dx) ?_
  refine store_dictE (s := { s with toks := s.toks + 1 }) F N hl e U hz fun h' F' N' => ?_
  exact h h' F' N'

theorem set_newE {vs : Array Value} {sl : Array (Option Value)} {g : Obj → List (Addr × Obj)} {Q : Unit → Shared → Prop} (F : Fr h₀ L s.heap m) (X : K.In h₀) (N : News h₀ L s.heap news)
    (U : UpdF x (⟨.ref C, none, .fields vs, sl⟩ : Obj) news g)
    (hs : findIn K (.ref C) "__setattr__" = some (some (.builtin "object.__setattr__"))) (hc : clsIn K C = some cd) (hd : cd.hasDict = true) (hr : ∀ self, refuseLoop self "__setattr__" cd.mro = pure ()) (ho : cd.mro.contains (.type "object") = true) (ne : cd.mro.isEmpty = false) (ht : takerIn K C name = some none)
    (h : ∀ h' dx, Fr h₀ L h' m → News h₀ L h' ((dx, dictOf [⟨PyData.keyHash w.params name, .str name (s.toks + 1), v⟩] 1) :: g ⟨.ref C, some dx, .fields vs, sl⟩) → (∀ p ∈ news, p.1 < dx) → Q () { s with heap := h', toks := s.toks + 2 }) :
    wpAny (model prog w) A (setAttr (.ref x) name v) Q E s := by
  obtain ⟨pre, post, rfl, hg, h1, h2⟩ := U.split
  have Nx := N (x, ⟨.ref C, none, .fields vs, sl⟩) (List.mem_append_right _ (.head _))
  have Xh := X.keeps F.keep
  have I : InstAt s.heap x ⟨.ref C, none, .fields vs, sl⟩ C none := ⟨Nx.1, rfl, rfl, trivial⟩
  refine set_plain Xh I hs ?_
  refine osa_openE (s := { s with toks := s.toks + 1 }) Xh I hc hr ho ne ht fun b => ?_
  refine wpAny_bind (wpAny_pure (wpAny_bind (wpAny_bind (wpAny_loadPart Nx.1 (wpAny_bind (looks_clsIn Xh hc _ _ _ _ (fun _ _ e => e) ?_))))))
  rw [hd]
  have F1 := F.push emptyDict
  have N1 := N.push F emptyDict
  have hlt : ∀ p ∈ pre ++ (x, (⟨.ref C, none, .fields vs, sl⟩ : Obj)) :: post, p.1 < s.heap.objs.size := fun p hp => Heap.lt_size (N p hp).1
  obtain ⟨F2, N2⟩ := news_upd (f := fun o : Obj => { o with dict := some s.heap.objs.size }) (pre := (s.heap.objs.size, emptyDict) :: pre) (post := post) F1 N1
    (fun p hp => by
      rcases List.mem_cons.mp hp with rfl | hp
      · exact Nat.ne_of_gt (hlt _ (List.mem_append_right _ (.head _)))
      · exact h1 p hp) h2 rfl rfl
  have Dx : (s.heap.push emptyDict).get? x = some ⟨.ref C, none, .fields vs, sl⟩ := Heap.get?_push_of_some _ Nx.1
  refine wpAny_bind (wpAny_alloc (wpAny_bind (wpAny_update Dx ?_)))
  refine wpAny_pure (a := some s.heap.objs.size) ?_
  have hD : ∀ p ∈ pre ++ (x, (⟨.ref C, some s.heap.objs.size, .fields vs, sl⟩ : Obj)) :: post, p.1 ≠ s.heap.objs.size := fun p hp => by
    rcases List.mem_append.mp hp with hp | hp
    · exact Nat.ne_of_lt (hlt p (List.mem_append_left _ hp))
    · rcases List.mem_cons.mp hp with rfl | hp
      · exact Nat.ne_of_lt (Heap.lt_size Nx.1)
      · exact Nat.ne_of_lt (hlt p (List.mem_append_right _ (.tail _ hp)))
  refine store_dictE (s := ⟨((s.heap.push emptyDict).update x fun o => { o with dict := some s.heap.objs.size }), s.gens, s.drawn, s.toks + 1, s.os⟩) (es := []) (n := 0) (es' := [⟨PyData.keyHash w.params name, .str name (s.toks + 1), v⟩]) (n' := 1) F2 N2 rfl rfl (Upd.head hD) (Nat.le_of_ble_eq_true rfl) fun h' F' N' => ?_
  exact h h' s.heap.objs.size F' (by rw [hg]; exact N') hlt
end
end
section
set_option maxHeartbeats 400000
open Builtin Builtin.ObjectAttr
section
variable {prog : Program} {w : World} {A : Around} {E : Value → Shared → Prop} {s : Shared} {K : Frag} {x C : Addr} {ox : Obj} {od : Option Obj} {name : Str} {expr : Bool} {Q : Value → Shared → Prop}
theorem get_valueE {v : Value} (X : K.In s.heap) (I : W.InstAt s.heap x ox C od) (hga : findIn K (.ref C) "__getattribute__" = some (some (.builtin "BaseException.__getattribute__")))
    (hgt : findIn K (.ref C) "__getattr__" = some none) (hsub : mroIn K C (.type "BaseException") = some true) (hf : findObj K C od name = some (.value v)) (hh : handedIn v = true) (h : Q v { s with toks := s.toks + 1 }) :
    wpAny (model prog w) A (getAttr (.ref x) name expr) Q E s := by
  obtain ⟨hp, g, d, t, os⟩ := s
  have L0 := I.type (M := model prog w)
  have L1 := looks_findIn (M := model prog w) X hga
  have L2 := looks_findIn (M := model prog w) X hgt
  have L3 : Looks (model prog w) hp (isInstance (.ref x) (.type "BaseException")) true := by
    unfold isInstance
    exact L0.andThen (looks_mroIn X hsub)
  have L4 := looks_find (M := model prog w) X I hf
  have FX := PySem.F.attr_Exception
  unfold getAttr getAttrBy
  refine wpAny_bind (wpAny_mkText (wpAny_holding (wpAny_bind (L0.at (wpAny_bind (L1.at ?_))))))
  dsimp only
  rw [if_neg (show ¬ ((onTheHeap (Value.ref C) && Value.builtin "BaseException.__getattribute__" == Value.builtin "object.__getattribute__") = true) from by
    rw [show (Value.builtin "BaseException.__getattribute__" == Value.builtin "object.__getattribute__") = false from by decide +kernel]; simp)]
  unfold getAttrByItsOwn hookBefore callGetattribute boundAndCalled
  rw [if_pos (show onTheHeap (Value.ref C) = true from rfl), show (expr && onTheHeap (Value.builtin "BaseException.__getattribute__")) = false from by cases expr <;> rfl]
  refine wpAny_bind (L2.at ?_)
  rw [if_neg (by decide), FX.ga.bind]
  have hk : builtinKind "BaseException.__getattribute__" = some .slot := by decide +kernel
  have hsplit : splitId "BaseException.__getattribute__" = some ("BaseException", "__getattribute__") := by decide +kernel
  refine wpAny_bind (wpAny_attempt (wpAny_holding (wpAny_bind (wpAny_pure ?_))))
  show wpAny _ _ (call (.builtin "BaseException.__getattribute__") [.ref x, .str name t]) _ _ _
  refine wpAny_call ?_
  refine codeAny_call_builtin FX.ga.plain F.entry_bexc_ga ?_
  refine @check_slot (model prog w) _ _ ⟨hp, g, d, t + 1, os⟩ "BaseException.__getattribute__" "BaseException" "__getattribute__" (.ref x) [.str name t] [] _ hk hsplit L3 (F.args_bexc_ga (.ref x) (.str name t)) ?_
  unfold Builtin.«object.__getattribute__»
  refine wpAny_bind (wpAny_pure (wpAny_bind (wpAny_pure (wpAny_bind (L0.at (wpAny_bind (L4.at ?_)))))))
  refine wpAny_pure ?_
  show wpAny _ _ (handedOut v) _ _ _
  rw [handedOut_of hh]; exact wpAny_pure h
end
end
section
set_option maxHeartbeats 1000000
section
variable {M : Model} {prog : Program} {w : World} {A : Around} {E : Value → Shared → Prop} {h : Heap} {g : Array GenState} {d : Drawn} {t : Nat} {os : OsState}
variable {nm q : Str} {C N : Addr} {bs bm : List Value} {hdct : Bool} {sn : List Str} {sub : List Value} {ab : Bool} {col : Option Bool} {dd : Option Addr} {k0 k1 k2 k3 k5 : Option Value}

theorem exc_check0 {rest : List Value} {Q : Unit → Shared → Prop} (hC : h.get? C = some (excClassObj nm q C N bs bm hdct sn sub ab col dd k0 k1 k2 k3 k5 "Exception.__new__")) (hcE : (Value.ref C :: bm).contains (.type "Exception") = true)
    (hq : Q () ⟨h, g, d, t, os⟩) : wpAny M A (checkBuiltinCall "Exception.__new__" ⟨.ref C :: rest, []⟩) Q E ⟨h, g, d, t, os⟩ := by
  have Fn := PySem.F.excBase_Exception
  have hstar := Fn.noStar
  simp only [checkBuiltinCall, Fn.newKind, Fn.newSplit, Fn.newRow]
  repeat (first | refine wpAny_loadPart_at hC ?_ | (refine wpAny_isSubtype_exc hC ?_; rw [hcE]) | refine wpAny_staticBase_exc hC ?_ | refine wpAny_madeBy_exc hC ?_ | simp only [bne_self_eq_false, Bool.false_eq_true, if_false] | wp_step)
  exact hq

theorem exc_new0 {rest : List Value} {R : Result → Shared → Prop} (hC : h.get? C = some (excClassObj nm q C N bs bm hdct sn sub ab col dd k0 k1 k2 k3 k5 "Exception.__new__")) (hcE : (Value.ref C :: bm).contains (.type "Exception") = true)
    (hcA : (Value.ref C :: bm).contains (.type "AttributeError") = false) (hcN : (Value.ref C :: bm).contains (.type "NameError") = false)
    (hq : R (.ok (.ret (.ref (h.objs.size + 1)))) ⟨(h.push { cls := .type "tuple", data := .seq rest.toArray }).push
      { cls := .ref C, data := .fields #[.ref h.objs.size, .none, .none, .none, .bool false, .none] }, g, d, t, os⟩) (hrest : rest.length ≤ sizeLine) :
    codeAny (model prog w) A (.builtin "Exception.__new__" ⟨.ref C :: rest, []⟩) R ⟨h, g, d, t, os⟩ := by
  have Fn := PySem.F.excBase_Exception
  have hends := Fn.ends
  refine codeAny_builtinAt Fn.entry ?_
  unfold Builtin.«BaseException.__new__»
  refine PySem.wpAt_bind ?_
  show PySem.wpAt _ _ _ (stack >>= _) _ _ _
  refine PySem.wpAt_bind (PySem.wpAt_stack fun p below => PySem.wpAt_of_wpAny ?_)
  wp_walk
  refine PySem.wpAt_of_wpAny ?_
  rw [Fn.owner]
  repeat (first | with_reducible refine wpAny_madeHere_exc Fn.canon hC ?_ | with_reducible refine wpAny_loadPart_at hC ?_ | (with_reducible refine wpAny_isSubtype_exc hC ?_; first | rw [hcE] | rw [hcA] | rw [hcN]) | wp_step)
  show R _ _
  rw [Heap.size_push]
  exact hq

theorem exc_type_call {rest : List Value} {init : Value} {Q : Fin → Shared → Prop} (hC : h.get? C = some (excClassObj nm q C N bs bm hdct sn sub ab col dd k0 k1 k2 k3 k5 "Exception.__new__")) (hcE : (Value.ref C :: bm).contains (.type "Exception") = true)
    (hcA : (Value.ref C :: bm).contains (.type "AttributeError") = false) (hcN : (Value.ref C :: bm).contains (.type "NameError") = false)
    (hi : Looks (model prog w) h (typeLookup (.ref C) "__init__") (some init)) (hb : ∀ self, Looks (model prog w) h (bindSpecial init self) (init, [self]))
    (hq : wpAny (model prog w) A (call init (.ref (h.objs.size + 1) :: rest)) (fun r s' => r = .none ∧ Q (.done (.ret (.ref (h.objs.size + 1)))) s') E
      ⟨(h.push { cls := .type "tuple", data := .seq rest.toArray }).push { cls := .ref C, data := .fields #[.ref h.objs.size, .none, .none, .none, .bool false, .none] }, g, d, t, os⟩) (hrest : rest.length ≤ sizeLine) :
    wpAny (model prog w) A (Builtin.«type.__call__» ⟨.ref C :: rest, []⟩) Q E ⟨h, g, d, t, os⟩ := by
  have Fn := PySem.F.excBase_Exception
  repeat (first | with_reducible refine wpAny_loadPart_at hC ?_ | with_reducible refine wpAny_madeBy_exc hC ?_ | wp_step)
  refine codeAny_call_builtin_code (Code.quiet_builtin _ Fn.quiet) (exc_check0 hC hcE ?_)
  refine exc_new0 hC hcE hcA hcN ?_ hrest
  show wpAny _ _ _ _ _ _
  have kp : ∀ b o, h.get? b = some o → ((h.push { cls := .type "tuple", data := .seq rest.toArray }).push { cls := .ref C, data := .fields #[.ref h.objs.size, .none, .none, .none, .bool false, .none] }).get? b = some o := fun b o e => Heap.get?_push_of_some _ (Heap.get?_push_of_some _ e)
  have hC₁ := kp _ _ hC
  have hget : ((h.push { cls := .type "tuple", data := .seq rest.toArray }).push
      { cls := .ref C, data := .fields #[.ref h.objs.size, .none, .none, .none, .bool false, .none] }).get? (h.objs.size + 1) = some
      { cls := .ref C, data := .fields #[.ref h.objs.size, .none, .none, .none, .bool false, .none] } := by heap_get
  have hcC : (Value.ref C :: bm).contains (.ref C) = true := by simp
  have i1 := hi.keeps kp
  have b1 := (hb (.ref (h.objs.size + 1))).keeps kp
  unfold isInstance
  repeat (first | with_reducible refine wpAny_loadPart_at hget ?_ | (with_reducible refine wpAny_isSubtype_exc hC₁ ?_; rw [hcC]) | wp_step)
  show wpAny _ _ (typeLookup (.ref C) _) _ _ _
  refine i1.at ?_
  refine wpAny_holding (wpAny_bind (b1.at ?_))
  refine wpAny_bind (wpAny_mono hq (fun r s' hr => ?_) fun _ _ x => x)
  obtain ⟨rfl, hQ⟩ := hr
  wp_walk
  exact hQ

theorem exc_call0 {rest : List Value} {init : Value} {R : Result → Shared → Prop} (hC : h.get? C = some (excClassObj nm q C N bs bm hdct sn sub ab col dd k0 k1 k2 k3 k5 "Exception.__new__")) (hcE : (Value.ref C :: bm).contains (.type "Exception") = true)
    (hcA : (Value.ref C :: bm).contains (.type "AttributeError") = false) (hcN : (Value.ref C :: bm).contains (.type "NameError") = false)
    (hi : Looks (model prog w) h (typeLookup (.ref C) "__init__") (some init)) (hb : ∀ self, Looks (model prog w) h (bindSpecial init self) (init, [self]))
    (hq : codeAny (model prog w) (A.under (.builtin "type.__call__" ⟨.ref C :: rest, []⟩)) (.call init ⟨.ref (h.objs.size + 1) :: rest, []⟩) (InitBack (h.objs.size + 1) R)
      ⟨(h.push { cls := .type "tuple", data := .seq rest.toArray }).push { cls := .ref C, data := .fields #[.ref h.objs.size, .none, .none, .none, .bool false, .none] }, g, d, t, os⟩) (hrest : rest.length ≤ sizeLine) :
    codeAny (model prog w) A (.call (.ref C) ⟨rest, []⟩) R ⟨h, g, d, t, os⟩ := by
  have f1 := tc_lookup
  have f2 := tc_bind (.ref C)
  have hT : (⟨h, g, d, t, os⟩ : Shared).TypeIs (.ref C) "type" := ⟨_, hC, rfl⟩
  refine codeAny_of_tree ?_
  show wpAny _ _ (callAny (.ref C) _) _ _ _
  repeat (any_goals (first | assumption | with_reducible refine wpAny_loadPart_at hC ?_ | wp_step))
  refine ⟨rfl, ?_⟩
  refine codeAny_call_builtin_at (Code.quiet_builtin _ (by decide +kernel)) entry_typeCall (wpAny_check_type_call_sub hC (exc_type_call hC hcE hcA hcN hi hb (wpAny_call (codeAny_mono hq fun r s' z => ?_)) hrest))
  rcases r with e | (v | _ | _ | _) <;> first | exact z | exact z.elim | skip
end
end
section
section
variable {prog : Program} {w : World} {A : Around} {E : Value → Shared → Prop} {s : Shared} {K : Frag} {C fI L : Addr} {h₀ : Heap} {m : Str → Option Value} {news : List (Addr × Obj)} {Q : Value → Shared → Prop}
variable {nm q : Str} {N₀ : Addr} {bs bm : List Value} {hdct : Bool} {sn : List Str} {sub : List Value} {ab : Bool} {col : Option Bool} {dd : Option Addr} {k0 k1 k2 k3 k5 : Option Value}
theorem exc_make {rest : List Value} (F : Fr h₀ L s.heap m) (X₀ : K.In h₀) (N : News h₀ L s.heap news) (hK : K.lookup C = some (excClassObj nm q C N₀ bs bm hdct sn sub ab col dd k0 k1 k2 k3 k5 "Exception.__new__")) (hcE : (Value.ref C :: bm).contains (.type "Exception") = true)
    (hcA : (Value.ref C :: bm).contains (.type "AttributeError") = false) (hcN : (Value.ref C :: bm).contains (.type "NameError") = false)
    (hi : findIn K (.ref C) "__init__" = some (some (.ref fI))) (hf : isFn K (.ref fI) = true) (hrest : rest.length ≤ sizeLine)
    (h : ∀ e t h', Fr h₀ L h' m → News h₀ L h' ((e, (⟨.ref C, none, .fields #[.ref t, .none, .none, .none, .bool false, .none], #[]⟩ : Obj)) :: (t, ({ cls := .type "tuple", data := .seq rest.toArray } : Obj)) :: news) → (∀ p ∈ news, p.1 < t) → (∀ p ∈ (t, ({ cls := .type "tuple", data := .seq rest.toArray } : Obj)) :: news, p.1 < e) →
      codeAny (model prog w) (A.under (.builtin "type.__call__" ⟨.ref C :: rest, []⟩)) (.call (.ref fI) ⟨.ref e :: rest, []⟩) (InitBack e fun r s' => match r with | .ok (.ret v) => Q v s' | .ok _ => False | .error e => E e s') { s with heap := h' }) :
    wpAny (model prog w) A (call (.ref C) rest) Q E s := by
  have X := X₀.keeps F.keep
  refine wpAny_call ?_
  obtain ⟨hh, g, d, t, os⟩ := s
  refine exc_call0 (X _ _ hK) hcE hcA hcN (looks_findIn X hi) (fun self => bind_fn X self (beq_iff_eq.mp hf)) (h _ hh.objs.size _ ((F.push _).push _) ?_ (fun p hp => Heap.lt_size (N p hp).1) (fun p hp => by
    rcases List.mem_cons.mp hp with rfl | hp
    · exact Nat.lt_succ_self _
    · exact Nat.lt_succ_of_lt (Heap.lt_size (N p hp).1))) hrest
  have := (N.push F ({ cls := .type "tuple", data := .seq rest.toArray } : Obj)).push (F.push _) (⟨.ref C, none, .fields #[.ref hh.objs.size, .none, .none, .none, .bool false, .none], #[]⟩ : Obj)
  rwa [Heap.size_push] at this

def RaisableO (K : Frag) (E : Value → Shared → Prop) (v : Value) (s₁ : Shared) : Prop :=
  ∃ a ob vs C, v = .ref a ∧ K.In s₁.heap ∧ s₁.heap.get? a = some ob ∧ ob.cls = .ref C ∧ mroIn K C (.type "BaseException") = some true ∧ typeIn K (.ref C) = some (.type "type") ∧ ob.data = .fields vs ∧ vs[1]? = some .none ∧ E (.ref a) s₁

theorem Raise_own {M : Model} {env : Env} {e : Expr} {pos : Pos} {Q : Flow → Shared → Prop} (K : Frag) (hh : A.handled = none)
    (h : wpAny M A (eval e env) (RaisableO K E) E s) : wpAny M A (exec (.Raise (some e) none pos) env) Q E s := by
  show wpAny M A (do standAt pos; raiseStmt env (some (do let v ← eval e env; standAt pos; pure v)) none) Q E s
  refine wpAny_bind (wpAny_standAt ?_)
  unfold raiseStmt
  dsimp only
  refine wpAny_bind (wpAny_bind (wpAny_mono h (fun v s₁ h₁ => wpAny_bind (wpAny_standAt (wpAny_pure ?_))) fun _ _ x => x))
  obtain ⟨a, ob, vs, C, rfl, X, ha, hcls, hm, hty, hd, h1, hE⟩ := h₁
  obtain ⟨hp, g, d, tk, os⟩ := s₁
  have L0 : Looks M hp (typeOf (.ref a)) (.ref C) := hcls ▸ (Looks.ld ha).andThen .now
  have L1 : Looks M hp (isInstance (.ref a) (.type "BaseException")) true := by
    unfold isInstance
    exact L0.andThen (looks_mroIn X hm)
  have L2 : Looks M hp (typeOf (.ref C)) (.type "type") := looks_typeIn X hty
  have hnt : ∀ {Q' : Bool → Shared → Prop}, Q' false ⟨hp, g, d, tk, os⟩ → wpAny M A (isType (.ref a)) Q' E ⟨hp, g, d, tk, os⟩ := by
    intro Q' hq
    simp only [isType, loadHead]
    refine wpAny_bind (wpAny_loadPart ha ?_)
    rw [hd]; exact wpAny_pure hq
  refine wpAny_bind (wpAny_pure ?_)
  dsimp only
  refine wpAny_bind (wpAny_holding ?_)
  unfold excFromValue isExcClass
  refine wpAny_bind (wpAny_bind (hnt ?_))
  simp only [Bool.false_eq_true, if_false]
  refine wpAny_pure ?_
  simp only [Bool.false_eq_true, if_false]
  refine wpAny_bind (L1.at ?_)
  simp only [if_true]
  refine wpAny_pure ?_
  refine wpAny_bind (hnt ?_)
  simp only [Bool.false_eq_true, if_false]
  unfold raisedInstance
  refine wpAny_bind (wpAny_bind (L0.at (wpAny_bind (L2.at ?_))))
  rw [if_pos (by decide)]
  refine wpAny_pure ?_
  unfold setFlight raiseNew
  refine wpAny_bind (wpAny_bind (wpAny_field ha hd h1 ?_))
  rw [if_neg (by decide)]
  refine wpAny_pure (wpAny_bind (wpAny_handled ?_))
  rw [hh]
  first
    | exact wpAny_throw hE
    | exact wpAny_bind (wpAny_pure (wpAny_throw hE))
end
end
section
inductive Del (d : Addr) (o : Obj) : List (Addr × Obj) → List (Addr × Obj) → Prop
  | head {r} : (∀ p ∈ r, p.1 ≠ d) → Del d o ((d, o) :: r) r
  | tail {p r r'} : p.1 ≠ d → Del d o r r' → Del d o (p :: r) (p :: r')
theorem Del.tl {d : Addr} {o : Obj} {p : Addr × Obj} {r r' : List (Addr × Obj)} (D : Del d o r r') (h : p.1 ≠ d) : Del d o (p :: r) (p :: r') := .tail h D
theorem Del.spec {d : Addr} {o : Obj} : ∀ {l l' : List (Addr × Obj)}, Del d o l l' → (∀ p ∈ (d, o) :: l', p ∈ l) ∧ ∀ p ∈ l', p.1 ≠ d
  | _, _, .head h => ⟨fun _ hp => hp, h⟩
  | _, _, .tail (p := q) h r => by
    obtain ⟨a, b⟩ := r.spec
    refine ⟨fun p hp => ?_, fun p hp => ?_⟩
    · simp only [List.mem_cons] at hp ⊢
      rcases hp with rfl | rfl | hp
      · exact .inr (a _ (.head _))
      · exact .inl rfl
      · exact .inr (a _ (.tail _ hp))
    · rcases List.mem_cons.mp hp with rfl | hp
      · exact h
      · exact b p hp
section
variable {M : Model} {prog : Program} {w : World} {A : Around} {E : Value → Shared → Prop} {s s' : Shared} {K : Frag} {base g h₀ : Heap} {outer : List Env} {L a e C dx : Addr} {m : Str → Option Value} {name : Str} {scope : Scope} {cd : Value} {Q : Unit → Shared → Prop} {news news0 : List (Addr × Obj)} {vs : Array Value} {sl : Array (Option Value)}
theorem leave_raiseX (K : Below A base outer g) (F : Fr g L s'.heap m) (N : News g L s'.heap news0) (hd : Del e (⟨.ref C, some dx, .fields vs, sl⟩ : Obj) news0 news) (h1 : vs[1]? = some .none)
    (hQ : ∀ h', RaisedD base g outer e (PC C dx) news h' → g.UpToSlots h' → Q () { s' with heap := h' }) (hk : scope.kind = .function := by rfl) :
    wpAny M (A.deeper (envOf name scope L a cd)) (leaving (envOf name scope L a cd) (.ref e)) Q E s' :=
  leave_raiseD PC.map K F (fun p hp => N p (hd.spec.1 p hp)) hd.spec.2 (⟨rfl, rfl⟩ : PC C dx (⟨.ref C, some dx, .fields vs, sl⟩ : Obj)) rfl h1 hQ hk
theorem Raise_ownX {h₀ : Heap} {env : Env} {e : Expr} {pos : Pos} {Q : Flow → Shared → Prop} (_X : K.In h₀) (hh : A.handled = none)
    (h : wpAny M A (eval e env) (RaisableO K E) E s) : wpAny M A (exec (.Raise (some e) none pos) env) Q E s := Raise_own K hh h
theorem raisableO_of {od : Option Addr} (X : K.In h₀) (F : Fr h₀ L s.heap m) (N : News h₀ L s.heap news) (hm : (e, (⟨.ref C, od, .fields vs, sl⟩ : Obj)) ∈ news) (h1 : vs[1]? = some .none)
    (hmro : mroIn K C (.type "BaseException") = some true) (hty : typeIn K (.ref C) = some (.type "type")) (hE : E (.ref e) s) : RaisableO K E (.ref e) s :=
  ⟨e, _, vs, C, rfl, X.keeps F.keep, (N _ hm).1, rfl, hmro, hty, rfl, h1, hE⟩
theorem get_valueX {es : List DictEntry} {n : Nat} {name : Str} {expr : Bool} {v : Value} {Q : Value → Shared → Prop} (F : Fr h₀ L s.heap m) (X : K.In h₀) (N : News h₀ L s.heap news) (hm : (e, (⟨.ref C, some dx, .fields vs, sl⟩ : Obj)) ∈ news) (hdx : (dx, dictOf es n) ∈ news)
    (hga : findIn K (.ref C) "__getattribute__" = some (some (.builtin "BaseException.__getattribute__")))
    (hgt : findIn K (.ref C) "__getattr__" = some none) (hsub : mroIn K C (.type "BaseException") = some true) (hh : hasDictIn K C = true) (ha : findIn K (.ref C) name = some none) (hl : getL name es = some (some v)) (hv : handedIn v = true) (h : Q v { s with toks := s.toks + 1 }) :
    wpAny (model prog w) A (getAttr (.ref e) name expr) Q E s :=
  get_valueE (X.keeps F.keep) ⟨(N _ hm).1, rfl, rfl, (N _ hdx).1⟩ hga hgt hsub (findObj_own hh ha rfl (show lookIn name (dictOf es n) = some (some v) from hl)) hv h
end
section
variable {prog : Program} {w : World} {A : Around} {E : Value → Shared → Prop} {s : Shared} {K : Frag} {x C dx L : Addr} {h₀ : Heap} {m : Str → Option Value} {news news' : List (Addr × Obj)} {es es' : List DictEntry} {n n' : Nat} {name : Str} {v : Value} {cd : ClassData}
theorem call_excInit {nm q : Str} {N₀ : Addr} {bs bm : List Value} {hdct : Bool} {sn : List Str} {sub : List Value} {ab : Bool} {col : Option Bool} {dd : Option Addr} {k0 k1 k2 k3 k5 : Option Value} {newId : String} {C : Addr} {e : Addr} {od : Option Addr} {vs : Array Value} {sl : Array (Option Value)} {rest : List Value} {g : Obj → List (Addr × Obj)} {Q : Value → Shared → Prop} (F : Fr h₀ L s.heap m) (X : K.In h₀) (N : News h₀ L s.heap news) (U : UpdF e (⟨.ref C, od, .fields vs, sl⟩ : Obj) news g)
    (hK : K.lookup C = some (excClassObj nm q C N₀ bs bm hdct sn sub ab col dd k0 k1 k2 k3 k5 newId)) (hcE : (Value.ref C :: bm).contains (.type "Exception") = true) (h0 : ∃ t₀, vs[0]? = some (.ref t₀)) (hrest : rest.length ≤ sizeLine)
    (h : ∀ h' t, Fr h₀ L h' m → News h₀ L h' ((t, ({ cls := .type "tuple", data := .seq rest.toArray } : Obj)) :: g ⟨.ref C, od, .fields (vs.setIfInBounds 0 (.ref t)), sl⟩) → (∀ p ∈ news, p.1 < t) → Q .none { s with heap := h' }) :
    wpAny (model prog w) A (call (.builtin "Exception.__init__") (.ref e :: rest)) Q E s := by
  obtain ⟨pre, post, rfl, hg, h1, h2⟩ := U.split
  have Ne := N (e, ⟨.ref C, od, .fields vs, sl⟩) (List.mem_append_right _ (.head _))
  have Xh := X.keeps F.keep
  have Fx := PySem.F.excBase_Exception
  obtain ⟨hp, gg, d, t, os⟩ := s
  have hC : hp.get? C = some (excClassObj nm q C N₀ bs bm hdct sn sub ab col dd k0 k1 k2 k3 k5 newId) := Xh _ _ hK
  have Ne1 : hp.get? e = some ⟨.ref C, od, .fields vs, sl⟩ := Ne.1
  refine wpAny_call (codeAny_call_builtin Fx.init.plain Fx.initEntry ?_)
  have hshort := Fx.noStar
  simp only [checkBuiltinCall, Fx.initKind, Fx.initSplit, Fx.initRow]
  repeat (first | with_reducible refine wpAny_loadPart_at Ne1 ?_ | with_reducible refine wpAny_loadPart_at hC ?_ | (with_reducible refine wpAny_isSubtype_exc hC ?_; rw [hcE]) | wp_step)
  refine wpAny_onRaise ?_
  rw [show ∀ (a b : String) (n : Nat), Bind.check ⟨.positional, "*", "Exception", .self, [⟨"args", .varPos, false⟩]⟩ a b n (List.map (fun x => x.fst) ({ pos := Value.ref e :: rest } : Args).kw) = pure () from
    fun a b n => check_star_args _ _ _ _ _ _]
  refine wpAny_pure ?_
  unfold Builtin.«BaseException.__init__» Builtin.BaseException.bexcPut
  obtain ⟨t₀, ht0⟩ := h0
  have hsz0 : 0 < vs.size := (Array.getElem?_eq_some_iff.mp ht0).1
  have hlt : ∀ p ∈ pre ++ (e, (⟨.ref C, od, .fields vs, sl⟩ : Obj)) :: post, p.1 < hp.objs.size := fun p hp' => Heap.lt_size (N p hp').1
  show wpAny _ _ (newTuple rest >>= _) _ _ _
  refine wpAny_bind (newTuple_N F N (fun h' F' N' => ?_) hrest)
  obtain ⟨F2, N2⟩ := news_upd (f := Obj.mapFields (·.setIfInBounds 0 (Value.ref hp.objs.size))) (o' := ⟨.ref C, od, .fields (vs.setIfInBounds 0 (.ref hp.objs.size)), sl⟩) (pre := (hp.objs.size, ({ cls := .type "tuple", data := .seq rest.toArray } : Obj)) :: pre) (post := post) F' N'
    (fun p hp' => by
      rcases List.mem_cons.mp hp' with rfl | hp'
      · exact Nat.ne_of_gt (Heap.lt_size Ne1)
      · exact h1 p hp') h2 rfl rfl
  have Ne2 : h'.get? e = some ⟨.ref C, od, .fields vs, sl⟩ := (N' (e, ⟨.ref C, od, .fields vs, sl⟩) (.tail _ (List.mem_append_right _ (.head _)))).1
  have fin := h _ hp.objs.size F2 (by rw [hg]; exact N2) hlt
  refine wpAny_bind (wpAny_bind (wpAny_field Ne2 rfl ht0 (wpAny_bind (wpAny_setField Ne2 rfl hsz0 ?_))))
  exact wpAny_letGo (wpAny_pure fin)
end
end
section
structure Gr (h₀ : Heap) (L : Addr) (m : Str → Option Value) (o₀ : Obj) (g : Heap) : Prop where
  fr : Fr h₀ L g m
  only : ∀ b o, g.get? b = some o → b ≠ L → h₀.get? b = some o
  at_ : ∃ sl, g.get? L = some { o₀ with slots := sl }
section
variable {h₀ g g' h : Heap} {L L' : Addr} {m m' : Str → Option Value} {o₀ : Obj} {news nx : List (Addr × Obj)}
theorem Gr.lt (G : Gr h₀ L m o₀ g) (F : Fr g L' h m') : L < L' := by
  obtain ⟨sl, hL⟩ := G.at_
  exact Nat.lt_of_lt_of_le (Heap.lt_size hL) F.above
theorem Gr.none (G : Gr h₀ L m o₀ g) : h₀.get? L = none := kts_self G.fr
theorem Gr.lower (G : Gr h₀ L m o₀ g) (F : Fr g L' h m') : Fr h₀ L' h m' :=
  ⟨F.ns, fun b o e => F.keep b o (G.fr.keep b o e), Nat.le_trans G.fr.above (Nat.le_of_lt (G.lt F))⟩
theorem Gr.back (G : Gr h₀ L m o₀ g) (F : Fr g L' h m') : Fr h₀ L h m := by
  obtain ⟨oL, es, ep, hL, r⟩ := G.fr.ns
  exact ⟨⟨oL, es, ep, F.keep _ _ hL, r⟩, fun b o e => F.keep b o (G.fr.keep b o e), G.fr.above⟩
theorem Gr.newsDown (G : Gr h₀ L m o₀ g) (N : News g L' h news) : News h₀ L' h news := fun p hp => ⟨(N p hp).1, (N p hp).2.1, kts_none G.fr.keep (N p hp).2.2⟩
theorem Gr.entry (G : Gr h₀ L m o₀ g) (F : Fr g L' h m') : ∃ sl, h.get? L = some { o₀ with slots := sl } ∧ L ≠ L' ∧ h₀.get? L = Option.none := by
  obtain ⟨sl, hL⟩ := G.at_
  exact ⟨sl, F.keep _ _ hL, Nat.ne_of_lt (G.lt F), G.none⟩
theorem Gr.turn (G : Gr h₀ L m o₀ g) (T : KtsTurn [L] g g') : Gr h₀ L m o₀ g' := by
  refine ⟨⟨?_, fun b o e => ?_, G.fr.above⟩, fun b o e hb => ?_, ?_⟩
  · have up : g.UpToSlots g' := fun b o e _ => T.up e
    exact up.ns G.fr.ns
  · have hb : b ∉ [L] := fun hm => by
      rw [List.mem_singleton.mp hm, G.none] at e; cases e
    exact T.other b o (G.fr.keep b o e) hb
  · cases q : g.get? b with
    | none => rw [T.none_ b q] at e; cases e
    | some o' =>
      have := T.other b o' q fun hm => hb (List.mem_singleton.mp hm)
      rw [e] at this; cases this
      exact G.only b o q hb
  · obtain ⟨sl, hL⟩ := G.at_
    obtain ⟨sl', h'⟩ := T.up hL
    exact ⟨sl', h'⟩

theorem Gr.anew (G : Gr h₀ L m o₀ g) (hsz : g.objs.size ≤ L') {sl : Array (Option Value)} (F : Fr h₀ L' h m') (N : News h₀ L' h nx) (hL : (L, ({ o₀ with slots := sl } : Obj)) ∈ nx) (hsub : ∀ p ∈ news, p ∈ nx ∧ p.1 ≠ L) :
    ∃ g', Gr h₀ L m o₀ g' ∧ Fr g' L' h m' ∧ News g' L' h news ∧ g'.objs.size = g.objs.size := by
  have NL := N _ hL
  obtain ⟨sl0, hg⟩ := G.at_
  obtain ⟨T, S⟩ := kts_turn_at (h := h) (fs := [L]) (g := g) (fun b hb => by obtain rfl := List.mem_singleton.mp hb; exact ⟨_, hg⟩)
    (fun b o e nm => F.keep b o (G.only b o e fun q => nm (List.mem_singleton.mpr q)))
    (fun b o e hm => by
      rw [List.mem_singleton.mp hm] at e ⊢
      rw [hg] at e; cases e
      exact ⟨sl, NL.1⟩)
  have G' := G.turn T
  refine ⟨_, G', ⟨F.ns, S, by rw [T.size]; exact hsz⟩, fun p hp => ?_, T.size⟩
  have Np := N p (hsub p hp).1
  refine ⟨Np.1, Np.2.1, ?_⟩
  cases q : (ktsHeap h [L] g).get? p.1 with
  | none => rfl
  | some o =>
    have := G'.only p.1 o q (hsub p hp).2
    rw [Np.2.2] at this; cases this

theorem Gr.below {A₀ A : Around} {env : Env} (G : Gr h₀ L m o₀ g) (K : Below A₀ h₀ [] h₀) (hA : A.frames = some [env]) (hf : env.frame = some L) (hk : env.scope.kind = .function) : Below A h₀ [env] g := by
  have B := pushX K G.fr hf hk
  exact ⟨hA, B.stays, B.frames⟩

theorem gr_start {s : Heap} (F : Fr h₀ L s m) (N : News h₀ L s news) : ∃ o₀ g, Gr h₀ L m o₀ g ∧ (∀ b o, g.get? b = some o → s.get? b = some o) ∧ g.objs.size = s.objs.size ∧ ∀ p ∈ news, g.get? p.1 = none := by
  obtain ⟨oL, es, ep, hL, r⟩ := F.ns
  have hnone : h₀.get? L = none := kts_self F
  refine ⟨oL, hideAll s ((List.range s.objs.size).filter fun b => decide (b ≠ L) && (h₀.get? b).isNone), ⟨⟨⟨oL, es, ep, hideAll_get _ hL ?_, r⟩, fun b o e => hideAll_get _ (F.keep b o e) ?_, F.above⟩, fun b o e hb => ?_, ⟨oL.slots, hideAll_get _ hL ?_⟩⟩, fun b o e => of_hideAll _ e, hideAll_size _ _, fun p hp => hideAll_none _ ?_⟩
  · intro hm
    have := (List.mem_filter.mp hm).2
    simp at this
  · intro hm
    have := (List.mem_filter.mp hm).2
    rw [e] at this
    simp at this
  · have hs := of_hideAll _ e
    cases q : h₀.get? b with
    | some o' =>
      have := F.keep b o' q
      rw [hs] at this; cases this; rfl
    | none =>
      exfalso
      have hin : b ∈ (List.range s.objs.size).filter fun b => decide (b ≠ L) && (h₀.get? b).isNone := List.mem_filter.mpr ⟨List.mem_range.mpr (Heap.lt_size hs), by rw [q]; simp [hb]⟩
      rw [hideAll_none _ hin] at e; cases e
  · intro hm
    have := (List.mem_filter.mp hm).2
    simp at this
  · have Np := N p hp
    exact List.mem_filter.mpr ⟨List.mem_range.mpr (Heap.lt_size Np.1), by rw [Np.2.2]; simp [Np.2.1]⟩
end

section
variable {prog : Program} {w : World} {A₀ A : Around} {s : Shared} {K : Frag} {L : Addr} {h₀ : Heap} {m mg mb : Str → Option Value} {news : List (Addr × Obj)} {p : Program} {loose : List Str} {mean : ExcName → Option Value}
theorem code_gr {env : Env} {R : Result → Shared → Prop} {name qual : Str} {params : Arguments} {body : List Stmt} {scope : Scope} {dV kV doc pm cdv ct oc : Value} {an od : Option Addr} {osl : Array (Option Value)} {f : Addr} {args : Args} {binds : List (Str × Value)}
    (B : Below A₀ h₀ [] h₀) (F : Fr h₀ L s.heap m) (X₀ : K.In h₀) (N : News h₀ L s.heap news) (T : Top p loose mean mg mb h₀) (hA : A.frames = some [env]) (hf : env.frame = some L) (hke : env.scope.kind = .function)
    (ho : K.lookup f = some ⟨oc, od, .func (fnOf name qual params body scope dV kV doc pm an cdv ct), osl⟩) (hcd : codeIn K cdv qual = true) (hroom : A.depth < recursionLimit)
    (hbind : BindsTo s (fnOf name qual params body scope dV kV doc pm an cdv ct) args binds) (hloc : ∀ y ∈ binds, scope.names.lookup y.1 = some .local)
    (h : ∀ o₀ g L' h₁, Gr h₀ L m o₀ g → g.objs.size = L' → Fr g L' h₁ (fun y => binds.reverse.lookup y) → News g L' h₁ news → Below A h₀ [env] g → K.In g → Top p loose mean mg mb g →
      wpAny (model prog w) (A.deeper (envOf qual scope L' f cdv)) (execs body (envOf qual scope L' f cdv))
        (fun fl s' => R (.ok (.ret (match fl with | .ret v => v | _ => .none))) s')
        (fun e s' => wpAny (model prog w) (A.deeper (envOf qual scope L' f cdv)) (leaving (envOf qual scope L' f cdv) e) (fun _ s'' => R (.error e) s'') (fun e' s'' => R (.error e') s'') s')
        { s with heap := h₁, toks := s.toks + binds.length })
    (hco : scope.isCoroutine = false) (hgen : scope.isGenerator = false) (hk : scope.kind = .function)
    (hcell : ∀ x ∈ scope.names, x.2 ≠ .cell) : codeAny (model prog w) A (.call (.ref f) args) R s := by
  obtain ⟨o₀, g, G, gs, gsz, gn⟩ := gr_start F N
  refine codeAny_call_def (fd := fnOf name qual params body scope dV kV doc pm an cdv ct) (body := body) (binds := binds) hroom ((X₀.keeps F.keep) _ _ ho) rfl (T.nolimit.keeps F.keep) (codeRec_of (X₀.keeps F.keep) hcd) rfl hbind hcell hloc (fun h₁ hns hk₁ => ?_) hco hgen hk
  exact h o₀ g s.heap.objs.size h₁ G gsz ⟨hns, fun b o e => hk₁ b o (gs b o e), Nat.le_of_eq gsz⟩ (fun p hp => ⟨hk₁ _ _ (N p hp).1, Nat.ne_of_lt (Heap.lt_size (N p hp).1), gn p hp⟩) (G.below B hA hf hke) (X₀.keeps G.fr.keep) (T.keeps G.fr.keep)
end
end
section
def JC (w : World) (b c : Addr) (oc : Obj) (own : List (Addr × Obj)) (k : Int) (x dx : Addr) (D : Value → Value → List DictEntry) (ep : Nat) (L : Addr) (o₀ : Obj) (i : Nat) (m : Str → Option Value) (nx : List (Addr × Obj)) : Prop :=
  ∃ (ob : Obj) (k' seen most : Int) (t1 t2 t3 t4 : Tok) (sl : Array (Option Value)), nx = (x, instObj 195 dx) :: (dx, dictOf (D (.int most t3) (.int seen t4)) ep) :: (b, ob) :: (c, oc) :: (L, { o₀ with slots := sl }) :: own ∧
    m (Str.ofString "ctx") = some (.ref x) ∧ m (Str.ofString "seen") = some (.int seen t1) ∧ m (Str.ofString "most") = some (.int most t2) ∧ m (Str.ofString "belt") = some (.ref b) ∧
    Belt w b c ob oc k' ∧ k' ≤ k + 2 * i ∧ 0 ≤ seen ∧ seen ≤ i ∧ 0 ≤ most ∧ most ≤ 5 ∧ (most = 0 ∨ seen ≤ most)

theorem off_ground {h₀ g h : Heap} {L L' : Addr} {m : Str → Option Value} {o₀ : Obj} {news : List (Addr × Obj)} (G : Gr h₀ L m o₀ g) (N : News g L' h news) : ∀ p ∈ news, p.1 ≠ L := fun p hp q => by
  obtain ⟨sl, hL⟩ := G.at_
  have := (N p hp).2.2
  rw [q, hL] at this; cases this

theorem counts_loop {prog : Program} {w : World} {A A₀ A₁ : Around} {E : Value → Shared → Prop} {s : Shared} {env env₁ : Env} {h₀ g : Heap} {body : List Stmt} {Q : Flow → Shared → Prop}
    {r L : Addr} {t₀ u₀ v₀ t5 t6 t7 t8 : Tok} {m₀ mL : Str → Option Value} {o₀ : Obj} {news own : List (Addr × Obj)} {b c x dx : Addr} {ob oc : Obj} {k mo : Int} {D : Value → Value → List DictEntry} {ep : Nat}
    {KF : Frag} {p : Program} {loose : List Str} {mean : ExcName → Option Value} {mg mb : Str → Option Value}
    (hh : A.handled = none) (hr : IsRange s.heap r 0 20 1 t₀ u₀ v₀) (G : Gr h₀ L mL o₀ g) (B : Below A₀ h₀ [] h₀) (X : KF.In h₀) (T : Top p loose mean mg mb h₀) (hA : A₁.frames = some [env₁]) (hf : env₁.frame = some L) (hke : env₁.scope.kind = .function)
    (F : Fr g env.locals s.heap m₀) (N : News g env.locals s.heap news)
    (e1 : (x, instObj 195 dx) ∈ news) (e2 : (dx, dictOf (D (.int mo t5) (.int 0 t6)) ep) ∈ news) (e3 : (b, ob) ∈ news) (e4 : (c, oc) ∈ news) (e5 : ∀ p ∈ own, p ∈ news)
    (h1 : m₀ (Str.ofString "ctx") = some (.ref x)) (h2 : m₀ (Str.ofString "seen") = some (.int 0 t7)) (h3 : m₀ (Str.ofString "most") = some (.int mo t8)) (h4 : m₀ (Str.ofString "belt") = some (.ref b))
    (be : Belt w b c ob oc k) (hm0 : 0 ≤ mo) (hm1 : mo < 6)
    (turn : ∀ (i : Nat) (t : Tok) (u : Str → Option Value) (h : Heap) (tk : Nat) (I : Addr) (oI : Obj) (g' : Heap) (ob : Obj) (k' seen most : Int) (t1 t2 t3 t4 : Tok), i < 20 → @Ne Nat x I → @Ne Nat dx I → @Ne Nat b I → @Ne Nat c I → (∀ p ∈ own, p.1 ≠ I) →
      Belt w b c ob oc k' → k' ≤ k + 2 * i → 0 ≤ seen → seen ≤ i → 0 ≤ most → most ≤ 5 → (most = 0 ∨ seen ≤ most) →
      Gr h₀ L mL o₀ g' → Below A₁ h₀ [env₁] g' → KF.In g' → Top p loose mean mg mb g' →
      Fr g' env.locals h (fun y => if y = Str.ofString "turn" then some (.int (0 + (i : Int)) t) else if y = Str.ofString "ctx" then some (.ref x) else if y = Str.ofString "seen" then some (.int seen t1) else if y = Str.ofString "most" then some (.int most t2) else if y = Str.ofString "belt" then some (.ref b) else u y) →
      News g' env.locals h ((I, oI) :: (x, instObj 195 dx) :: (dx, dictOf (D (.int most t3) (.int seen t4)) ep) :: (b, ob) :: (c, oc) :: own) →
      wpAny (model prog w) A (execs body env) (PostJ h₀ env.locals (JC w b c oc own k x dx D ep L o₀ (i + 1)) I oI { s with heap := h, toks := tk } Q) E { s with heap := h, toks := tk })
    (done : ∀ m₁ h tk g', Gr h₀ L mL o₀ g' → Below A₁ h₀ [env₁] g' → KF.In g' → Top p loose mean mg mb g' → Fr g' env.locals h m₁ → News g' env.locals h [] → Q .next { s with heap := h, toks := tk }) :
    wpAny (model prog w) A (pyIter (.ref r)) (fun it s₂ => LoopAtV prog w A h₀ env (Str.ofString "turn") body Q E it s₂) E s := by
  obtain ⟨sl, eL1, eL2, eL3⟩ := G.entry F
  have off := off_ground G N
  refine iter_rangeJ (n := 20) (news := (L, { o₀ with slots := sl }) :: news) (nx₀ := (x, instObj 195 dx) :: (dx, dictOf (D (.int mo t5) (.int 0 t6)) ep) :: (b, ob) :: (c, oc) :: (L, { o₀ with slots := sl }) :: own) (JC w b c oc own k x dx D ep L o₀) hh hr (by decide) (by decide) (G.lower F)
    (fun p hp => (List.mem_cons.mp hp).elim (fun e => by rw [e]; exact ⟨eL1, eL2, eL3⟩) fun h => G.newsDown N p h) ?_ ⟨ob, k, 0, mo, t7, t8, t5, t6, sl, rfl, h1, h2, h3, h4, be, by omega, by omega, by omega, by omega, by omega, by omega⟩ ?_ ?_
  · intro p hp
    simp only [List.mem_cons] at hp
    rcases hp with rfl | rfl | rfl | rfl | rfl | hp
    · exact .tail _ e1
    · exact .tail _ e2
    · exact .tail _ e3
    · exact .tail _ e4
    · exact .head _
    · exact .tail _ (e5 p hp)
  · rintro i t m₁ nx h tk I oI hi ho ⟨ob', k', seen, most, t1, t2, t3, t4, sl', rfl, g1, g2, g3, g4, be', a1, a2, a3, a4, a5, a6⟩ F₁ N₁
    have em : m₁ = fun y => if y = Str.ofString "ctx" then some (.ref x) else if y = Str.ofString "seen" then some (.int seen t1) else if y = Str.ofString "most" then some (.int most t2) else if y = Str.ofString "belt" then some (.ref b) else m₁ y := by
      funext y
      split
      · rename_i e; rw [e, g1]
      split
      · rename_i e; rw [e, g2]
      split
      · rename_i e; rw [e, g3]
      split
      · rename_i e; rw [e, g4]
      · rfl
    rw [em] at F₁
    have hIL : I ≠ L := fun q => ho _ (.tail _ (.tail _ (.tail _ (.tail _ (.head _))))) q.symm
    obtain ⟨g', G', F', N', _⟩ := G.anew (news := (I, oI) :: (x, instObj 195 dx) :: (dx, dictOf (D (.int most t3) (.int seen t4)) ep) :: (b, ob') :: (c, oc) :: own) F.above F₁ N₁ (.tail _ (.tail _ (.tail _ (.tail _ (.tail _ (.head _)))))) (fun p hp => by
      simp only [List.mem_cons] at hp
      rcases hp with rfl | rfl | rfl | rfl | rfl | hp
      · exact ⟨.head _, hIL⟩
      · exact ⟨.tail _ (.head _), off _ e1⟩
      · exact ⟨.tail _ (.tail _ (.head _)), show dx ≠ L from off _ e2⟩
      · exact ⟨.tail _ (.tail _ (.tail _ (.head _))), show b ≠ L from off _ e3⟩
      · exact ⟨.tail _ (.tail _ (.tail _ (.tail _ (.head _)))), off _ e4⟩
      · exact ⟨.tail _ (.tail _ (.tail _ (.tail _ (.tail _ (.tail _ hp))))), off _ (e5 p hp)⟩)
    exact turn i t m₁ h tk I oI g' ob' k' seen most t1 t2 t3 t4 hi (ho _ (.head _)) (ho _ (.tail _ (.head _))) (ho _ (.tail _ (.tail _ (.head _)))) (ho _ (.tail _ (.tail _ (.tail _ (.head _))))) (fun p hp => ho p (.tail _ (.tail _ (.tail _ (.tail _ (.tail _ hp)))))) be' a1 a2 a3 a4 a5 a6 G' (G'.below B hA hf hke) (X.keeps G'.fr.keep) (T.keeps G'.fr.keep) F' N'
  · rintro m₁ nx h tk ⟨ob', k', seen, most, t1, t2, t3, t4, sl', rfl, _⟩ F₁ N₁
    obtain ⟨g', G', F', N', _⟩ := G.anew (news := []) F.above F₁ N₁ (.tail _ (.tail _ (.tail _ (.tail _ (.head _))))) (fun p hp => nomatch hp)
    exact done m₁ h tk g' G' (G'.below B hA hf hke) (X.keeps G'.fr.keep) (T.keeps G'.fr.keep) F' N'

theorem counts_end {w : World} {h₀ g h' : Heap} {L L' : Addr} {m' mL : Str → Option Value} {o₀ : Obj} {b c x dx I : Addr} {ob oc oI : Obj} {own big : List (Addr × Obj)} {k k' seen most : Int} {D : Value → Value → List DictEntry} {ep i tk : Nat} {s₁ : Shared} {Q : Flow → Shared → Prop} {t1 t2 t3 t4 : Tok}
    (G : Gr h₀ L mL o₀ g) (F : Fr g L' h' m') (N : News g L' h' big) (hn1 : @Ne Nat x I) (hn2 : @Ne Nat dx I) (hn3 : @Ne Nat b I) (hn4 : @Ne Nat c I) (hoI : ∀ p ∈ own, p.1 ≠ I)
    (e0 : (I, oI) ∈ big) (e1 : (x, instObj 195 dx) ∈ big) (e2 : (dx, dictOf (D (.int most t3) (.int seen t4)) ep) ∈ big) (e3 : (b, ob) ∈ big) (e4 : (c, oc) ∈ big) (e5 : ∀ p ∈ own, p ∈ big)
    (h1 : m' (Str.ofString "ctx") = some (.ref x)) (h2 : m' (Str.ofString "seen") = some (.int seen t1)) (h3 : m' (Str.ofString "most") = some (.int most t2)) (h4 : m' (Str.ofString "belt") = some (.ref b))
    (be : Belt w b c ob oc k') (a1 : k' ≤ k + 2 * ((i + 1 : Nat) : Int)) (a2 : 0 ≤ seen) (a3 : seen ≤ ((i + 1 : Nat) : Int)) (a4 : 0 ≤ most) (a5 : most ≤ 5) (a6 : most = 0 ∨ seen ≤ most) :
    PostJ h₀ L' (JC w b c oc own k x dx D ep L o₀ (i + 1)) I oI s₁ Q .next { s₁ with heap := h', toks := tk } := by
  obtain ⟨sl, eL1, eL2, eL3⟩ := G.entry F
  have off := off_ground G N
  refine ⟨h', tk, m', (x, instObj 195 dx) :: (dx, dictOf (D (.int most t3) (.int seen t4)) ep) :: (b, ob) :: (c, oc) :: (L, { o₀ with slots := sl }) :: own, rfl, G.lower F, ?_, ?_, ob, k', seen, most, t1, t2, t3, t4, sl, rfl, h1, h2, h3, h4, be, a1, a2, a3, a4, a5, a6⟩
  · have N := G.newsDown N
    intro p hp
    simp only [List.mem_cons] at hp
    rcases hp with rfl | rfl | rfl | rfl | rfl | rfl | hp
    · exact N _ e0
    · exact N _ e1
    · exact N _ e2
    · exact N _ e3
    · exact N _ e4
    · exact ⟨eL1, eL2, eL3⟩
    · exact N _ (e5 p hp)
  · intro p hp
    simp only [List.mem_cons] at hp
    rcases hp with rfl | rfl | rfl | rfl | rfl | hp
    · exact hn1
    · exact hn2
    · exact hn3
    · exact hn4
    · exact fun q => off _ e0 q.symm
    · exact hoI p hp
end
section
section
theorem meta_Exc : typeOf (.type "Exception") = pure (.type "type") := by kernel_rfl
set_option maxHeartbeats 2000000
theorem counts0 {w : World} {mean : ExcName → Option Value} {mg mb : Str → Option Value} {dp un : Nat} {gd : Option (List Code)} {cn : Str} {cs : Scope} {a : Addr} {ccd : Value} {cl : List (Str × Addr)} {A₀ : Around} {h₀ : Heap} {L : Addr} {m : Str → Option Value} {own : List (Addr × Obj)} {s : Shared}
    {Q E : Value → Shared → Prop} {b c : Addr} {ob oc : Obj} {k : Int}
    (B : Below A₀ h₀ [] h₀) (F : Fr h₀ L s.heap m) (X : (ktop.heap_1 w.params).In h₀) (N : News h₀ L s.heap ((b, ob) :: (c, oc) :: own))
    (T : Top vw (looseW vw loose) mean mg mb h₀) (hk : cs.kind = .function)
    (hoff : OwnOff own [b]) (hcb : c ≠ b) (hb : Belt w b c ob oc k) (hk1 : k ≤ 900)
    (hdp : dp + 10 < recursionLimit) (hun : un + 100 < cLine)
    (ret : ∀ h' tk', Fr h₀ L h' m → Q (.bool true) { s with heap := h', toks := tk' }) :
    wpAny (model PySem.Challenge.rw_pf0096_01.row.prog w) (ktrTop dp un gd cn cs L a ccd cl []) (call (.ref 327) [.ref b]) Q E s := by
  k_with_none
  k_with "room0" => ((try simp only [depth_under_make, depth_under_kw, depth_in1, depth_deeper, depth_caller]); (try dsimp only [ktrTop]); (first | exact lq0 (by with_reducible assumption) | exact lq1 (by with_reducible assumption) (by rfl) | exact lq2 (by with_reducible assumption) (by rfl) | exact lq3 (by with_reducible assumption) (by rfl) | exact lq4 (by with_reducible assumption) (by rfl) | exact lq5 (by with_reducible assumption) (by rfl) | exact lq6 (by with_reducible assumption) (by rfl) | omega))
  k_with "units0" => ((try simp only [units_in1, units_deeper, Around.mark_units, units_caller]); (try dsimp only [ktrTop]); (first | exact lq0 (by with_reducible assumption) | exact lq1 (by with_reducible assumption) (by rfl) | exact lq2 (by with_reducible assumption) (by rfl) | exact lq3 (by with_reducible assumption) (by rfl) | exact lq4 (by with_reducible assumption) (by rfl) | exact lq5 (by with_reducible assumption) (by rfl) | exact lq6 (by with_reducible assumption) (by rfl) | omega))
  k_with "all0" => (first | assumption | exact allLt_ne (by assumption) | exact allLt_ne (And.right (by assumption)) | exact allLt_ne (And.right (And.right (by assumption))) | exact allLt_ne (And.right (And.right (And.right (by assumption)))) | exact allLt_ne (And.right (And.right (And.right (And.right (by assumption))))) | exact allLt_ne (And.right (And.right (And.right (And.right (And.right (by assumption)))))) | exact allLt_ne (And.right (And.right (And.right (And.right (And.right (And.right (by assumption))))))) | exact allLt_ne (And.right (And.right (And.right (And.right (And.right (And.right (And.right (by assumption)))))))) | exact allLt_ne (And.right (And.right (And.right (And.right (And.right (And.right (And.right (And.right (by assumption))))))))) | exact allLt_ne (And.right (And.right (And.right (And.right (And.right (And.right (And.right (And.right (And.right (by assumption)))))))))) | exact allLt_ne (And.right (And.right (And.right (And.right (And.right (And.right (And.right (And.right (And.right (And.right (by assumption))))))))))) | exact allLt_ne (And.right (And.right (And.right (And.right (And.right (And.right (And.right (And.right (And.right (And.right (And.right (by assumption)))))))))))) | exact allLt_ne (And.right (And.right (And.right (And.right (And.right (And.right (And.right (And.right (And.right (And.right (And.right (And.right (by assumption))))))))))))) | exact allLt_ne (And.right (And.right (And.right (And.right (And.right (And.right (And.right (And.right (And.right (And.right (And.right (And.right (And.right (by assumption)))))))))))))) | exact allLt_ne (And.right (And.right (And.right (And.right (And.right (And.right (And.right (And.right (And.right (And.right (And.right (And.right (And.right (And.right (by assumption))))))))))))))) | exact allLt_ne (And.right (And.right (And.right (And.right (And.right (And.right (And.right (And.right (And.right (And.right (And.right (And.right (And.right (And.right (And.right (by assumption)))))))))))))))) | exact allLt_ne (And.right (And.right (And.right (And.right (And.right (And.right (And.right (And.right (And.right (And.right (And.right (And.right (And.right (And.right (And.right (And.right (by assumption))))))))))))))))) | exact allLt_ne (And.right (And.right (And.right (And.right (And.right (And.right (And.right (And.right (And.right (And.right (And.right (And.right (And.right (And.right (And.right (And.right (And.right (by assumption)))))))))))))))))) | exact ltAll_ne (by assumption))
  k_with "cj" => (first | with_reducible exact And.left | (with_reducible refine cjR ?_; k_extra "cj"))
  k_with "ne0" => ((refine neN ?_; (try dsimp only); first | with_reducible assumption | exact Ne.symm (by with_reducible assumption) | exact Nat.ne_of_lt (by with_reducible assumption) | exact Nat.ne_of_gt (by with_reducible assumption) | exact neL (by with_reducible assumption) (by k_extra "cj") | exact neG (by with_reducible assumption) (by k_extra "cj") | exact neLT (by with_reducible assumption) (by with_reducible assumption) (by k_extra "cj") | exact neGT (by with_reducible assumption) (by with_reducible assumption) (by k_extra "cj")))
  k_with "steps0" => (repeat' (first | (k_unfold; (try dsimp only)) | (k_end; wrow_close) | (walk1; all_goals (try dsimp only)) | (dsimp only; walk1; all_goals (try dsimp only)) | (leave1; walk_say "STEP leave1"; try dsimp only) | fail "no step"))
  k_with "call ref" => ((k_here; (with_reducible show wpAny _ _ (call (Value.ref 299) _) _ _ _); k_dflt (refine' pickU ?B ?F ?X ?N ?T ?hk ?U ?be ?mc ?kb ?n0 ?n1 ?dp ?un ?_; (case B => k_asm); (case F => k_asm); (case X => k_asm); (case N => k_asm); (case T => k_asm); (case hk => first | exact rfl | assumption); (case U => k_updF); (case be => assumption); (case mc => k_mem); (case kb => omega); (case n0 => first | decide | omega); (case n1 => first | decide | omega); (case dp => ktr_room); (case un => ktr_units)); intro r'z t'z h'z tk'z o'z F'z N'z be'z lo'z hi'z; (try dsimp only at N'z); (try k_sweep)))
  k_with "call ref" => ((k_here; (with_reducible show wpAny _ _ (call (Value.ref 120) _) _ _ _); k_dflt (refine' exc_make ?k1 ?k2 ?k3 ?k4 ?k5 ?k6 ?k7 ?k8 ?k9 ?k10 ?_; (case k1 => k_asm); (case k2 => k_asm); (case k3 => k_asm); (case k4 => k_is); (case k5 => decide); (case k6 => decide); (case k7 => decide); (case k8 => k_is); (case k9 => k_is); (case k10 => exact Nat.le_of_ble_eq_true rfl); k_whole); intro e'z t'z h'z F'z N'z l1z l2z; (try k_lt l1z); (try k_lt l2z); (try k_sweep); k_dflt k_enter))
  k_with "call builtin:Exception.__init__" => ((k_here; k_dflt (refine' call_excInit ?k1 ?k2 ?k3 ?k4 ?k5 ?k6 ?k7 ?k8 ?_; (case k1 => k_asm); (case k2 => k_asm); (case k3 => k_asm); (case k4 => k_updF); (case k5 => k_is); (case k6 => decide); (case k7 => exact ⟨_, rfl⟩); (case k8 => exact Nat.le_of_ble_eq_true rfl)); intro h'z t'z F'z N'z l1z; (try k_lt l1z); (try dsimp only at N'z); (try k_sweep)))
  k_with "getMethod type:Exception" => ((k_here; refine' method_type ?F ?X ?m (by decide +kernel) ?e ?h ?_; (case F => k_asm); (case X => k_asm); (case m => exact meta_Exc); (case e => k_dflt k_is); (case h => k_handed)))
  k_with "setAttr ref" => ((k_here; k_dflt (first
  | (refine' set_newE ?F ?X ?N ?U ?k1 ?k2 ?k3 ?k4 ?k5 ?k6 ?k7 ?_; (case F => k_asm); (case X => k_asm); (case N => k_asm); (case U => k_updF); (case k1 => k_is); (case k2 => k_is); (case k3 => rfl); (case k4 => (intro selfz; dsimp only; rw [refuseLoop_ref, refuseLoop_ref]; exact PySem.F.store_Exception.passes selfz)); (case k5 => decide); (case k6 => rfl); (case k7 => k_is); k_whole; intro h'z d'z F'z N'z l1z; (try k_lt l1z); (try dsimp only at N'z); (try k_sweep))
  | (refine' set_oldE ?F ?X ?N ?hx ?hd ?k1 ?k2 ?k3 ?k4 ?k5 ?k6 ?k7 ?kl ?ke ?U ?kz ?_; (case F => k_asm); (case X => k_asm); (case N => k_asm); (case hx => k_mem); (case hd => k_mem); (case k1 => k_is); (case k2 => k_is); (case k3 => rfl); (case k4 => (intro selfz; dsimp only; rw [refuseLoop_ref, refuseLoop_ref]; exact PySem.F.store_Exception.passes selfz)); (case k5 => decide); (case k6 => rfl); (case k7 => k_is); (case kl => k_get); (case ke => k_put); (case U => k_upd); (case kz => exact Nat.le_of_ble_eq_true rfl); k_whole; intro h'z F'z N'z; (try k_sweep)))))
  k_with "RaisableO" => ((k_here; k_dflt (refine' raisableO_of ?X ?F ?N ?m ?v ?k1 ?k2 ?_; (case X => k_asm); (case F => k_asm); (case N => k_asm); (case m => k_mem); (case v => rfl); (case k1 => k_is); (case k2 => k_is))))
  k_with "exec Raise some none" => ((k_here; k_dflt (refine' Raise_ownX ?X rfl ?_; (case X => k_asm))))
  k_with "k_del9" => (first | (refine Del.head ?_; k_all) | exact Del.tail (by k_ne) (by k_extra "k_del9"))
  k_with "leaving ref" => ((k_here; k_dflt (refine' leave_raiseX ?K ?F ?N ?D ?v ?_; (case K => assumption); (case F => k_asm); (case N => k_asm); (case D => walk_at "k_del9"); (case v => rfl)); intro h'z R'z U'z; (try dsimp only at R'z U'z ⊢)))
  k_with "noteFrame ref" => ((k_here; k_dflt (refine' caught_D ?R ?F ?K ?hs ?X ?T ?ex ?q ?_; (case R => assumption); (case F => assumption); (case K => assumption); (case hs => assumption); (case X => assumption); (case T => assumption); (case ex => k_is); (case q => rfl)); intro h'z g'z vs'z sl'z tk'z KT'z F'z N'z B'z X'z T'z))
  k_with "getAttr ref" => ((k_here; k_dflt (refine' get_valueX ?F ?X ?N ?m ?d ?k1 ?k2 ?k3 ?k4 ?k5 ?k6 ?k7 ?_; (case F => k_asm); (case X => k_asm); (case N => k_asm); (case m => k_mem); (case d => k_mem); (case k1 => k_is); (case k2 => k_is); (case k3 => k_is); (case k4 => k_is); (case k5 => k_is); (case k6 => k_get); (case k7 => k_handed); k_whole)))
  k_with "pyIter ref" => (refine Stop.mk' ?_)
  k_with "exec For Name Call cons nil" => (refine Stop.mk' ?_)
  k_with "close9" => ((refine' counts_end ?G ?F ?N ?n1 ?n2 ?n3 ?n4 ?n5 ?e0 ?e1 ?e2 ?e3 ?e4 ?e5 ?h1 ?h2 ?h3 ?h4 ?be ?a1 ?a2 ?a3 ?a4 ?a5 ?a6; (case F => k_asm); (case N => k_asm); (case G => first | assumption | exact Gr.turn (by assumption) (by assumption)); (case n1 => assumption); (case n2 => assumption); (case n3 => assumption); (case n4 => assumption); (case n5 => assumption); (case e0 => k_mem); (case e1 => k_mem); (case h1 => rfl); (case h2 => rfl); (case h3 => rfl); (case h4 => rfl); (case e2 => k_mem); (case be => assumption); (case e3 => k_mem); (case e4 => k_mem); (case e5 => (intro pz hpz; k_ownIn)); (case a1 => omega); (case a2 => omega); (case a3 => omega); (case a4 => omega); (case a5 => omega); (case a6 => omega)))
  revert X; k_fill; intro X
  refine wpAny_call ?_
  k_dflt (refine' code_gr ?k1 ?k2 ?k3 ?k4 ?k5 ?kA ?kF ?kK ?k6 ?k7 ?k8 ?k9 ?kB ?_ ?c2 ?c3 ?c4 ?c5; (case kA => exact rfl); (case kF => exact rfl); (case kK => assumption); (case k1 => k_asm); (case k2 => k_asm); (case k3 => k_asm); (case k4 => k_asm); (case k5 => k_asm); (case k6 => k_is); (case k7 => k_is); (case k8 => k_room); (case k9 => exact BindsTo.of_eq rfl); (case c5 => decide); (case kB => exact locs rfl); (case c2 => exact rfl); (case c3 => exact rfl); (case c4 => exact rfl))
  intro o₀ g L' h₁ G gsz F' N' B' X' T'
  (try dsimp only)
  (try k_fold)
  k_steps
  unfold Stop
  have F0 := G.lower (by k_asm)
  refine For_invVF F0 rfl rfl ?_
  clear F0
  k_steps
  unfold Stop
  k_dflt (refine' counts_loop (A₁ := ktrTop dp un gd cn cs L a ccd cl []) (env₁ := envX cn cs L a ccd cl) (own := own) (D := fun mx nd => [_, _, _, _, _, _, ⟨_, _, mx⟩, ⟨_, _, nd⟩, _, _]) ?hh ?hr G B X T ?hA ?hf ?hke ?F ?N ?e1 ?e2 ?e3 ?e4 ?e5 ?h1 ?h2 ?h3 ?h4 ?be ?m0 ?m1 ?turn ?done)
  (case hh => exact rfl)
  (case hA => exact rfl)
  (case hf => exact rfl)
  (case hke => exact hk)
  (case hr => assumption)
  (case F => k_asm)
  (case N => k_asm)
  (case h1 => rfl)
  (case h2 => rfl)
  (case h3 => rfl)
  (case h4 => rfl)
  (case be => assumption)
  (case e1 => k_mem)
  (case e2 => k_mem)
  (case e3 => k_mem)
  (case e4 => k_mem)
  (case e5 => (intro p hp; k_ownIn))
  (case m0 => assumption)
  (case m1 => assumption)
  (case' turn => intro i' t' u' h' tk' I' oI' g' ob' k' seen' most' t1' t2' t3' t4' hi' n1' n2' n3' n4' hoI' be' a1 a2 a3 a4 a5 a6 G' B' X' T' F' N')
  (case' done => intro m' h' tk' g' G' B' X' T' F' N')
  all_goals (try (dsimp only at F' N'))
  all_goals (try dsimp only)
  all_goals (try k_fold)
  k_steps
  all_goals first
    | exact ret _ _ (G'.back F')
    | (exfalso; omega)
    | walk_at "close9"
end
end
section
noncomputable def tS (i : Int) : Str := Str.ofString (toString i)
noncomputable def scoreT (v : Int) : Str :=
  if 31754 ≤ (if v < 0 then -v else v) then (if 0 < v then Str.ofString "mate " ++ tS ((32000 - v + 1).fdiv 2) else Str.ofString "mate " ++ tS (-(32000 + v + 1).fdiv 2)) else Str.ofString "cp " ++ tS v
noncomputable def sqT (f q : Int) : Str := Txt.item (Str.ofString "abcdefgh") (q.fmod f) ++ Txt.item (Str.ofString "12345678") (q.fdiv f)
noncomputable def promoL (q : Int) : Str := if q = 2 then Str.ofString "n" else if q = 3 then Str.ofString "b" else if q = 4 then Str.ofString "r" else if q = 5 then Str.ofString "q" else Str.ofString ""
noncomputable def fromT (q : Int) : Int := Builtin.bitAnd (q.fdiv (2 ^ Int.toNat 6)) 63
noncomputable def toT (q : Int) : Int := Builtin.bitAnd q 63
noncomputable def mpT (q : Int) : Int := if Builtin.bitAnd (q.fdiv (2 ^ Int.toNat 14)) 3 = 1 then Builtin.bitAnd (q.fdiv (2 ^ Int.toNat 12)) 3 + 2 else 0
noncomputable def moveT (f m : Int) : Str := if m = 0 then Str.ofString "(none)" else sqT f (fromT m) ++ sqT f (toT m) ++ promoL (mpT m)

theorem tS_len {a : Int} (h : a.natAbs < 10 ^ 12) : (tS a).length ≤ 13 := by
  unfold tS
  rw [PySem.ofString_length]
  exact int_text_length_le10 (by decide) h
theorem item_len (x : Str) (i : Int) : (Txt.item x i).length = 1 := len_item x i
theorem scoreT_len {v : Int} (h1 : -32000 ≤ v) (h2 : v ≤ 32000) : (scoreT v).length ≤ 20 := by
  unfold scoreT
  have l1 : (Str.ofString "mate ").length = 5 := by decide +kernel
  have l2 : (Str.ofString "cp ").length = 3 := by decide +kernel
  by_cases h : 31754 ≤ (if v < 0 then -v else v)
  · rw [if_pos h]
    by_cases hv : 0 < v
    · rw [if_pos hv]
      have := tS_len (a := (32000 - v + 1).fdiv 2) (by rw [Int.fdiv_eq_ediv_of_nonneg _ (by decide)]; omega)
      rw [Str.length_append]; omega
    · rw [if_neg hv]
      have := tS_len (a := -(32000 + v + 1).fdiv 2) (by rw [Int.fdiv_eq_ediv_of_nonneg _ (by decide)]; omega)
      rw [Str.length_append]; omega
  · rw [if_neg h]
    have := tS_len (a := v) (by omega)
    rw [Str.length_append]; omega
theorem promoL_len (q : Int) : (promoL q).length ≤ 1 := by
  unfold promoL
  (repeat' split) <;> decide +kernel
theorem sqT_len (f q : Int) : (sqT f q).length = 2 := by
  unfold sqT
  rw [Str.length_append, item_len, item_len]
theorem moveT_len (f m : Int) : (moveT f m).length ≤ 6 := by
  unfold moveT
  split
  · decide +kernel
  · have := promoL_len (mpT m)
    rw [Str.length_append, Str.length_append, sqT_len, sqT_len]; omega

section
variable {prog : Program} {w : World} {A : Around} {E : Value → Shared → Prop} {s : Shared} {value slice : Expr} {x y : Str} {t t2 : Tok} {Q : Value → Shared → Prop}
theorem item_at {i : Int} {u : Tok} {n : Nat} (hx : x.length = n) (hn : n ≤ 1000) (h0 : 0 ≤ i) (h1 : i < n) (h : ∀ t' tk, Q (.str (Txt.item x i) t') { s with toks := tk })
    (hs : subscripted slice false (.str x t) (.int i u) = operate [.str x t, .int i u] (getItem (.str x t) (.int i u)) := by with_unfolding_all rfl)
    (ht : ∀ r, letTemporaryGo value (.str x t) r = pure () := by intro _; with_unfolding_all rfl) :
    wpAny (model prog w) A (subscriptTail value slice (.str x t) (.int i u)) Q E s :=
  item_str (fitsSsize_of (N := 9223372036854775808) (by omega) (by omega) (Int.le_refl _)) (by omega) (by omega) (fun _ => h _ _) hs ht
theorem add_at (h1 : x.length ≤ 1000) (h2 : y.length ≤ 1000) (h : ∀ t' tk, Q (.str (x ++ y) t') { s with toks := tk }) : wpAny (model prog w) A (binaryOp .Add (.str x t) (.str y t2)) Q E s :=
  add_str h (by rw [sizeLine_eq]; omega)
end
theorem fdiv_lt {q f k : Int} (h1 : q < f * k) (hf : 0 < f) : q.fdiv f < k := by
  rw [Int.fdiv_eq_ediv_of_nonneg _ (by omega)]
  exact Int.ediv_lt_of_lt_mul hf (by rw [Int.mul_comm]; exact h1)
theorem fdiv_ge {q f : Int} (h0 : 0 ≤ q) (hf : 0 < f) : 0 ≤ q.fdiv f := Int.fdiv_nonneg h0 (by omega)

section
set_option maxHeartbeats 2000000
theorem score0 {w : World} {mean : ExcName → Option Value} {mg mb : Str → Option Value} {dp un : Nat} {gd : Option (List Code)} {cn : Str} {cs : Scope} {a : Addr} {ccd : Value} {cl : List (Str × Addr)} {outer : List Env} {A₀ : Around} {base h₀ : Heap} {L : Addr} {m : Str → Option Value} {news : List (Addr × Obj)} {s : Shared} {Q E : Value → Shared → Prop} {v : Int} {t : Nat}
    (B : Below A₀ base outer h₀) (F : Fr h₀ L s.heap m) (X : (ktop.heap_1 w.params).In h₀) (N : News h₀ L s.heap news) (T : Top vw (looseW vw loose) mean mg mb h₀) (hk : cs.kind = .function) (h1 : -32000 ≤ v) (h2 : v ≤ 32000) (hdp : dp + 5 < recursionLimit) (hun : un + 60 < cLine)
    (ret : ∀ t' h' tk', Fr h₀ L h' m → News h₀ L h' news → Q (.str (scoreT v) t') { s with heap := h', toks := tk' }) :
    wpAny (model PySem.Challenge.rw_pf0096_01.row.prog w) (ktrTop dp un gd cn cs L a ccd cl outer) (call (.ref 35) [.int v t]) Q E s := by
  k_with_none
  k_with "room0" => ((try simp only [depth_under_make, depth_under_kw, depth_in1, depth_deeper, depth_caller]); (try dsimp only [ktrTop]); (first | exact lq0 (by with_reducible assumption) | exact lq1 (by with_reducible assumption) (by rfl) | exact lq2 (by with_reducible assumption) (by rfl) | exact lq3 (by with_reducible assumption) (by rfl) | exact lq4 (by with_reducible assumption) (by rfl) | exact lq5 (by with_reducible assumption) (by rfl) | exact lq6 (by with_reducible assumption) (by rfl) | omega))
  k_with "units0" => ((try simp only [units_in1, units_deeper, Around.mark_units, units_caller]); (try dsimp only [ktrTop]); (first | exact lq0 (by with_reducible assumption) | exact lq1 (by with_reducible assumption) (by rfl) | exact lq2 (by with_reducible assumption) (by rfl) | exact lq3 (by with_reducible assumption) (by rfl) | exact lq4 (by with_reducible assumption) (by rfl) | exact lq5 (by with_reducible assumption) (by rfl) | exact lq6 (by with_reducible assumption) (by rfl) | omega))
  k_with "all0" => (first | assumption | exact allLt_ne (by assumption) | exact allLt_ne (And.right (by assumption)) | exact allLt_ne (And.right (And.right (by assumption))) | exact allLt_ne (And.right (And.right (And.right (by assumption)))) | exact allLt_ne (And.right (And.right (And.right (And.right (by assumption))))) | exact allLt_ne (And.right (And.right (And.right (And.right (And.right (by assumption)))))) | exact allLt_ne (And.right (And.right (And.right (And.right (And.right (And.right (by assumption))))))) | exact allLt_ne (And.right (And.right (And.right (And.right (And.right (And.right (And.right (by assumption)))))))) | exact allLt_ne (And.right (And.right (And.right (And.right (And.right (And.right (And.right (And.right (by assumption))))))))) | exact allLt_ne (And.right (And.right (And.right (And.right (And.right (And.right (And.right (And.right (And.right (by assumption)))))))))) | exact allLt_ne (And.right (And.right (And.right (And.right (And.right (And.right (And.right (And.right (And.right (And.right (by assumption))))))))))) | exact allLt_ne (And.right (And.right (And.right (And.right (And.right (And.right (And.right (And.right (And.right (And.right (And.right (by assumption)))))))))))) | exact allLt_ne (And.right (And.right (And.right (And.right (And.right (And.right (And.right (And.right (And.right (And.right (And.right (And.right (by assumption))))))))))))) | exact allLt_ne (And.right (And.right (And.right (And.right (And.right (And.right (And.right (And.right (And.right (And.right (And.right (And.right (And.right (by assumption)))))))))))))) | exact allLt_ne (And.right (And.right (And.right (And.right (And.right (And.right (And.right (And.right (And.right (And.right (And.right (And.right (And.right (And.right (by assumption))))))))))))))) | exact allLt_ne (And.right (And.right (And.right (And.right (And.right (And.right (And.right (And.right (And.right (And.right (And.right (And.right (And.right (And.right (And.right (by assumption)))))))))))))))) | exact allLt_ne (And.right (And.right (And.right (And.right (And.right (And.right (And.right (And.right (And.right (And.right (And.right (And.right (And.right (And.right (And.right (And.right (by assumption))))))))))))))))) | exact allLt_ne (And.right (And.right (And.right (And.right (And.right (And.right (And.right (And.right (And.right (And.right (And.right (And.right (And.right (And.right (And.right (And.right (And.right (by assumption)))))))))))))))))) | exact ltAll_ne (by assumption))
  k_with "cj" => (first | with_reducible exact And.left | (with_reducible refine cjR ?_; k_extra "cj"))
  k_with "ne0" => ((refine neN ?_; (try dsimp only); first | with_reducible assumption | exact Ne.symm (by with_reducible assumption) | exact Nat.ne_of_lt (by with_reducible assumption) | exact Nat.ne_of_gt (by with_reducible assumption) | exact neL (by with_reducible assumption) (by k_extra "cj") | exact neG (by with_reducible assumption) (by k_extra "cj") | exact neLT (by with_reducible assumption) (by with_reducible assumption) (by k_extra "cj") | exact neGT (by with_reducible assumption) (by with_reducible assumption) (by k_extra "cj")))
  k_with "steps0" => (repeat' (first | (k_unfold; (try dsimp only)) | (k_end; wrow_close) | (walk1; all_goals (try dsimp only)) | (dsimp only; walk1; all_goals (try dsimp only)) | (leave1; walk_say "STEP leave1"; try dsimp only) | fail "no step"))
  k_with "subscriptTail" => ((k_here; (with_reducible show wpAny _ _ (subscriptTail _ _ (Value.str _ _) (Value.int (Int.fmod _ _) _)) _ _ _); k_dflt (refine' item_at (n := 8) (by decide +kernel) (by decide) (Int.fmod_nonneg_of_pos _ (by omega)) (Int.lt_of_lt_of_le (Int.fmod_lt_of_pos _ (by omega)) (by omega)) ?_); intro _ _))
  k_with "subscriptTail" => ((k_here; (with_reducible show wpAny _ _ (subscriptTail _ _ (Value.str _ _) (Value.int (Int.fdiv _ _) _)) _ _ _); k_dflt (refine' item_at (n := 8) (by decide +kernel) (by decide) (fdiv_ge (by omega) (by omega)) (fdiv_lt (by omega) (by omega)) ?_); intro _ _))
  k_with "binaryOp Add str str" => ((k_here; (with_reducible show wpAny _ _ (binaryOp Operator.Add (Value.str (Txt.item _ _) _) (Value.str (Txt.item _ _) _)) _ _ _); (refine' add_at ?a ?b ?_; (case a => (rw [item_len]; decide)); (case b => (rw [item_len]; decide))); intro _ _))
  k_with "binaryOp Add str str" => ((k_here; (with_reducible show wpAny _ _ (binaryOp Operator.Add (Value.str (Str.ofString "mate ") _) (Value.str (Str.ofString (toString (-_))) _)) _ _ _); (refine' add_at ?a ?b ?_; (case a => decide +kernel); (case b => (refine Nat.le_trans (tS_len ?_) (by decide); rw [Int.fdiv_eq_ediv_of_nonneg _ (by decide)]; omega))); intro _ _))
  revert X; k_fill; intro X
  refine wpAny_call ?_
  k_dflt ktr_enter
  k_steps
  all_goals (
    refine cb_retS ret ?_ (by assumption) (by assumption)
    unfold scoreT tS
    simp only [*, if_true, if_false])
theorem square0 {w : World} {mean : ExcName → Option Value} {mg mb : Str → Option Value} {dp un : Nat} {gd : Option (List Code)} {cn : Str} {cs : Scope} {a : Addr} {ccd : Value} {cl : List (Str × Addr)} {outer : List Env} {A₀ : Around} {base h₀ : Heap} {L : Addr} {m : Str → Option Value} {news : List (Addr × Obj)} {s : Shared} {Q E : Value → Shared → Prop} {f q : Int} {t t2 : Nat}
    (B : Below A₀ base outer h₀) (F : Fr h₀ L s.heap m) (X : (ktop.heap_1 w.params).In h₀) (N : News h₀ L s.heap news) (T : Top vw (looseW vw loose) mean mg mb h₀) (hk : cs.kind = .function) (h1 : 3 ≤ f) (h2 : f ≤ 8) (h3 : 0 ≤ q) (h4 : q < f * 4) (hdp : dp + 3 < recursionLimit) (hun : un + 30 < cLine)
    (ret : ∀ t' h' tk', Fr h₀ L h' m → News h₀ L h' news → Q (.str (sqT f q) t') { s with heap := h', toks := tk' }) :
    wpAny (model PySem.Challenge.rw_pf0096_01.row.prog w) (ktrTop dp un gd cn cs L a ccd cl outer) (call (.ref 129) [.int f t, .int q t2]) Q E s := by
  k_with_none
  k_with "room0" => ((try simp only [depth_under_make, depth_under_kw, depth_in1, depth_deeper, depth_caller]); (try dsimp only [ktrTop]); (first | exact lq0 (by with_reducible assumption) | exact lq1 (by with_reducible assumption) (by rfl) | exact lq2 (by with_reducible assumption) (by rfl) | exact lq3 (by with_reducible assumption) (by rfl) | exact lq4 (by with_reducible assumption) (by rfl) | exact lq5 (by with_reducible assumption) (by rfl) | exact lq6 (by with_reducible assumption) (by rfl) | omega))
  k_with "units0" => ((try simp only [units_in1, units_deeper, Around.mark_units, units_caller]); (try dsimp only [ktrTop]); (first | exact lq0 (by with_reducible assumption) | exact lq1 (by with_reducible assumption) (by rfl) | exact lq2 (by with_reducible assumption) (by rfl) | exact lq3 (by with_reducible assumption) (by rfl) | exact lq4 (by with_reducible assumption) (by rfl) | exact lq5 (by with_reducible assumption) (by rfl) | exact lq6 (by with_reducible assumption) (by rfl) | omega))
  k_with "all0" => (first | assumption | exact allLt_ne (by assumption) | exact allLt_ne (And.right (by assumption)) | exact allLt_ne (And.right (And.right (by assumption))) | exact allLt_ne (And.right (And.right (And.right (by assumption)))) | exact allLt_ne (And.right (And.right (And.right (And.right (by assumption))))) | exact allLt_ne (And.right (And.right (And.right (And.right (And.right (by assumption)))))) | exact allLt_ne (And.right (And.right (And.right (And.right (And.right (And.right (by assumption))))))) | exact allLt_ne (And.right (And.right (And.right (And.right (And.right (And.right (And.right (by assumption)))))))) | exact allLt_ne (And.right (And.right (And.right (And.right (And.right (And.right (And.right (And.right (by assumption))))))))) | exact allLt_ne (And.right (And.right (And.right (And.right (And.right (And.right (And.right (And.right (And.right (by assumption)))))))))) | exact allLt_ne (And.right (And.right (And.right (And.right (And.right (And.right (And.right (And.right (And.right (And.right (by assumption))))))))))) | exact allLt_ne (And.right (And.right (And.right (And.right (And.right (And.right (And.right (And.right (And.right (And.right (And.right (by assumption)))))))))))) | exact allLt_ne (And.right (And.right (And.right (And.right (And.right (And.right (And.right (And.right (And.right (And.right (And.right (And.right (by assumption))))))))))))) | exact allLt_ne (And.right (And.right (And.right (And.right (And.right (And.right (And.right (And.right (And.right (And.right (And.right (And.right (And.right (by assumption)))))))))))))) | exact allLt_ne (And.right (And.right (And.right (And.right (And.right (And.right (And.right (And.right (And.right (And.right (And.right (And.right (And.right (And.right (by assumption))))))))))))))) | exact allLt_ne (And.right (And.right (And.right (And.right (And.right (And.right (And.right (And.right (And.right (And.right (And.right (And.right (And.right (And.right (And.right (by assumption)))))))))))))))) | exact allLt_ne (And.right (And.right (And.right (And.right (And.right (And.right (And.right (And.right (And.right (And.right (And.right (And.right (And.right (And.right (And.right (And.right (by assumption))))))))))))))))) | exact allLt_ne (And.right (And.right (And.right (And.right (And.right (And.right (And.right (And.right (And.right (And.right (And.right (And.right (And.right (And.right (And.right (And.right (And.right (by assumption)))))))))))))))))) | exact ltAll_ne (by assumption))
  k_with "cj" => (first | with_reducible exact And.left | (with_reducible refine cjR ?_; k_extra "cj"))
  k_with "ne0" => ((refine neN ?_; (try dsimp only); first | with_reducible assumption | exact Ne.symm (by with_reducible assumption) | exact Nat.ne_of_lt (by with_reducible assumption) | exact Nat.ne_of_gt (by with_reducible assumption) | exact neL (by with_reducible assumption) (by k_extra "cj") | exact neG (by with_reducible assumption) (by k_extra "cj") | exact neLT (by with_reducible assumption) (by with_reducible assumption) (by k_extra "cj") | exact neGT (by with_reducible assumption) (by with_reducible assumption) (by k_extra "cj")))
  k_with "steps0" => (repeat' (first | (k_unfold; (try dsimp only)) | (k_end; wrow_close) | (walk1; all_goals (try dsimp only)) | (dsimp only; walk1; all_goals (try dsimp only)) | (leave1; walk_say "STEP leave1"; try dsimp only) | fail "no step"))
  k_with "subscriptTail" => ((k_here; (with_reducible show wpAny _ _ (subscriptTail _ _ (Value.str _ _) (Value.int (Int.fmod _ _) _)) _ _ _); k_dflt (refine' item_at (n := 8) (by decide +kernel) (by decide) (Int.fmod_nonneg_of_pos _ (by omega)) (Int.lt_of_lt_of_le (Int.fmod_lt_of_pos _ (by omega)) (by omega)) ?_); intro _ _))
  k_with "subscriptTail" => ((k_here; (with_reducible show wpAny _ _ (subscriptTail _ _ (Value.str _ _) (Value.int (Int.fdiv _ _) _)) _ _ _); k_dflt (refine' item_at (n := 8) (by decide +kernel) (by decide) (fdiv_ge (by omega) (by omega)) (fdiv_lt (by omega) (by omega)) ?_); intro _ _))
  k_with "binaryOp Add str str" => ((k_here; (with_reducible show wpAny _ _ (binaryOp Operator.Add (Value.str (Txt.item _ _) _) (Value.str (Txt.item _ _) _)) _ _ _); (refine' add_at ?a ?b ?_; (case a => (rw [item_len]; decide)); (case b => (rw [item_len]; decide))); intro _ _))
  k_with "binaryOp Add str str" => ((k_here; (with_reducible show wpAny _ _ (binaryOp Operator.Add (Value.str (Str.ofString "mate ") _) (Value.str (Str.ofString (toString (-_))) _)) _ _ _); (refine' add_at ?a ?b ?_; (case a => decide +kernel); (case b => (refine Nat.le_trans (tS_len ?_) (by decide); rw [Int.fdiv_eq_ediv_of_nonneg _ (by decide)]; omega))); intro _ _))
  revert X; k_fill; intro X
  refine wpAny_call ?_
  k_dflt ktr_enter
  k_steps
  all_goals exact ret _ _ _ (by assumption) (by assumption)
theorem promo0 {w : World} {mean : ExcName → Option Value} {mg mb : Str → Option Value} {dp un : Nat} {gd : Option (List Code)} {cn : Str} {cs : Scope} {a : Addr} {ccd : Value} {cl : List (Str × Addr)} {outer : List Env} {A₀ : Around} {base h₀ : Heap} {L : Addr} {m : Str → Option Value} {news : List (Addr × Obj)} {s : Shared} {Q E : Value → Shared → Prop} {q : Int} {t2 : Nat}
    (B : Below A₀ base outer h₀) (F : Fr h₀ L s.heap m) (X : (ktop.heap_1 w.params).In h₀) (N : News h₀ L s.heap news) (T : Top vw (looseW vw loose) mean mg mb h₀) (hk : cs.kind = .function) (h3 : 0 ≤ q) (h4 : q < 8) (hdp : dp + 3 < recursionLimit) (hun : un + 30 < cLine)
    (ret : ∀ t' h' tk', Fr h₀ L h' m → News h₀ L h' news → Q (.str (promoL q) t') { s with heap := h', toks := tk' }) :
    wpAny (model PySem.Challenge.rw_pf0096_01.row.prog w) (ktrTop dp un gd cn cs L a ccd cl outer) (call (.ref 136) [.int q t2]) Q E s := by
  k_with_none
  k_with "room0" => ((try simp only [depth_under_make, depth_under_kw, depth_in1, depth_deeper, depth_caller]); (try dsimp only [ktrTop]); (first | exact lq0 (by with_reducible assumption) | exact lq1 (by with_reducible assumption) (by rfl) | exact lq2 (by with_reducible assumption) (by rfl) | exact lq3 (by with_reducible assumption) (by rfl) | exact lq4 (by with_reducible assumption) (by rfl) | exact lq5 (by with_reducible assumption) (by rfl) | exact lq6 (by with_reducible assumption) (by rfl) | omega))
  k_with "units0" => ((try simp only [units_in1, units_deeper, Around.mark_units, units_caller]); (try dsimp only [ktrTop]); (first | exact lq0 (by with_reducible assumption) | exact lq1 (by with_reducible assumption) (by rfl) | exact lq2 (by with_reducible assumption) (by rfl) | exact lq3 (by with_reducible assumption) (by rfl) | exact lq4 (by with_reducible assumption) (by rfl) | exact lq5 (by with_reducible assumption) (by rfl) | exact lq6 (by with_reducible assumption) (by rfl) | omega))
  k_with "all0" => (first | assumption | exact allLt_ne (by assumption) | exact allLt_ne (And.right (by assumption)) | exact allLt_ne (And.right (And.right (by assumption))) | exact allLt_ne (And.right (And.right (And.right (by assumption)))) | exact allLt_ne (And.right (And.right (And.right (And.right (by assumption))))) | exact allLt_ne (And.right (And.right (And.right (And.right (And.right (by assumption)))))) | exact allLt_ne (And.right (And.right (And.right (And.right (And.right (And.right (by assumption))))))) | exact allLt_ne (And.right (And.right (And.right (And.right (And.right (And.right (And.right (by assumption)))))))) | exact allLt_ne (And.right (And.right (And.right (And.right (And.right (And.right (And.right (And.right (by assumption))))))))) | exact allLt_ne (And.right (And.right (And.right (And.right (And.right (And.right (And.right (And.right (And.right (by assumption)))))))))) | exact allLt_ne (And.right (And.right (And.right (And.right (And.right (And.right (And.right (And.right (And.right (And.right (by assumption))))))))))) | exact allLt_ne (And.right (And.right (And.right (And.right (And.right (And.right (And.right (And.right (And.right (And.right (And.right (by assumption)))))))))))) | exact allLt_ne (And.right (And.right (And.right (And.right (And.right (And.right (And.right (And.right (And.right (And.right (And.right (And.right (by assumption))))))))))))) | exact allLt_ne (And.right (And.right (And.right (And.right (And.right (And.right (And.right (And.right (And.right (And.right (And.right (And.right (And.right (by assumption)))))))))))))) | exact allLt_ne (And.right (And.right (And.right (And.right (And.right (And.right (And.right (And.right (And.right (And.right (And.right (And.right (And.right (And.right (by assumption))))))))))))))) | exact allLt_ne (And.right (And.right (And.right (And.right (And.right (And.right (And.right (And.right (And.right (And.right (And.right (And.right (And.right (And.right (And.right (by assumption)))))))))))))))) | exact allLt_ne (And.right (And.right (And.right (And.right (And.right (And.right (And.right (And.right (And.right (And.right (And.right (And.right (And.right (And.right (And.right (And.right (by assumption))))))))))))))))) | exact allLt_ne (And.right (And.right (And.right (And.right (And.right (And.right (And.right (And.right (And.right (And.right (And.right (And.right (And.right (And.right (And.right (And.right (And.right (by assumption)))))))))))))))))) | exact ltAll_ne (by assumption))
  k_with "cj" => (first | with_reducible exact And.left | (with_reducible refine cjR ?_; k_extra "cj"))
  k_with "ne0" => ((refine neN ?_; (try dsimp only); first | with_reducible assumption | exact Ne.symm (by with_reducible assumption) | exact Nat.ne_of_lt (by with_reducible assumption) | exact Nat.ne_of_gt (by with_reducible assumption) | exact neL (by with_reducible assumption) (by k_extra "cj") | exact neG (by with_reducible assumption) (by k_extra "cj") | exact neLT (by with_reducible assumption) (by with_reducible assumption) (by k_extra "cj") | exact neGT (by with_reducible assumption) (by with_reducible assumption) (by k_extra "cj")))
  k_with "steps0" => (repeat' (first | (k_unfold; (try dsimp only)) | (k_end; wrow_close) | (walk1; all_goals (try dsimp only)) | (dsimp only; walk1; all_goals (try dsimp only)) | (leave1; walk_say "STEP leave1"; try dsimp only) | fail "no step"))
  k_with "subscriptTail" => ((k_here; (with_reducible show wpAny _ _ (subscriptTail _ _ (Value.str _ _) (Value.int (Int.fmod _ _) _)) _ _ _); k_dflt (refine' item_at (n := 8) (by decide +kernel) (by decide) (Int.fmod_nonneg_of_pos _ (by omega)) (Int.lt_of_lt_of_le (Int.fmod_lt_of_pos _ (by omega)) (by omega)) ?_); intro _ _))
  k_with "subscriptTail" => ((k_here; (with_reducible show wpAny _ _ (subscriptTail _ _ (Value.str _ _) (Value.int (Int.fdiv _ _) _)) _ _ _); k_dflt (refine' item_at (n := 8) (by decide +kernel) (by decide) (fdiv_ge (by omega) (by omega)) (fdiv_lt (by omega) (by omega)) ?_); intro _ _))
  k_with "binaryOp Add str str" => ((k_here; (with_reducible show wpAny _ _ (binaryOp Operator.Add (Value.str (Txt.item _ _) _) (Value.str (Txt.item _ _) _)) _ _ _); (refine' add_at ?a ?b ?_; (case a => (rw [item_len]; decide)); (case b => (rw [item_len]; decide))); intro _ _))
  k_with "binaryOp Add str str" => ((k_here; (with_reducible show wpAny _ _ (binaryOp Operator.Add (Value.str (Str.ofString "mate ") _) (Value.str (Str.ofString (toString (-_))) _)) _ _ _); (refine' add_at ?a ?b ?_; (case a => decide +kernel); (case b => (refine Nat.le_trans (tS_len ?_) (by decide); rw [Int.fdiv_eq_ediv_of_nonneg _ (by decide)]; omega))); intro _ _))
  revert X; k_fill; intro X
  refine wpAny_call ?_
  k_dflt ktr_enter
  k_steps
  all_goals (
    refine cb_retS ret ?_ (by assumption) (by assumption)
    unfold promoL
    (repeat' split) <;> first | rfl | (exfalso; omega))
theorem mpromo0 {w : World} {mean : ExcName → Option Value} {mg mb : Str → Option Value} {dp un : Nat} {gd : Option (List Code)} {cn : Str} {cs : Scope} {a : Addr} {ccd : Value} {cl : List (Str × Addr)} {outer : List Env} {A₀ : Around} {base h₀ : Heap} {L : Addr} {m : Str → Option Value} {news : List (Addr × Obj)} {s : Shared} {Q E : Value → Shared → Prop} {q : Int} {t2 : Nat}
    (B : Below A₀ base outer h₀) (F : Fr h₀ L s.heap m) (X : (ktop.heap_1 w.params).In h₀) (N : News h₀ L s.heap news) (T : Top vw (looseW vw loose) mean mg mb h₀) (hk : cs.kind = .function) (h3 : 0 ≤ q) (h4 : q < 65536) (hdp : dp + 3 < recursionLimit) (hun : un + 30 < cLine)
    (ret : ∀ t' h' tk', Fr h₀ L h' m → News h₀ L h' news → Q (.int (mpT q) t') { s with heap := h', toks := tk' }) :
    wpAny (model PySem.Challenge.rw_pf0096_01.row.prog w) (ktrTop dp un gd cn cs L a ccd cl outer) (call (.ref 63) [.int q t2]) Q E s := by
  k_with_none
  k_with "room0" => ((try simp only [depth_under_make, depth_under_kw, depth_in1, depth_deeper, depth_caller]); (try dsimp only [ktrTop]); (first | exact lq0 (by with_reducible assumption) | exact lq1 (by with_reducible assumption) (by rfl) | exact lq2 (by with_reducible assumption) (by rfl) | exact lq3 (by with_reducible assumption) (by rfl) | exact lq4 (by with_reducible assumption) (by rfl) | exact lq5 (by with_reducible assumption) (by rfl) | exact lq6 (by with_reducible assumption) (by rfl) | omega))
  k_with "units0" => ((try simp only [units_in1, units_deeper, Around.mark_units, units_caller]); (try dsimp only [ktrTop]); (first | exact lq0 (by with_reducible assumption) | exact lq1 (by with_reducible assumption) (by rfl) | exact lq2 (by with_reducible assumption) (by rfl) | exact lq3 (by with_reducible assumption) (by rfl) | exact lq4 (by with_reducible assumption) (by rfl) | exact lq5 (by with_reducible assumption) (by rfl) | exact lq6 (by with_reducible assumption) (by rfl) | omega))
  k_with "all0" => (first | assumption | exact allLt_ne (by assumption) | exact allLt_ne (And.right (by assumption)) | exact allLt_ne (And.right (And.right (by assumption))) | exact allLt_ne (And.right (And.right (And.right (by assumption)))) | exact allLt_ne (And.right (And.right (And.right (And.right (by assumption))))) | exact allLt_ne (And.right (And.right (And.right (And.right (And.right (by assumption)))))) | exact allLt_ne (And.right (And.right (And.right (And.right (And.right (And.right (by assumption))))))) | exact allLt_ne (And.right (And.right (And.right (And.right (And.right (And.right (And.right (by assumption)))))))) | exact allLt_ne (And.right (And.right (And.right (And.right (And.right (And.right (And.right (And.right (by assumption))))))))) | exact allLt_ne (And.right (And.right (And.right (And.right (And.right (And.right (And.right (And.right (And.right (by assumption)))))))))) | exact allLt_ne (And.right (And.right (And.right (And.right (And.right (And.right (And.right (And.right (And.right (And.right (by assumption))))))))))) | exact allLt_ne (And.right (And.right (And.right (And.right (And.right (And.right (And.right (And.right (And.right (And.right (And.right (by assumption)))))))))))) | exact allLt_ne (And.right (And.right (And.right (And.right (And.right (And.right (And.right (And.right (And.right (And.right (And.right (And.right (by assumption))))))))))))) | exact allLt_ne (And.right (And.right (And.right (And.right (And.right (And.right (And.right (And.right (And.right (And.right (And.right (And.right (And.right (by assumption)))))))))))))) | exact allLt_ne (And.right (And.right (And.right (And.right (And.right (And.right (And.right (And.right (And.right (And.right (And.right (And.right (And.right (And.right (by assumption))))))))))))))) | exact allLt_ne (And.right (And.right (And.right (And.right (And.right (And.right (And.right (And.right (And.right (And.right (And.right (And.right (And.right (And.right (And.right (by assumption)))))))))))))))) | exact allLt_ne (And.right (And.right (And.right (And.right (And.right (And.right (And.right (And.right (And.right (And.right (And.right (And.right (And.right (And.right (And.right (And.right (by assumption))))))))))))))))) | exact allLt_ne (And.right (And.right (And.right (And.right (And.right (And.right (And.right (And.right (And.right (And.right (And.right (And.right (And.right (And.right (And.right (And.right (And.right (by assumption)))))))))))))))))) | exact ltAll_ne (by assumption))
  k_with "cj" => (first | with_reducible exact And.left | (with_reducible refine cjR ?_; k_extra "cj"))
  k_with "ne0" => ((refine neN ?_; (try dsimp only); first | with_reducible assumption | exact Ne.symm (by with_reducible assumption) | exact Nat.ne_of_lt (by with_reducible assumption) | exact Nat.ne_of_gt (by with_reducible assumption) | exact neL (by with_reducible assumption) (by k_extra "cj") | exact neG (by with_reducible assumption) (by k_extra "cj") | exact neLT (by with_reducible assumption) (by with_reducible assumption) (by k_extra "cj") | exact neGT (by with_reducible assumption) (by with_reducible assumption) (by k_extra "cj")))
  k_with "steps0" => (repeat' (first | (k_unfold; (try dsimp only)) | (k_end; wrow_close) | (walk1; all_goals (try dsimp only)) | (dsimp only; walk1; all_goals (try dsimp only)) | (leave1; walk_say "STEP leave1"; try dsimp only) | fail "no step"))
  k_with "subscriptTail" => ((k_here; (with_reducible show wpAny _ _ (subscriptTail _ _ (Value.str _ _) (Value.int (Int.fmod _ _) _)) _ _ _); k_dflt (refine' item_at (n := 8) (by decide +kernel) (by decide) (Int.fmod_nonneg_of_pos _ (by omega)) (Int.lt_of_lt_of_le (Int.fmod_lt_of_pos _ (by omega)) (by omega)) ?_); intro _ _))
  k_with "subscriptTail" => ((k_here; (with_reducible show wpAny _ _ (subscriptTail _ _ (Value.str _ _) (Value.int (Int.fdiv _ _) _)) _ _ _); k_dflt (refine' item_at (n := 8) (by decide +kernel) (by decide) (fdiv_ge (by omega) (by omega)) (fdiv_lt (by omega) (by omega)) ?_); intro _ _))
  k_with "binaryOp Add str str" => ((k_here; (with_reducible show wpAny _ _ (binaryOp Operator.Add (Value.str (Txt.item _ _) _) (Value.str (Txt.item _ _) _)) _ _ _); (refine' add_at ?a ?b ?_; (case a => (rw [item_len]; decide)); (case b => (rw [item_len]; decide))); intro _ _))
  k_with "binaryOp Add str str" => ((k_here; (with_reducible show wpAny _ _ (binaryOp Operator.Add (Value.str (Str.ofString "mate ") _) (Value.str (Str.ofString (toString (-_))) _)) _ _ _); (refine' add_at ?a ?b ?_; (case a => decide +kernel); (case b => (refine Nat.le_trans (tS_len ?_) (by decide); rw [Int.fdiv_eq_ediv_of_nonneg _ (by decide)]; omega))); intro _ _))
  revert X; k_fill; intro X
  refine wpAny_call ?_
  k_dflt ktr_enter
  k_steps
  all_goals (
    refine cb_retI ret ?_ (by assumption) (by assumption)
    unfold mpT
    simp only [*, if_true, if_false])
end
end
section
theorem two6 : ((2 : Int) ^ Int.toNat 6) = 64 := by decide
theorem two12 : ((2 : Int) ^ Int.toNat 12) = 4096 := by decide
theorem two14 : ((2 : Int) ^ Int.toNat 14) = 16384 := by decide
theorem fromT_eq {m : Int} : fromT m = m / 64 % 64 := by
  unfold fromT
  rw [two6, bitAnd_m6, Int.fdiv_eq_ediv_of_nonneg _ (by decide)]
theorem toT_eq (m : Int) : toT m = m % 64 := by
  unfold toT
  rw [bitAnd_m6]
theorem mpT_eq (m : Int) : mpT m = if m / 16384 % 4 = 1 then m / 4096 % 4 + 2 else 0 := by
  unfold mpT
  rw [two12, two14, bitAnd_m2, bitAnd_m2, Int.fdiv_eq_ediv_of_nonneg _ (by decide), Int.fdiv_eq_ediv_of_nonneg _ (by decide)]
theorem mpT_bd (m : Int) : 0 ≤ mpT m ∧ mpT m < 8 := by
  rw [mpT_eq]
  split <;> omega
theorem fromT_bd (m : Int) : 0 ≤ fromT m := by rw [fromT_eq]; omega
theorem toT_bd (m : Int) : 0 ≤ toT m := by rw [toT_eq]; omega
theorem and_zero {a b k : Nat} (h : a < 2 ^ k) : a &&& (b * 2 ^ k) = 0 := by
  apply Nat.eq_of_testBit_eq
  intro i
  rw [Nat.testBit_and, Nat.zero_testBit]
  by_cases hi : i < k
  · have : (b * 2 ^ k).testBit i = false := by
      rw [Nat.mul_comm, Nat.testBit_two_pow_mul]
      simp [Nat.not_le.mpr hi]
    rw [this, Bool.and_false]
  · have : a.testBit i = false := Nat.testBit_lt_two_pow (Nat.lt_of_lt_of_le h (Nat.pow_le_pow_right (by decide) (Nat.not_lt.mp hi)))
    rw [this, Bool.false_and]
theorem bitOr_disj {a b : Int} {k : Nat} (h0 : 0 ≤ a) (h1 : a < 2 ^ k) (hb : 0 ≤ b) : Builtin.bitOr a (b * 2 ^ k) = a + b * 2 ^ k := by
  have hx := bitXor_and a (b * 2 ^ k)
  have hb2 : 0 ≤ b * 2 ^ k := Int.mul_nonneg hb (Int.le_of_lt (Int.pow_pos (by decide)))
  have hz : Builtin.bitAnd a (b * 2 ^ k) = 0 := by
    unfold Builtin.bitAnd
    rw [decide_eq_true h0, decide_eq_true hb2]
    show ((a.toNat &&& (b * 2 ^ k).toNat : Nat) : Int) = 0
    have e : (b * 2 ^ k).toNat = b.toNat * 2 ^ k := by
      obtain ⟨n, rfl⟩ := Int.eq_ofNat_of_zero_le hb
      have : ((n : Int) * 2 ^ k) = ((n * 2 ^ k : Nat) : Int) := by simp
      rw [this, Int.toNat_natCast, Int.toNat_natCast]
    have l : a.toNat < 2 ^ k := by
      obtain ⟨n, rfl⟩ := Int.eq_ofNat_of_zero_le h0
      have : ((2 : Int) ^ k) = ((2 ^ k : Nat) : Int) := by simp
      rw [this] at h1
      rw [Int.toNat_natCast]
      exact Int.ofNat_lt.mp h1
    rw [e, and_zero l]
    rfl
  unfold Builtin.bitXor at hx
  rw [hz] at hx
  omega
theorem pk_eq {o g fd sp : Int} (h1 : 0 ≤ o) (h2 : o < 32) (h3 : 0 ≤ g) (h4 : g < 32) (h5 : 0 ≤ fd) (h6 : fd < 4) (h7 : 0 ≤ sp) :
    Builtin.bitOr (Builtin.bitOr (Builtin.bitOr g (o * 2 ^ Int.toNat 6)) (fd * 2 ^ Int.toNat 12)) (sp * 2 ^ Int.toNat 14) = g + o * 64 + fd * 4096 + sp * 16384 := by
  have e1 : ((2 : Int) ^ Int.toNat 6) = 64 := two6
  have e2 : ((2 : Int) ^ Int.toNat 12) = 4096 := two12
  have e3 : ((2 : Int) ^ Int.toNat 14) = 16384 := two14
  rw [bitOr_disj (k := Int.toNat 6) h3 (by rw [e1]; omega) h1]
  rw [bitOr_disj (k := Int.toNat 12) (by rw [e1]; omega) (by rw [e1, e2]; omega) h5]
  rw [bitOr_disj (k := Int.toNat 14) (by rw [e1, e2]; omega) (by rw [e1, e2, e3]; omega) h7, e1, e2, e3]
end
section
section
set_option maxHeartbeats 2000000
theorem move0 {w : World} {mean : ExcName → Option Value} {mg mb : Str → Option Value} {dp un : Nat} {gd : Option (List Code)} {cn : Str} {cs : Scope} {a : Addr} {ccd : Value} {cl : List (Str × Addr)} {outer : List Env} {A₀ : Around} {base h₀ : Heap} {L : Addr} {m : Str → Option Value} {news : List (Addr × Obj)} {s : Shared} {Q E : Value → Shared → Prop} {f v : Int} {gx gdx : Addr} {es : List DictEntry} {n : Nat} {t tf : Nat}
    (B : Below A₀ base outer h₀) (F : Fr h₀ L s.heap m) (X : (ktop.heap_1 w.params).In h₀) (N : News h₀ L s.heap news) (T : Top vw (looseW vw loose) mean mg mb h₀) (hk : cs.kind = .function) (h1 : 3 ≤ f) (h2 : f ≤ 8) (hg : (gx, instObj 225 gdx) ∈ news) (hgd : (gdx, dictOf es n) ∈ news) (hfl : getL (Str.ofString "files") es = some (some (.int f tf)))
    (h3 : 0 ≤ v) (h4 : v < 65536) (h5 : v ≠ 0 → fromT v < f * 4) (h6 : v ≠ 0 → toT v < f * 4) (hdp : dp + 7 < recursionLimit) (hun : un + 80 < cLine)
    (ret : ∀ t' h' tk', Fr h₀ L h' m → News h₀ L h' news → Q (.str (moveT f v) t') { s with heap := h', toks := tk' }) :
    wpAny (model PySem.Challenge.rw_pf0096_01.row.prog w) (ktrTop dp un gd cn cs L a ccd cl outer) (call (.ref 143) [.ref gx, .int v t]) Q E s := by
  k_with_none
  k_with "room0" => ((try simp only [depth_under_make, depth_under_kw, depth_in1, depth_deeper, depth_caller]); (try dsimp only [ktrTop]); (first | exact lq0 (by with_reducible assumption) | exact lq1 (by with_reducible assumption) (by rfl) | exact lq2 (by with_reducible assumption) (by rfl) | exact lq3 (by with_reducible assumption) (by rfl) | exact lq4 (by with_reducible assumption) (by rfl) | exact lq5 (by with_reducible assumption) (by rfl) | exact lq6 (by with_reducible assumption) (by rfl) | omega))
  k_with "units0" => ((try simp only [units_in1, units_deeper, Around.mark_units, units_caller]); (try dsimp only [ktrTop]); (first | exact lq0 (by with_reducible assumption) | exact lq1 (by with_reducible assumption) (by rfl) | exact lq2 (by with_reducible assumption) (by rfl) | exact lq3 (by with_reducible assumption) (by rfl) | exact lq4 (by with_reducible assumption) (by rfl) | exact lq5 (by with_reducible assumption) (by rfl) | exact lq6 (by with_reducible assumption) (by rfl) | omega))
  k_with "all0" => (first | assumption | exact allLt_ne (by assumption) | exact allLt_ne (And.right (by assumption)) | exact allLt_ne (And.right (And.right (by assumption))) | exact allLt_ne (And.right (And.right (And.right (by assumption)))) | exact allLt_ne (And.right (And.right (And.right (And.right (by assumption))))) | exact allLt_ne (And.right (And.right (And.right (And.right (And.right (by assumption)))))) | exact allLt_ne (And.right (And.right (And.right (And.right (And.right (And.right (by assumption))))))) | exact allLt_ne (And.right (And.right (And.right (And.right (And.right (And.right (And.right (by assumption)))))))) | exact allLt_ne (And.right (And.right (And.right (And.right (And.right (And.right (And.right (And.right (by assumption))))))))) | exact allLt_ne (And.right (And.right (And.right (And.right (And.right (And.right (And.right (And.right (And.right (by assumption)))))))))) | exact allLt_ne (And.right (And.right (And.right (And.right (And.right (And.right (And.right (And.right (And.right (And.right (by assumption))))))))))) | exact allLt_ne (And.right (And.right (And.right (And.right (And.right (And.right (And.right (And.right (And.right (And.right (And.right (by assumption)))))))))))) | exact allLt_ne (And.right (And.right (And.right (And.right (And.right (And.right (And.right (And.right (And.right (And.right (And.right (And.right (by assumption))))))))))))) | exact allLt_ne (And.right (And.right (And.right (And.right (And.right (And.right (And.right (And.right (And.right (And.right (And.right (And.right (And.right (by assumption)))))))))))))) | exact allLt_ne (And.right (And.right (And.right (And.right (And.right (And.right (And.right (And.right (And.right (And.right (And.right (And.right (And.right (And.right (by assumption))))))))))))))) | exact allLt_ne (And.right (And.right (And.right (And.right (And.right (And.right (And.right (And.right (And.right (And.right (And.right (And.right (And.right (And.right (And.right (by assumption)))))))))))))))) | exact allLt_ne (And.right (And.right (And.right (And.right (And.right (And.right (And.right (And.right (And.right (And.right (And.right (And.right (And.right (And.right (And.right (And.right (by assumption))))))))))))))))) | exact allLt_ne (And.right (And.right (And.right (And.right (And.right (And.right (And.right (And.right (And.right (And.right (And.right (And.right (And.right (And.right (And.right (And.right (And.right (by assumption)))))))))))))))))) | exact ltAll_ne (by assumption))
  k_with "cj" => (first | with_reducible exact And.left | (with_reducible refine cjR ?_; k_extra "cj"))
  k_with "ne0" => ((refine neN ?_; (try dsimp only); first | with_reducible assumption | exact Ne.symm (by with_reducible assumption) | exact Nat.ne_of_lt (by with_reducible assumption) | exact Nat.ne_of_gt (by with_reducible assumption) | exact neL (by with_reducible assumption) (by k_extra "cj") | exact neG (by with_reducible assumption) (by k_extra "cj") | exact neLT (by with_reducible assumption) (by with_reducible assumption) (by k_extra "cj") | exact neGT (by with_reducible assumption) (by with_reducible assumption) (by k_extra "cj")))
  k_with "steps0" => (repeat' (first | (k_unfold; (try dsimp only)) | (k_end; wrow_close) | (walk1; all_goals (try dsimp only)) | (dsimp only; walk1; all_goals (try dsimp only)) | (leave1; walk_say "STEP leave1"; try dsimp only) | fail "no step"))
  k_with "call ref" => ((k_here; (with_reducible show wpAny _ _ (call (Value.ref 129) _) _ _ _); k_dflt (refine' square0 ?B ?F ?X ?N ?T ?hk ?p0 ?p1 ?p2 ?p3 ?dp ?un ?_; (case B => k_asm); (case F => k_asm); (case X => k_asm); (case N => k_asm); (case T => k_asm); (case hk => first | exact rfl | assumption); (case p0 => omega); (case p1 => omega); (case p2 => first | assumption | omega | solve_by_elim); (case p3 => first | assumption | omega | solve_by_elim); (case dp => k_room); (case un => k_units)); intro t'z h'z tk'z F'z N'z; (try k_sweep)))
  k_with "call ref" => ((k_here; (with_reducible show wpAny _ _ (call (Value.ref 136) _) _ _ _); k_dflt (refine' promo0 ?B ?F ?X ?N ?T ?hk ?p0 ?p1 ?dp ?un ?_; (case B => k_asm); (case F => k_asm); (case X => k_asm); (case N => k_asm); (case T => k_asm); (case hk => first | exact rfl | assumption); (case p0 => first | assumption | omega); (case p1 => first | assumption | omega); (case dp => k_room); (case un => k_units)); intro t'z h'z tk'z F'z N'z; (try k_sweep)))
  k_with "call ref" => ((k_here; (with_reducible show wpAny _ _ (call (Value.ref 63) _) _ _ _); k_dflt (refine' mpromo0 ?B ?F ?X ?N ?T ?hk ?p0 ?p1 ?dp ?un ?_; (case B => k_asm); (case F => k_asm); (case X => k_asm); (case N => k_asm); (case T => k_asm); (case hk => first | exact rfl | assumption); (case p0 => omega); (case p1 => omega); (case dp => k_room); (case un => k_units)); intro t'z h'z tk'z F'z N'z; (try k_sweep)))
  k_with "binaryOp Add str str" => ((k_here; (with_reducible show wpAny _ _ (binaryOp Operator.Add (Value.str (sqT _ _) _) (Value.str (sqT _ _) _)) _ _ _); (refine' add_at ?a ?b ?_; (case a => rw [sqT_len]; decide); (case b => rw [sqT_len]; decide)); intro _ _))
  k_with "binaryOp Add str str" => ((k_here; (with_reducible show wpAny _ _ (binaryOp Operator.Add (Value.str (sqT _ _ ++ sqT _ _) _) (Value.str (promoL _) _)) _ _ _); (refine' add_at ?a ?b ?_; (case a => rw [Str.length_append, sqT_len, sqT_len]; decide); (case b => exact Nat.le_trans (promoL_len _) (by decide))); intro _ _))
  k_with "getAttr ref" => ((k_here; (with_reducible show wpAny _ _ (getAttr (Value.ref _) (PySem.Str.ofString "files") _) _ _ _); k_dflt (refine' get_own ?k1 ?k2 ?k3 ?k4 ?k5 ?k6 ?k7 ?k8 ?k9 ?_; (case k1 => k_asm); (case k2 => k_asm); (case k3 => k_inst); (case k4 => k_is); (case k5 => k_is); (case k6 => k_is); (case k7 => k_is); (case k8 => assumption); (case k9 => rfl); k_whole)))
  have h7 : 0 ≤ fromT v := fromT_bd v
  have h8 : 0 ≤ toT v := toT_bd v
  have h9 := (mpT_bd v).1
  have h10 := (mpT_bd v).2
  unfold fromT at h5 h7
  unfold toT at h6 h8
  revert X; k_fill; intro X
  refine wpAny_call ?_
  k_dflt ktr_enter
  k_steps
  · refine cb_retS ret ?_ (by assumption) (by assumption)
    unfold moveT; rw [if_pos (by assumption)]
  · refine cb_retS ret ?_ (by assumption) (by assumption)
    unfold moveT; rw [if_neg (by assumption)]; rfl
end
end
section
def MoveOk (f m : Int) : Prop := 0 ≤ m ∧ m < 65536 ∧ (m ≠ 0 → fromT m < f * 4) ∧ (m ≠ 0 → toT m < f * 4)
theorem strsAre_snoc {y : Str} {t : Tok} : ∀ {us : List Value} {ys : List Str}, StrsAre us ys → StrsAre (us ++ [.str y t]) (ys ++ [y])
  | _, _, .nil => .cons _ _ .nil
  | _, _, .cons a b h => .cons a b (strsAre_snoc h)
theorem strsAre_len {us : List Value} {ys : List Str} (h : StrsAre us ys) : us.length = ys.length := by
  induction h with
  | nil => rfl
  | cons _ _ _ ih => rw [List.length_cons, List.length_cons, ih]
theorem sum_len (B : Nat) : ∀ ys : List Str, (∀ y ∈ ys, y.length ≤ B) → (ys.map (·.length)).sum ≤ ys.length * B
  | [], _ => by simp
  | y :: r, h => by
    have h1 := h y (.head _)
    have h2 := sum_len B r fun z hz => h z (.tail _ hz)
    rw [List.map_cons, List.sum_cons, List.length_cons, Nat.add_mul]
    omega
section
variable {prog : Program} {w : World} {A : Around} {E : Value → Shared → Prop} {s : Shared} {h₀ : Heap} {L l : Addr} {news : List (Addr × Obj)} {items : Array Value} {ys : List Str} {k : Nat} {t : Tok}
theorem join_w {Q : Value → Shared → Prop} (N : News h₀ L s.heap news) (hm : (l, W.listOf items k) ∈ news) (hi : StrsAre items.toList ys) (hb : ∀ y ∈ ys, y.length ≤ 40) (hc : ys.length ≤ 40) (h : ∀ t' k, Q (.str (Txt.join (Str.ofString " ") ys) t') { s with toks := k }) :
    wpAny (model prog w) A (call (.builtin "str.join") [.str (Str.ofString " ") t, .ref l]) Q E s := by
  refine join_list ⟨_, (N _ hm).1, rfl, _, rfl⟩ hi ?_ h
  have := sum_len 40 ys hb
  have e : (Str.ofString " ").length = 1 := by decide +kernel
  rw [e]
  omega
end
def JW (m₀ : Str → Option Value) (x : Str) (wl : Addr) (news : List (Addr × Obj)) (base : List Str) (g : Int → Str) (ms : List Int) (i : Nat) (m : Str → Option Value) (nx : List (Addr × Obj)) : Prop :=
  ∃ us k, nx = (wl, W.listOf us.toArray k) :: news ∧ StrsAre us (base ++ (ms.take i).map g) ∧ ∀ z, z ≠ x → m z = m₀ z
theorem words_loop {prog : Program} {w : World} {A : Around} {E : Value → Shared → Prop} {s : Shared} {env : Env} {h₀ : Heap} {x : Str} {body : List Stmt} {Q : Flow → Shared → Prop}
    {l wl : Addr} {vs us₀ : List Value} {ms : List Int} {k k₀ : Nat} {m₀ : Str → Option Value} {news : List (Addr × Obj)} {base : List Str} (g : Int → Str)
    (hh : A.handled = none) (hi : IntsAre vs ms) (F : Fr h₀ env.locals s.heap m₀) (N : News h₀ env.locals s.heap ((wl, W.listOf us₀.toArray k₀) :: news)) (hl : (l, W.listOf vs.toArray k) ∈ news) (hs : StrsAre us₀ base) (hlen : ms.length ≤ 10) (hbase : base.length ≤ 20)
    (turn : ∀ i n t us k h tk I oI, ms[i]? = some n → @Ne Nat wl I → (∀ p ∈ news, p.1 ≠ I) → us.length ≤ 30 → StrsAre us (base ++ (ms.take i).map g) → Fr h₀ env.locals h (fun y => if y = x then some (.int n t) else m₀ y) → News h₀ env.locals h ((I, oI) :: (wl, W.listOf us.toArray k) :: news) →
      wpAny (model prog w) A (execs body env) (PostJ h₀ env.locals (JW m₀ x wl news base g ms (i + 1)) I oI { s with heap := h, toks := tk } Q) E { s with heap := h, toks := tk })
    (done : ∀ (m₁ : Str → Option Value) us k h tk, StrsAre us (base ++ ms.map g) → Fr h₀ env.locals h (fun y => if y = x then m₁ y else m₀ y) → News h₀ env.locals h ((wl, W.listOf us.toArray k) :: news) → Q .next { s with heap := h, toks := tk }) :
    wpAny (model prog w) A (pyIter (.ref l)) (fun it s₂ => LoopAtV prog w A h₀ env x body Q E it s₂) E s := by
  have fix : ∀ m₁ : Str → Option Value, (∀ z, z ≠ x → m₁ z = m₀ z) → ∀ v : Str → Option Value, (fun y => if y = x then v y else m₁ y) = fun y => if y = x then v y else m₀ y := fun m₁ hm v => by
    funext y
    by_cases h : y = x
    · rw [if_pos h, if_pos h]
    · rw [if_neg h, if_neg h, hm y h]
  refine iter_listJ (k := k) (nx₀ := (wl, W.listOf us₀.toArray k₀) :: news) (JW m₀ x wl news base g ms) hh hi F N (fun _ hp => hp) ⟨us₀, k₀, rfl, by simpa using hs, fun _ _ => rfl⟩ ?_ ?_ ?_
  · rintro i m nx ⟨us, k', rfl, _⟩
    exact .tail _ hl
  · rintro i n t m₁ nx h tk I oI hn ho ⟨us, k', rfl, hus, hm⟩ F₁ N₁
    rw [fix m₁ hm fun _ => some (.int n t)] at F₁
    refine turn i n t us k' h tk I oI hn (ho _ (.head _)) (fun p hp => ho p (.tail _ hp)) ?_ hus F₁ N₁
    rw [strsAre_len hus, List.length_append, List.length_map, List.length_take]
    omega
  · rintro m₁ nx h tk ⟨us, k', rfl, hus, hm⟩ F₁ N₁
    rw [List.take_length] at hus
    refine done m₁ us k' h tk hus ?_ N₁
    have e : m₁ = fun y => if y = x then m₁ y else m₀ y := by
      funext y
      by_cases h : y = x
      · rw [if_pos h]
      · rw [if_neg h, hm y h]
    rw [e] at F₁; exact F₁
theorem words_end {h₀ h' : Heap} {L wl I : Addr} {m' m₀ : Str → Option Value} {x : Str} {news big : List (Addr × Obj)} {oI : Obj} {base : List Str} {g : Int → Str} {ms : List Int} {i tk k : Nat} {n : Int} {us : List Value} {t : Tok} {s₁ : Shared} {Q : Flow → Shared → Prop}
    (F : Fr h₀ L h' m') (N : News h₀ L h' big) (hn : ms[i]? = some n) (h1 : @Ne Nat wl I) (h2 : ∀ p ∈ news, p.1 ≠ I) (e0 : (I, oI) ∈ big) (e1 : (wl, W.listOf (us.toArray.push (Value.str (g n) t)) k) ∈ big) (e2 : ∀ p ∈ news, p ∈ big)
    (hus : StrsAre us (base ++ (ms.take i).map g)) (hm : ∀ z, z ≠ x → m' z = m₀ z) :
    PostJ h₀ L (JW m₀ x wl news base g ms (i + 1)) I oI s₁ Q .next { s₁ with heap := h', toks := tk } := by
  rw [List.push_toArray] at e1
  refine ⟨h', tk, m', (wl, W.listOf (us ++ [Value.str (g n) t]).toArray k) :: news, rfl, F, fun p hp => ?_, fun p hp => ?_, us ++ [Value.str (g n) t], k, rfl, ?_, hm⟩
  · rcases List.mem_cons.mp hp with rfl | hp
    · exact N _ e0
    rcases List.mem_cons.mp hp with rfl | hp
    · exact N _ e1
    · exact N _ (e2 p hp)
  · rcases List.mem_cons.mp hp with rfl | hp
    · exact h1
    · exact h2 p hp
  · have := strsAre_snoc (y := g n) (t := t) hus
    rw [List.take_add_one, hn]
    simpa using this
end
section
theorem ofS_app (a b : String) : Str.ofString (a ++ b) = Str.ofString a ++ Str.ofString b := by
  rw [Str.ofString_eq_toList, Str.ofString_eq_toList, Str.ofString_eq_toList]
  exact Str.ext' (by simp [Str.cps_append, String.toList_append])
theorem toS_neg {n : Int} (h : 0 < n) : tS (-n) = Str.ofString "-" ++ tS n := by
  obtain ⟨m, rfl⟩ : ∃ m : Nat, n = ((m + 1 : Nat) : Int) := ⟨n.toNat - 1, by omega⟩
  exact ofS_app "-" (toString (m + 1))
theorem val1 {r : Int} (h0 : 0 ≤ r) (h1 : r < 247) : Str.ofString "mate " ++ tS (r.fdiv 2 + r.fmod 2) = scoreT (32000 - r) := by
  unfold scoreT
  rw [Int.fdiv_eq_ediv_of_nonneg _ (by decide), Int.fmod_eq_emod_of_nonneg _ (by decide), Int.fdiv_eq_ediv_of_nonneg _ (by decide)]
  rw [if_neg (show ¬ (32000 - r < 0) by omega), if_pos (show (31754 : Int) ≤ 32000 - r by omega), if_pos (show (0 : Int) < 32000 - r by omega)]
  rw [show (32000 - (32000 - r) + 1) / 2 = r / 2 + r % 2 by omega]
theorem val2 {r : Int} (h0 : 0 ≤ r) (h1 : r < 247) (h : 0 < r.fdiv 2 + r.fmod 2) : Str.ofString "mate -" ++ tS (r.fdiv 2 + r.fmod 2) = scoreT (r - 32000) := by
  unfold scoreT
  rw [if_pos (show r - 32000 < 0 by omega), if_pos (show (31754 : Int) ≤ -(r - 32000) by omega), if_neg (show ¬ (0 : Int) < r - 32000 by omega)]
  have e : (32000 + (r - 32000) + 1).fdiv 2 = r.fdiv 2 + r.fmod 2 := by
    rw [Int.fdiv_eq_ediv_of_nonneg _ (by decide), Int.fmod_eq_emod_of_nonneg _ (by decide), Int.fdiv_eq_ediv_of_nonneg _ (by decide)]
    omega
  rw [e, toS_neg h, ← Str.append_assoc]
  congr 1
theorem val3 {r : Int} (h0 : 0 ≤ r) (h1 : r < 247) (h : ¬ 0 < r.fdiv 2 + r.fmod 2) : Str.ofString "mate " ++ tS (r.fdiv 2 + r.fmod 2) = scoreT (r - 32000) := by
  have e : r = 0 := by
    rw [Int.fdiv_eq_ediv_of_nonneg _ (by decide), Int.fmod_eq_emod_of_nonneg _ (by decide)] at h
    omega
  subst e
  decide +kernel
theorem val6 {r : Int} (h0 : 0 ≤ r) (h1 : r < 247) : Str.ofString "cp " ++ tS (r * 7 - 800) = scoreT (r * 7 - 800) := by
  unfold scoreT
  rw [if_neg]
  split <;> omega
theorem v_end {w : World} {own : List (Addr × Obj)} {h₀ h' : Heap} {L b c D1 D' : Addr} {m : Str → Option Value} {s : Shared} {Q : Value → Shared → Prop} {oc o' ob1 : Obj} {k v : Int} {told : Str} {t1 t2 tk' : Nat}
    (ret : ∀ D' v t1 t2 o' h' tk', Fr h₀ L h' m → News h₀ L h' ((D', { cls := Value.type "tuple", data := Data.seq #[.int v t1, .str (scoreT v) t2] }) :: (b, o') :: (c, oc) :: own) → Belt w b c o' oc (k + 2) → AllLt D' ((b, o') :: (c, oc) :: own) → -32000 ≤ v → v ≤ 32000 → Q (.ref D') { s with heap := h', toks := tk' })
    (N : News h₀ L h' ((D', { cls := Value.type "tuple", data := Data.seq #[.int v t1, .str told t2] }) :: (D1, ob1) :: (b, o') :: (c, oc) :: own)) (e : told = scoreT v) (F : Fr h₀ L h' m) (hb : Belt w b c o' oc (k + 1 + 1)) (l1 : D1 < D' ∧ b < D' ∧ c < D' ∧ AllLt D' own) (v1 : -32000 ≤ v) (v2 : v ≤ 32000) :
    Q (.ref D') { s with heap := h', toks := tk' } := by
  subst e
  rw [Int.add_assoc] at hb
  refine ret D' v t1 t2 o' h' tk' F (fun p hp => N p ?_) hb l1.2 v1 v2
  rcases List.mem_cons.mp hp with rfl | hp
  · exact .head _
  · exact .tail _ (.tail _ hp)
section
set_option maxHeartbeats 2000000
theorem value0 {w : World} {mean : ExcName → Option Value} {mg mb : Str → Option Value} {dp un : Nat} {gd : Option (List Code)} {cn : Str} {cs : Scope} {a : Addr} {ccd : Value} {cl : List (Str × Addr)} {outer : List Env} {A₀ : Around} {base h₀ : Heap} {L : Addr} {m : Str → Option Value} {own : List (Addr × Obj)} {s : Shared}
    {Q E : Value → Shared → Prop} {b c : Addr} {ob oc : Obj} {k : Int}
    (B : Below A₀ base outer h₀) (F : Fr h₀ L s.heap m) (X : (ktop.heap_1 w.params).In h₀) (N : News h₀ L s.heap ((b, ob) :: (c, oc) :: own))
    (T : Top vw (looseW vw loose) mean mg mb h₀) (hk : cs.kind = .function)
    (hoff : OwnOff own [b]) (hcb : c ≠ b) (hb : Belt w b c ob oc k) (hk1 : k ≤ 900)
    (hdp : dp + 10 < recursionLimit) (hun : un + 100 < cLine)
    (ret : ∀ D' v t1 t2 o' h' tk', Fr h₀ L h' m → News h₀ L h' ((D', { cls := Value.type "tuple", data := Data.seq #[.int v t1, .str (scoreT v) t2] }) :: (b, o') :: (c, oc) :: own) → Belt w b c o' oc (k + 2) → AllLt D' ((b, o') :: (c, oc) :: own) → -32000 ≤ v → v ≤ 32000 → Q (.ref D') { s with heap := h', toks := tk' }) :
    wpAny (model PySem.Challenge.rw_pf0096_01.row.prog w) (ktrTop dp un gd cn cs L a ccd cl outer) (call (.ref 306) [.ref b]) Q E s := by
  k_with_none
  k_with "room0" => ((try simp only [depth_under_make, depth_under_kw, depth_in1, depth_deeper, depth_caller]); (try dsimp only [ktrTop]); (first | exact lq0 (by with_reducible assumption) | exact lq1 (by with_reducible assumption) (by rfl) | exact lq2 (by with_reducible assumption) (by rfl) | exact lq3 (by with_reducible assumption) (by rfl) | exact lq4 (by with_reducible assumption) (by rfl) | exact lq5 (by with_reducible assumption) (by rfl) | exact lq6 (by with_reducible assumption) (by rfl) | omega))
  k_with "units0" => ((try simp only [units_in1, units_deeper, Around.mark_units, units_caller]); (try dsimp only [ktrTop]); (first | exact lq0 (by with_reducible assumption) | exact lq1 (by with_reducible assumption) (by rfl) | exact lq2 (by with_reducible assumption) (by rfl) | exact lq3 (by with_reducible assumption) (by rfl) | exact lq4 (by with_reducible assumption) (by rfl) | exact lq5 (by with_reducible assumption) (by rfl) | exact lq6 (by with_reducible assumption) (by rfl) | omega))
  k_with "all0" => (first | assumption | exact allLt_ne (by assumption) | exact allLt_ne (And.right (by assumption)) | exact allLt_ne (And.right (And.right (by assumption))) | exact allLt_ne (And.right (And.right (And.right (by assumption)))) | exact allLt_ne (And.right (And.right (And.right (And.right (by assumption))))) | exact allLt_ne (And.right (And.right (And.right (And.right (And.right (by assumption)))))) | exact allLt_ne (And.right (And.right (And.right (And.right (And.right (And.right (by assumption))))))) | exact allLt_ne (And.right (And.right (And.right (And.right (And.right (And.right (And.right (by assumption)))))))) | exact allLt_ne (And.right (And.right (And.right (And.right (And.right (And.right (And.right (And.right (by assumption))))))))) | exact allLt_ne (And.right (And.right (And.right (And.right (And.right (And.right (And.right (And.right (And.right (by assumption)))))))))) | exact allLt_ne (And.right (And.right (And.right (And.right (And.right (And.right (And.right (And.right (And.right (And.right (by assumption))))))))))) | exact allLt_ne (And.right (And.right (And.right (And.right (And.right (And.right (And.right (And.right (And.right (And.right (And.right (by assumption)))))))))))) | exact allLt_ne (And.right (And.right (And.right (And.right (And.right (And.right (And.right (And.right (And.right (And.right (And.right (And.right (by assumption))))))))))))) | exact allLt_ne (And.right (And.right (And.right (And.right (And.right (And.right (And.right (And.right (And.right (And.right (And.right (And.right (And.right (by assumption)))))))))))))) | exact allLt_ne (And.right (And.right (And.right (And.right (And.right (And.right (And.right (And.right (And.right (And.right (And.right (And.right (And.right (And.right (by assumption))))))))))))))) | exact allLt_ne (And.right (And.right (And.right (And.right (And.right (And.right (And.right (And.right (And.right (And.right (And.right (And.right (And.right (And.right (And.right (by assumption)))))))))))))))) | exact allLt_ne (And.right (And.right (And.right (And.right (And.right (And.right (And.right (And.right (And.right (And.right (And.right (And.right (And.right (And.right (And.right (And.right (by assumption))))))))))))))))) | exact allLt_ne (And.right (And.right (And.right (And.right (And.right (And.right (And.right (And.right (And.right (And.right (And.right (And.right (And.right (And.right (And.right (And.right (And.right (by assumption)))))))))))))))))) | exact ltAll_ne (by assumption))
  k_with "cj" => (first | with_reducible exact And.left | (with_reducible refine cjR ?_; k_extra "cj"))
  k_with "ne0" => ((refine neN ?_; (try dsimp only); first | with_reducible assumption | exact Ne.symm (by with_reducible assumption) | exact Nat.ne_of_lt (by with_reducible assumption) | exact Nat.ne_of_gt (by with_reducible assumption) | exact neL (by with_reducible assumption) (by k_extra "cj") | exact neG (by with_reducible assumption) (by k_extra "cj") | exact neLT (by with_reducible assumption) (by with_reducible assumption) (by k_extra "cj") | exact neGT (by with_reducible assumption) (by with_reducible assumption) (by k_extra "cj")))
  k_with "steps0" => (repeat' (first | (k_unfold; (try dsimp only)) | (k_end; wrow_close) | (walk1; all_goals (try dsimp only)) | (dsimp only; walk1; all_goals (try dsimp only)) | (leave1; walk_say "STEP leave1"; try dsimp only) | fail "no step"))
  k_with "call ref" => ((k_here; (with_reducible show wpAny _ _ (call (Value.ref 299) _) _ _ _); k_dflt (refine' pickU ?B ?F ?X ?N ?T ?hk ?U ?be ?mc ?kb ?n0 ?n1 ?dp ?un ?_; (case B => k_asm); (case F => k_asm); (case X => k_asm); (case N => k_asm); (case T => k_asm); (case hk => first | exact rfl | assumption); (case U => k_updF); (case be => assumption); (case mc => k_mem); (case kb => omega); (case n0 => first | decide | omega); (case n1 => first | decide | omega); (case dp => k_room); (case un => k_units)); intro r'z t'z h'z tk'z o'z F'z N'z be'z lo'z hi'z; (try dsimp only at N'z); (try k_sweep)))
  revert X; k_fill; intro X
  refine wpAny_call ?_
  k_dflt ktr_enter
  k_steps
  all_goals refine v_end ret (by assumption) ?_ (by assumption) (by assumption) (by assumption) (by omega) (by omega)
  · exact val1 (by assumption) (by assumption)
  · exact val2 (by assumption) (by assumption) (by assumption)
  · exact val3 (by assumption) (by assumption) (by assumption)
  · decide +kernel
  · decide +kernel
  · exact val6 (by assumption) (by assumption)
end
end
section
noncomputable def repHead (depth v nodes : Int) : List Str := [Str.ofString "info", Str.ofString "depth", tS depth, Str.ofString "score", scoreT v, Str.ofString "nodes", tS nodes]
noncomputable def repWords (f depth v nodes : Int) (ms : List Int) : List Str := repHead depth v nodes ++ (if ms = [] then [] else Str.ofString "pv" :: ms.map (moveT f))
theorem repHead_len {depth v nodes : Int} (v1 : -32000 ≤ v) (v2 : v ≤ 32000) (d1 : 0 ≤ depth) (d2 : depth < 1000000000) (n1 : 0 ≤ nodes) (n2 : nodes < 1000000000) : ∀ y ∈ repHead depth v nodes, y.length ≤ 40 := by
  have a1 := tS_len (a := depth) (by omega)
  have a2 := tS_len (a := nodes) (by omega)
  have a3 := scoreT_len v1 v2
  intro y hy
  simp only [repHead, List.mem_cons, List.not_mem_nil, or_false] at hy
  rcases hy with rfl | rfl | rfl | rfl | rfl | rfl | rfl
  · decide +kernel
  · decide +kernel
  · omega
  · decide +kernel
  · omega
  · decide +kernel
  · omega
theorem repWords_len {f depth v nodes : Int} {ms : List Int} (v1 : -32000 ≤ v) (v2 : v ≤ 32000) (d1 : 0 ≤ depth) (d2 : depth < 1000000000) (n1 : 0 ≤ nodes) (n2 : nodes < 1000000000) : ∀ y ∈ repWords f depth v nodes ms, y.length ≤ 40 := by
  intro y hy
  unfold repWords at hy
  rcases List.mem_append.mp hy with hy | hy
  · exact repHead_len v1 v2 d1 d2 n1 n2 y hy
  · split at hy
    · exact nomatch hy
    · rcases List.mem_cons.mp hy with rfl | hy
      · decide +kernel
      · obtain ⟨a, _, rfl⟩ := List.mem_map.mp hy
        have := moveT_len f a
        omega
section
variable {prog : Program} {w : World} {A : Around} {E : Value → Shared → Prop} {s : Shared} {h₀ : Heap} {L l : Addr} {news : List (Addr × Obj)} {vs : List Value} {ms : List Int} {k : Nat}
theorem truthy_li {Q : Bool → Shared → Prop} {b : Bool} (N : News h₀ L s.heap news) (hm : (l, W.listOf vs.toArray k) ∈ news) (hi : IntsAre vs ms) (hlen : ms.length ≤ 1000) (hb : (!ms.isEmpty) = b) (h : ∀ tk, Q b { s with toks := tk }) :
    wpAny (model prog w) A (truthy (.ref l)) Q E s := by
  have e : (!vs.toArray.isEmpty) = b := by
    rw [← hb]
    cases hi <;> rfl
  refine wpAny_truthy_list ⟨_, (N _ hm).1, rfl, _, rfl⟩ (by rw [List.size_toArray, hi.length]; omega) ?_
  rw [e]; exact h _
end
section
set_option maxHeartbeats 2000000
theorem report0 {w : World} {mean : ExcName → Option Value} {mg mb : Str → Option Value} {dp un : Nat} {gd : Option (List Code)} {cn : Str} {cs : Scope} {a : Addr} {ccd : Value} {cl : List (Str × Addr)} {outer : List Env} {A₀ : Around} {base h₀ : Heap} {L : Addr} {m : Str → Option Value} {news : List (Addr × Obj)} {s : Shared} {Q E : Value → Shared → Prop} {f v depth nodes : Int} {gx gdx rx rdx l : Addr} {es res : List DictEntry} {vs : List Value} {ms : List Int} {n rn k : Nat} {tf t1 t2 t3 : Nat}
    (B : Below A₀ base outer h₀) (F : Fr h₀ L s.heap m) (X : (ktop.heap_1 w.params).In h₀) (N : News h₀ L s.heap news) (T : Top vw (looseW vw loose) mean mg mb h₀) (hk : cs.kind = .function) (h1 : 3 ≤ f) (h2 : f ≤ 8) (hg : (gx, instObj 225 gdx) ∈ news) (hgd : (gdx, dictOf es n) ∈ news) (hfl : getL (Str.ofString "files") es = some (some (.int f tf)))
    (hr : (rx, instObj 160 rdx) ∈ news) (hrd : (rdx, dictOf res rn) ∈ news) (hl : (l, W.listOf vs.toArray k) ∈ news)
    (r1 : getL (Str.ofString "depth") res = some (some (.int depth t1))) (r2 : getL (Str.ofString "value") res = some (some (.int v t2))) (r3 : getL (Str.ofString "line") res = some (some (.ref l))) (r4 : getL (Str.ofString "nodes") res = some (some (.int nodes t3)))
    (hi : IntsAre vs ms) (hlen : ms.length ≤ 4) (hm : ∀ x ∈ ms, MoveOk f x) (v1 : -32000 ≤ v) (v2 : v ≤ 32000) (d1 : 0 ≤ depth) (d2 : depth < 1000000000) (n1 : 0 ≤ nodes) (n2 : nodes < 1000000000) (hdp : dp + 10 < recursionLimit) (hun : un + 100 < cLine)
    (ret : ∀ t' h' tk', Fr h₀ L h' m → News h₀ L h' news → Q (.str (Txt.join (Str.ofString " ") (repWords f depth v nodes ms)) t') { s with heap := h', toks := tk' }) :
    wpAny (model PySem.Challenge.rw_pf0096_01.row.prog w) (ktrTop dp un gd cn cs L a ccd cl outer) (call (.ref 171) [.ref gx, .ref rx]) Q E s := by
  k_with_none
  k_with "room0" => ((try simp only [depth_under_make, depth_under_kw, depth_in1, depth_deeper, depth_caller]); (try dsimp only [ktrTop]); (first | exact lq0 (by with_reducible assumption) | exact lq1 (by with_reducible assumption) (by rfl) | exact lq2 (by with_reducible assumption) (by rfl) | exact lq3 (by with_reducible assumption) (by rfl) | exact lq4 (by with_reducible assumption) (by rfl) | exact lq5 (by with_reducible assumption) (by rfl) | exact lq6 (by with_reducible assumption) (by rfl) | omega))
  k_with "units0" => ((try simp only [units_in1, units_deeper, Around.mark_units, units_caller]); (try dsimp only [ktrTop]); (first | exact lq0 (by with_reducible assumption) | exact lq1 (by with_reducible assumption) (by rfl) | exact lq2 (by with_reducible assumption) (by rfl) | exact lq3 (by with_reducible assumption) (by rfl) | exact lq4 (by with_reducible assumption) (by rfl) | exact lq5 (by with_reducible assumption) (by rfl) | exact lq6 (by with_reducible assumption) (by rfl) | omega))
  k_with "all0" => (first | assumption | exact allLt_ne (by assumption) | exact allLt_ne (And.right (by assumption)) | exact allLt_ne (And.right (And.right (by assumption))) | exact allLt_ne (And.right (And.right (And.right (by assumption)))) | exact allLt_ne (And.right (And.right (And.right (And.right (by assumption))))) | exact allLt_ne (And.right (And.right (And.right (And.right (And.right (by assumption)))))) | exact allLt_ne (And.right (And.right (And.right (And.right (And.right (And.right (by assumption))))))) | exact allLt_ne (And.right (And.right (And.right (And.right (And.right (And.right (And.right (by assumption)))))))) | exact allLt_ne (And.right (And.right (And.right (And.right (And.right (And.right (And.right (And.right (by assumption))))))))) | exact allLt_ne (And.right (And.right (And.right (And.right (And.right (And.right (And.right (And.right (And.right (by assumption)))))))))) | exact allLt_ne (And.right (And.right (And.right (And.right (And.right (And.right (And.right (And.right (And.right (And.right (by assumption))))))))))) | exact allLt_ne (And.right (And.right (And.right (And.right (And.right (And.right (And.right (And.right (And.right (And.right (And.right (by assumption)))))))))))) | exact allLt_ne (And.right (And.right (And.right (And.right (And.right (And.right (And.right (And.right (And.right (And.right (And.right (And.right (by assumption))))))))))))) | exact allLt_ne (And.right (And.right (And.right (And.right (And.right (And.right (And.right (And.right (And.right (And.right (And.right (And.right (And.right (by assumption)))))))))))))) | exact allLt_ne (And.right (And.right (And.right (And.right (And.right (And.right (And.right (And.right (And.right (And.right (And.right (And.right (And.right (And.right (by assumption))))))))))))))) | exact allLt_ne (And.right (And.right (And.right (And.right (And.right (And.right (And.right (And.right (And.right (And.right (And.right (And.right (And.right (And.right (And.right (by assumption)))))))))))))))) | exact allLt_ne (And.right (And.right (And.right (And.right (And.right (And.right (And.right (And.right (And.right (And.right (And.right (And.right (And.right (And.right (And.right (And.right (by assumption))))))))))))))))) | exact allLt_ne (And.right (And.right (And.right (And.right (And.right (And.right (And.right (And.right (And.right (And.right (And.right (And.right (And.right (And.right (And.right (And.right (And.right (by assumption)))))))))))))))))) | exact ltAll_ne (by assumption))
  k_with "cj" => (first | with_reducible exact And.left | (with_reducible refine cjR ?_; k_extra "cj"))
  k_with "ne0" => ((refine neN ?_; (try dsimp only); first | with_reducible assumption | exact Ne.symm (by with_reducible assumption) | exact Nat.ne_of_lt (by with_reducible assumption) | exact Nat.ne_of_gt (by with_reducible assumption) | exact neL (by with_reducible assumption) (by k_extra "cj") | exact neG (by with_reducible assumption) (by k_extra "cj") | exact neLT (by with_reducible assumption) (by with_reducible assumption) (by k_extra "cj") | exact neGT (by with_reducible assumption) (by with_reducible assumption) (by k_extra "cj")))
  k_with "steps0" => (repeat' (first | (k_unfold; (try dsimp only)) | (k_end; wrow_close) | (walk1; all_goals (try dsimp only)) | (dsimp only; walk1; all_goals (try dsimp only)) | (leave1; walk_say "STEP leave1"; try dsimp only) | fail "no step"))
  k_with "truthy ref" => ((k_here; k_dflt (refine' truthy_li ?N ?m ?i ?l ?b ?_; (case N => k_asm); (case m => k_mem); (case i => assumption); (case l => omega); (case b => rfl)); intro _))
  k_with "call ref" => ((k_here; (with_reducible show wpAny _ _ (call (Value.ref 35) _) _ _ _); k_dflt (refine' score0 ?B ?F ?X ?N ?T ?hk ?p0 ?p1 ?dp ?un ?_; (case B => k_asm); (case F => k_asm); (case X => k_asm); (case N => k_asm); (case T => k_asm); (case hk => first | exact rfl | assumption); (case p0 => omega); (case p1 => omega); (case dp => k_room); (case un => k_units)); intro t'z h'z tk'z F'z N'z; (try k_sweep)))
  k_with "call ref" => ((k_here; (with_reducible show wpAny _ _ (call (Value.ref 143) _) _ _ _); k_dflt (refine' move0 ?B ?F ?X ?N ?T ?hk ?p1 ?p2 ?p3 ?p4 ?p5 ?p6 ?p7 ?p8 ?p9 ?dp ?un ?_; (case B => k_asm); (case F => k_asm); (case X => k_asm); (case N => k_asm); (case T => k_asm); (case hk => first | exact rfl | assumption); (case p1 => assumption); (case p2 => assumption); (case p3 => k_mem); (case p4 => k_mem); (case p5 => assumption); (case p6 => assumption); (case p7 => assumption); (case p8 => assumption); (case p9 => assumption); (case dp => k_room); (case un => k_units)); intro t'z h'z tk'z F'z N'z; (try k_sweep)))
  k_with "getAttr ref" => ((k_here; k_dflt (refine' get_own ?k1 ?k2 ?k3 ?k4 ?k5 ?k6 ?k7 ?k8 ?k9 ?_; (case k1 => k_asm); (case k2 => k_asm); (case k3 => k_inst); (case k4 => k_is); (case k5 => k_is); (case k6 => k_is); (case k7 => k_is); (case k8 => assumption); (case k9 => first | rfl | k_handed); k_whole)))
  k_with "pyIter ref" => (refine Stop.mk' ?_)
  k_with "close8" => ((k_dflt (refine' words_end ?F ?N ?hn ?h1 ?h2 ?e0 ?e1 ?e2 ?hus ?hm; (case F => k_asm); (case N => k_asm); (case hn => assumption); (case h1 => assumption); (case h2 => assumption); (case e0 => k_mem); (case e1 => k_mem); (case e2 => intro pz hpz; k_ownIn); (case hus => assumption); (case hm => intro zz hzz; exact if_neg hzz))))
  rcases ms with _ | ⟨x₀, ms⟩
  · revert X; k_fill; intro X
    refine wpAny_call ?_
    k_dflt ktr_enter
    k_steps
    k_dflt (refine' join_w (ys := repHead depth v nodes) ?N ?m ?i (repHead_len v1 v2 d1 d2 n1 n2) (Nat.le_of_ble_eq_true rfl) ?_; (case N => k_asm); (case m => k_mem); (case i => kct_strs))
    intro t' tk'
    k_steps
    refine cb_retS ret ?_ (by assumption) (fun p hp => (show News _ _ _ (_ :: _) from by assumption) p (.tail _ hp))
    show _ = Txt.join _ (repHead depth v nodes ++ [])
    rw [List.append_nil]
  · revert X; k_fill; intro X
    refine wpAny_call ?_
    k_dflt ktr_enter
    k_steps
    · exact absurd (by assumption) (by simp)
    unfold Stop
    k_dflt (refine' words_loop (base := repHead depth v nodes ++ [Str.ofString "pv"]) (moveT f) ?hh hi ?F ?N ?l ?s (by omega) (Nat.le_of_ble_eq_true rfl) ?turn ?done)
    (case hh => exact rfl)
    (case F => k_asm)
    (case N => k_asm)
    (case l => k_mem)
    (case s => kct_strs)
    (case turn =>
      intro i' n' t' us' k' h' tk' I' oI' hn' hI' hoI' hul' hus' F' N'
      obtain ⟨q1, q2, q3, q4⟩ := hm n' (List.mem_of_getElem? hn')
      (try (dsimp only at F' N'))
      (try dsimp only)
      (try k_fold)
      k_steps
      walk_at "close8"
      )
    (case done =>
      intro m' us' k' h' tk' hus' F' N'
      (try (dsimp only at F' N'))
      (try dsimp only)
      (try k_fold)
      k_steps
      k_dflt (refine' join_w (ys := repWords f depth v nodes (x₀ :: ms)) ?N ?m ?i (repWords_len v1 v2 d1 d2 n1 n2) ?le ?_; (case N => k_asm); (case m => k_mem); (case i => rw [repWords, if_neg (List.cons_ne_nil _ _)]; simpa using hus'); (case le => rw [repWords, if_neg (List.cons_ne_nil _ _), List.length_append, List.length_cons, List.length_map]; exact Nat.add_le_add (Nat.le_of_ble_eq_true rfl : 7 ≤ 35) (Nat.succ_le_succ hlen)))
      intro t' tk'
      k_steps
      refine cb_retS ret rfl (by assumption) (fun p hp => (show News _ _ _ (_ :: _) from by assumption) p (.tail _ hp)))
end
end
section
noncomputable def fieldT (sp pr : Int) : Int := if sp = 1 then pr - 2 else 0
noncomputable def packT (o g sp pr : Int) : Int := Builtin.bitOr (Builtin.bitOr (Builtin.bitOr g (o * 2 ^ Int.toNat 6)) (fieldT sp pr * 2 ^ Int.toNat 12)) (sp * 2 ^ Int.toNat 14)
section
set_option maxHeartbeats 2000000
theorem pack0 {w : World} {mean : ExcName → Option Value} {mg mb : Str → Option Value} {dp un : Nat} {gd : Option (List Code)} {cn : Str} {cs : Scope} {a : Addr} {ccd : Value} {cl : List (Str × Addr)} {outer : List Env} {A₀ : Around} {base h₀ : Heap} {L : Addr} {m : Str → Option Value} {news : List (Addr × Obj)} {s : Shared} {Q E : Value → Shared → Prop} {o g sp pr : Int} {t1 t2 t3 t4 : Nat}
    (B : Below A₀ base outer h₀) (F : Fr h₀ L s.heap m) (X : (ktop.heap_1 w.params).In h₀) (N : News h₀ L s.heap news) (T : Top vw (looseW vw loose) mean mg mb h₀) (hk : cs.kind = .function) (h1 : 0 ≤ o) (h2 : o < 32) (h3 : 0 ≤ g) (h4 : g < 32) (h5 : 0 ≤ sp) (h6 : sp ≤ 1) (h7 : 0 ≤ pr) (h8 : pr < 8) (hdp : dp + 3 < recursionLimit) (hun : un + 30 < cLine)
    (ret : ∀ t' h' tk', Fr h₀ L h' m → News h₀ L h' news → Q (.int (packT o g sp pr) t') { s with heap := h', toks := tk' }) :
    wpAny (model PySem.Challenge.rw_pf0096_01.row.prog w) (ktrTop dp un gd cn cs L a ccd cl outer) (call (.ref 42) [.int o t1, .int g t2, .int sp t3, .int pr t4]) Q E s := by
  k_with_none
  k_with "room0" => ((try simp only [depth_under_make, depth_under_kw, depth_in1, depth_deeper, depth_caller]); (try dsimp only [ktrTop]); (first | exact lq0 (by with_reducible assumption) | exact lq1 (by with_reducible assumption) (by rfl) | exact lq2 (by with_reducible assumption) (by rfl) | exact lq3 (by with_reducible assumption) (by rfl) | exact lq4 (by with_reducible assumption) (by rfl) | exact lq5 (by with_reducible assumption) (by rfl) | exact lq6 (by with_reducible assumption) (by rfl) | omega))
  k_with "units0" => ((try simp only [units_in1, units_deeper, Around.mark_units, units_caller]); (try dsimp only [ktrTop]); (first | exact lq0 (by with_reducible assumption) | exact lq1 (by with_reducible assumption) (by rfl) | exact lq2 (by with_reducible assumption) (by rfl) | exact lq3 (by with_reducible assumption) (by rfl) | exact lq4 (by with_reducible assumption) (by rfl) | exact lq5 (by with_reducible assumption) (by rfl) | exact lq6 (by with_reducible assumption) (by rfl) | omega))
  k_with "all0" => (first | assumption | exact allLt_ne (by assumption) | exact allLt_ne (And.right (by assumption)) | exact allLt_ne (And.right (And.right (by assumption))) | exact allLt_ne (And.right (And.right (And.right (by assumption)))) | exact allLt_ne (And.right (And.right (And.right (And.right (by assumption))))) | exact allLt_ne (And.right (And.right (And.right (And.right (And.right (by assumption)))))) | exact allLt_ne (And.right (And.right (And.right (And.right (And.right (And.right (by assumption))))))) | exact allLt_ne (And.right (And.right (And.right (And.right (And.right (And.right (And.right (by assumption)))))))) | exact allLt_ne (And.right (And.right (And.right (And.right (And.right (And.right (And.right (And.right (by assumption))))))))) | exact allLt_ne (And.right (And.right (And.right (And.right (And.right (And.right (And.right (And.right (And.right (by assumption)))))))))) | exact allLt_ne (And.right (And.right (And.right (And.right (And.right (And.right (And.right (And.right (And.right (And.right (by assumption))))))))))) | exact allLt_ne (And.right (And.right (And.right (And.right (And.right (And.right (And.right (And.right (And.right (And.right (And.right (by assumption)))))))))))) | exact allLt_ne (And.right (And.right (And.right (And.right (And.right (And.right (And.right (And.right (And.right (And.right (And.right (And.right (by assumption))))))))))))) | exact allLt_ne (And.right (And.right (And.right (And.right (And.right (And.right (And.right (And.right (And.right (And.right (And.right (And.right (And.right (by assumption)))))))))))))) | exact allLt_ne (And.right (And.right (And.right (And.right (And.right (And.right (And.right (And.right (And.right (And.right (And.right (And.right (And.right (And.right (by assumption))))))))))))))) | exact allLt_ne (And.right (And.right (And.right (And.right (And.right (And.right (And.right (And.right (And.right (And.right (And.right (And.right (And.right (And.right (And.right (by assumption)))))))))))))))) | exact allLt_ne (And.right (And.right (And.right (And.right (And.right (And.right (And.right (And.right (And.right (And.right (And.right (And.right (And.right (And.right (And.right (And.right (by assumption))))))))))))))))) | exact allLt_ne (And.right (And.right (And.right (And.right (And.right (And.right (And.right (And.right (And.right (And.right (And.right (And.right (And.right (And.right (And.right (And.right (And.right (by assumption)))))))))))))))))) | exact ltAll_ne (by assumption))
  k_with "cj" => (first | with_reducible exact And.left | (with_reducible refine cjR ?_; k_extra "cj"))
  k_with "ne0" => ((refine neN ?_; (try dsimp only); first | with_reducible assumption | exact Ne.symm (by with_reducible assumption) | exact Nat.ne_of_lt (by with_reducible assumption) | exact Nat.ne_of_gt (by with_reducible assumption) | exact neL (by with_reducible assumption) (by k_extra "cj") | exact neG (by with_reducible assumption) (by k_extra "cj") | exact neLT (by with_reducible assumption) (by with_reducible assumption) (by k_extra "cj") | exact neGT (by with_reducible assumption) (by with_reducible assumption) (by k_extra "cj")))
  k_with "steps0" => (repeat' (first | (k_unfold; (try dsimp only)) | (k_end; wrow_close) | (walk1; all_goals (try dsimp only)) | (dsimp only; walk1; all_goals (try dsimp only)) | (leave1; walk_say "STEP leave1"; try dsimp only) | fail "no step"))
  revert X; k_fill; intro X
  refine wpAny_call ?_
  k_dflt ktr_enter
  k_steps
  all_goals (
    refine cb_retI ret ?_ (by assumption) (by assumption)
    unfold packT fieldT
    simp only [*, if_true, if_false])
end
end
section
theorem pin {m : Str → Option Value} {x : Str} {v : Option Value} (h : m x = v) (y : Str) : (if y = x then v else m y) = m y := by
  split
  · rename_i e; rw [e, h]
  · rfl
def JN (w : World) (b c mv wd : Addr) (oc : Obj) (own : List (Addr × Obj)) (f k : Int) (tf : Tok) (i : Nat) (m : Str → Option Value) (nx : List (Addr × Obj)) : Prop :=
  ∃ (ob : Obj) (k' : Int) (vs us : List Value) (ms : List Int) (km ku : Nat), nx = (mv, W.listOf vs.toArray km) :: (wd, W.listOf us.toArray ku) :: (b, ob) :: (c, oc) :: own ∧
    m (Str.ofString "moves") = some (.ref mv) ∧ m (Str.ofString "words") = some (.ref wd) ∧ m (Str.ofString "belt") = some (.ref b) ∧ m (Str.ofString "files") = some (.int f tf) ∧
    Belt w b c ob oc k' ∧ k' ≤ k + 3 * i ∧ IntsAre vs ms ∧ StrsAre us (ms.map (moveT f)) ∧ ms.length = i ∧ ∀ x ∈ ms, MoveOk f x
theorem line_loop {prog : Program} {w : World} {A : Around} {E : Value → Shared → Prop} {s : Shared} {env : Env} {h₀ : Heap} {body : List Stmt} {Q : Flow → Shared → Prop}
    {r b c mv wd : Addr} {t₀ u₀ v₀ tf : Tok} {ob oc : Obj} {f k z : Int} {m₀ : Str → Option Value} {own news : List (Addr × Obj)} {km ku : Nat}
    (hh : A.handled = none) (hr : IsRange s.heap r 0 z 1 t₀ u₀ v₀) (z0 : 0 ≤ z) (z1 : z < 5) (F : Fr h₀ env.locals s.heap m₀) (N : News h₀ env.locals s.heap news)
    (e1 : (mv, W.listOf #[] km) ∈ news) (e2 : (wd, W.listOf #[] ku) ∈ news) (e3 : (b, ob) ∈ news) (e4 : (c, oc) ∈ news) (e5 : ∀ p ∈ own, p ∈ news)
    (h1 : m₀ (Str.ofString "moves") = some (.ref mv)) (h2 : m₀ (Str.ofString "words") = some (.ref wd)) (h3 : m₀ (Str.ofString "belt") = some (.ref b)) (h4 : m₀ (Str.ofString "files") = some (.int f tf))
    (be : Belt w b c ob oc k)
    (turn : ∀ (i : Nat) (t : Tok) (u : Str → Option Value) (h : Heap) (tk : Nat) (I : Addr) (oI ob : Obj) (k' : Int) (vs us : List Value) (ms : List Int) (km ku : Nat), i < 4 → @Ne Nat mv I → @Ne Nat wd I → @Ne Nat b I → @Ne Nat c I → (∀ p ∈ own, p.1 ≠ I) →
      Belt w b c ob oc k' → k' ≤ k + 3 * i → IntsAre vs ms → StrsAre us (ms.map (moveT f)) → ms.length = i → vs.length < 10 → us.length < 10 → (∀ x ∈ ms, MoveOk f x) →
      Fr h₀ env.locals h (fun y => if y = Str.ofString "turn" then some (.int (0 + (i : Int)) t) else if y = Str.ofString "moves" then some (.ref mv) else if y = Str.ofString "words" then some (.ref wd) else if y = Str.ofString "belt" then some (.ref b) else if y = Str.ofString "files" then some (.int f tf) else u y) →
      News h₀ env.locals h ((I, oI) :: (mv, W.listOf vs.toArray km) :: (wd, W.listOf us.toArray ku) :: (b, ob) :: (c, oc) :: own) →
      wpAny (model prog w) A (execs body env) (PostJ h₀ env.locals (JN w b c mv wd oc own f k tf (i + 1)) I oI { s with heap := h, toks := tk } Q) E { s with heap := h, toks := tk })
    (done : ∀ (u : Str → Option Value) h tk ob k' vs us ms km ku, Belt w b c ob oc k' → k' ≤ k + 12 → IntsAre vs ms → StrsAre us (ms.map (moveT f)) → ms.length ≤ 4 → (∀ x ∈ ms, MoveOk f x) →
      Fr h₀ env.locals h (fun y => if y = Str.ofString "moves" then some (.ref mv) else if y = Str.ofString "words" then some (.ref wd) else if y = Str.ofString "belt" then some (.ref b) else if y = Str.ofString "files" then some (.int f tf) else u y) →
      News h₀ env.locals h ((mv, W.listOf vs.toArray km) :: (wd, W.listOf us.toArray ku) :: (b, ob) :: (c, oc) :: own) → Q .next { s with heap := h, toks := tk }) :
    wpAny (model prog w) A (pyIter (.ref r)) (fun it s₂ => LoopAtV prog w A h₀ env (Str.ofString "turn") body Q E it s₂) E s := by
  obtain ⟨n, rfl⟩ := Int.eq_ofNat_of_zero_le z0
  refine iter_rangeJ (n := n) (nx₀ := (mv, W.listOf #[] km) :: (wd, W.listOf #[] ku) :: (b, ob) :: (c, oc) :: own) (JN w b c mv wd oc own f k tf) hh hr (small_one (by decide) (by decide) (by omega) (by omega)) (by rw [rangeSize_nat]; omega) F N ?_ ⟨ob, k, [], [], [], km, ku, rfl, h1, h2, h3, h4, be, by omega, .nil, .nil, rfl, fun _ h => nomatch h⟩ ?_ ?_
  · intro p hp
    simp only [List.mem_cons] at hp
    rcases hp with rfl | rfl | rfl | rfl | hp
    · exact e1
    · exact e2
    · exact e3
    · exact e4
    · exact e5 p hp
  · rintro i t m₁ nx h tk I oI hi ho ⟨ob', k', vs, us, ms, km, ku, rfl, g1, g2, g3, g4, be', a1, a2, a3, a4, a5⟩ F₁ N₁
    refine turn i t m₁ h tk I oI ob' k' vs us ms km ku (by omega) (ho _ (.head _)) (ho _ (.tail _ (.head _))) (ho _ (.tail _ (.tail _ (.head _)))) (ho _ (.tail _ (.tail _ (.tail _ (.head _))))) (fun p hp => ho p (.tail _ (.tail _ (.tail _ (.tail _ hp))))) be' a1 a2 a3 a4 (by rw [a2.length]; omega) (by rw [strsAre_len a3, List.length_map]; omega) a5 ?_ N₁
    simp only [pin g4, pin g3, pin g2, pin g1]
    exact F₁
  · rintro m₁ nx h tk ⟨ob', k', vs, us, ms, km, ku, rfl, g1, g2, g3, g4, be', a1, a2, a3, a4, a5⟩ F₁ N₁
    refine done m₁ h tk ob' k' vs us ms km ku be' (by omega) a2 a3 (by omega) a5 ?_ N₁
    simp only [pin g4, pin g3, pin g2, pin g1]
    exact F₁
theorem intsAre_snoc {y : Int} {t : Tok} : ∀ {us : List Value} {ys : List Int}, IntsAre us ys → IntsAre (us ++ [.int y t]) (ys ++ [y])
  | _, _, .nil => .cons _ _ .nil
  | _, _, .cons a b h => .cons a b (intsAre_snoc h)
theorem line_end {w : World} {h₀ h' : Heap} {L b c mv wd I : Addr} {m' : Str → Option Value} {oc ob oI : Obj} {own big : List (Addr × Obj)} {f k k' y : Int} {tf t1 t2 : Tok} {i tk km ku : Nat} {vs us : List Value} {ms : List Int} {yt : Str} {s₁ : Shared} {Q : Flow → Shared → Prop} {fl : Flow}
    (F : Fr h₀ L h' m') (N : News h₀ L h' big) (hn1 : @Ne Nat mv I) (hn2 : @Ne Nat wd I) (hn3 : @Ne Nat b I) (hn4 : @Ne Nat c I) (hoI : ∀ p ∈ own, p.1 ≠ I)
    (e0 : (I, oI) ∈ big) (e1 : (mv, W.listOf (vs.toArray.push (.int y t1)) km) ∈ big) (e2 : (wd, W.listOf (us.toArray.push (.str yt t2)) ku) ∈ big) (e3 : (b, ob) ∈ big) (e4 : (c, oc) ∈ big) (e5 : ∀ p ∈ own, p ∈ big)
    (h1 : m' (Str.ofString "moves") = some (.ref mv)) (h2 : m' (Str.ofString "words") = some (.ref wd)) (h3 : m' (Str.ofString "belt") = some (.ref b)) (h4 : m' (Str.ofString "files") = some (.int f tf))
    (be : Belt w b c ob oc k') (a1 : k' ≤ k + 3 * ((i + 1 : Nat) : Int)) (a2 : IntsAre vs ms) (a3 : StrsAre us (ms.map (moveT f))) (a4 : ms.length = i) (a5 : ∀ x ∈ ms, MoveOk f x) (hfl : fl = .next ∨ fl = .cont) (ok : yt = moveT f y ∧ MoveOk f y) :
    PostJ h₀ L (JN w b c mv wd oc own f k tf (i + 1)) I oI s₁ Q fl { s₁ with heap := h', toks := tk } := by
  obtain ⟨rfl, ok⟩ := ok
  rw [List.push_toArray] at e1 e2
  have key : ∃ h'' tk' m'' nx, ({ s₁ with heap := h', toks := tk } : Shared) = { s₁ with heap := h'', toks := tk' } ∧ Fr h₀ L h'' m'' ∧ News h₀ L h'' ((I, oI) :: nx) ∧ (∀ p ∈ nx, p.1 ≠ I) ∧ JN w b c mv wd oc own f k tf (i + 1) m'' nx := by
    refine ⟨h', tk, m', _, rfl, F, ?_, ?_, ob, k', vs ++ [.int y t1], us ++ [.str (moveT f y) t2], ms ++ [y], km, ku, rfl, h1, h2, h3, h4, be, a1, intsAre_snoc a2, ?_, by rw [List.length_append, a4]; rfl, ?_⟩
    · intro p hp
      simp only [List.mem_cons] at hp
      rcases hp with rfl | rfl | rfl | rfl | rfl | hp
      · exact N _ e0
      · exact N _ e1
      · exact N _ e2
      · exact N _ e3
      · exact N _ e4
      · exact N _ (e5 p hp)
    · intro p hp
      simp only [List.mem_cons] at hp
      rcases hp with rfl | rfl | rfl | rfl | hp
      · exact hn1
      · exact hn2
      · exact hn3
      · exact hn4
      · exact hoI p hp
    · rw [List.map_append]
      exact strsAre_snoc a3
    · intro x hx
      rcases List.mem_append.mp hx with hx | hx
      · exact a5 x hx
      · rw [List.mem_singleton.mp hx]; exact ok
  rcases hfl with rfl | rfl
  · exact key
  · exact key
end
section
noncomputable def stepT (f : Int) (T : Str) (q : Int) : Str := T ++ Txt.item (Str.ofString "abcdefgh") (q.fmod f) ++ Txt.item (Str.ofString "1234") (q.fdiv f)
theorem stepT_len (f : Int) (T : Str) (q : Int) : (stepT f T q).length = T.length + 2 := by
  unfold stepT
  rw [Str.length_append, Str.length_append, item_len, item_len]
theorem steps_len (f o g : Int) : (stepT f (stepT f (Str.ofString "") o) g).length = 4 := by
  rw [stepT_len, stepT_len]; decide +kernel
theorem steps_le (f o g : Int) : (stepT f (stepT f (Str.ofString "") o) g).length ≤ 4 := Nat.le_of_eq (steps_len f o g)
theorem sqT_le (f q : Int) : (sqT f q).length ≤ 2 := Nat.le_of_eq (sqT_len f q)
theorem item_le (x : Str) (i : Int) : (Txt.item x i).length ≤ 1 := Nat.le_of_eq (item_len x i)
def JT (m₀ : Str → Option Value) (news : List (Addr × Obj)) (T : Str) (m : Str → Option Value) (nx : List (Addr × Obj)) : Prop :=
  nx = news ∧ ∃ t, m (Str.ofString "text") = some (.str T t) ∧ ∀ y, y ≠ Str.ofString "text" → y ≠ Str.ofString "square" → m y = m₀ y
theorem text_loop {prog : Program} {w : World} {A : Around} {E : Value → Shared → Prop} {s : Shared} {env : Env} {h₀ : Heap} {body : List Stmt} {Q : Flow → Shared → Prop}
    {l : Addr} {f o g : Int} {t1 t2 t3 t4 : Tok} {n : Nat} {m₀ : Str → Option Value} {news : List (Addr × Obj)}
    (hh : A.handled = none) (F : Fr h₀ env.locals s.heap m₀) (N : News h₀ env.locals s.heap news) (hl : (l, ({ cls := .type "tuple", data := .seq #[.int o t1, .int g t2] n } : Obj)) ∈ news) (hm : m₀ (Str.ofString "text") = some (.str (Str.ofString "") t3)) (_hf : m₀ (Str.ofString "files") = some (.int f t4)) (o0 : 0 ≤ o) (o1 : o < f * 4) (g0 : 0 ≤ g) (g1 : g < f * 4)
    (turn : ∀ q tq T t (u : Str → Option Value) h tk I oI, 0 ≤ q → q < f * 4 → T.length ≤ 10 → (∀ p ∈ news, p.1 ≠ I) →
      Fr h₀ env.locals h (fun y => if y = Str.ofString "square" then some (.int q tq) else if y = Str.ofString "text" then some (.str T t) else m₀ y) → News h₀ env.locals h ((I, oI) :: news) →
      wpAny (model prog w) A (execs body env) (PostJ h₀ env.locals (JT m₀ news (stepT f T q)) I oI { s with heap := h, toks := tk } Q) E { s with heap := h, toks := tk })
    (done : ∀ t (u : Str → Option Value) h tk, Fr h₀ env.locals h (fun y => if y = Str.ofString "text" then some (.str (stepT f (stepT f (Str.ofString "") o) g) t) else if y = Str.ofString "square" then u y else m₀ y) → News h₀ env.locals h news → Q .next { s with heap := h, toks := tk }) :
    wpAny (model prog w) A (pyIter (.ref l)) (fun it s₂ => LoopAtV prog w A h₀ env (Str.ofString "square") body Q E it s₂) E s := by
  have Nl := N _ hl
  have hls : s.heap.IsTuple l #[.int o t1, .int g t2] := ⟨_, Nl.1, rfl, _, rfl⟩
  have hlt : l < s.heap.objs.size := Heap.lt_size Nl.1
  have hne : l ≠ s.heap.objs.size := Nat.ne_of_lt hlt
  refine wpAny_pyIter_tuple hls ?_
  have W := Walks.tuple (prog := prog) (w := w) hh s.heap.objs.size l hne #[.int o t1, .int g t2]
  have fix : ∀ (T : Str) (t : Tok) (m₁ : Str → Option Value), m₁ (Str.ofString "text") = some (.str T t) → (∀ y, y ≠ Str.ofString "text" → y ≠ Str.ofString "square" → m₁ y = m₀ y) → ∀ v : Option Value, (fun y => if y = Str.ofString "square" then v else m₁ y) = fun y => if y = Str.ofString "square" then v else if y = Str.ofString "text" then some (.str T t) else m₀ y := fun T t m₁ h1 h2 v => by
    funext y
    by_cases ha : y = Str.ofString "square"
    · rw [if_pos ha, if_pos ha]
    · rw [if_neg ha, if_neg ha]
      by_cases hb : y = Str.ofString "text"
      · rw [if_pos hb, hb, h1]
      · rw [if_neg hb, h2 y hb ha]
  refine loopJ (news := news) (fun i => JT m₀ news (if i = 0 then Str.ofString "" else if i = 1 then stepT f (Str.ofString "") o else stepT f (stepT f (Str.ofString "") o) g)) W ?_ (next_is_new F) (fun i h hi => let ⟨o, ho, _⟩ := hi.1; ⟨o, ho⟩) (fun b hb hne' => ?_) ?_ ⟨⟨_, Heap.get?_push_size _ rfl, rfl, rfl⟩, hls.at fun o e => Heap.get?_push_of_some _ e⟩ (F.push _) (fun p hp => ⟨Heap.get?_push_of_some _ (N p hp).1, (N p hp).2⟩) ?_ ?_ ?_
  · intro hm
    rcases List.mem_cons.mp hm with e | hm
    · exact absurd F.ns.lt (e ▸ Nat.lt_irrefl _)
    · exact Nl.2.1 (List.mem_singleton.mp hm).symm
  · rcases List.mem_cons.mp hb with e | hb
    · exact absurd e hne'
    · rw [List.mem_singleton.mp hb]
      exact ⟨_, fun i m nx hj => by rw [hj.1]; exact hl⟩
  · intro p hp hI
    exact absurd (Heap.lt_size (N p hp).1) (hI ▸ Nat.lt_irrefl _)
  · exact ⟨rfl, t3, hm, fun _ _ _ => rfl⟩
  · rintro i v m₁ nx h tk oI hin hP ho ⟨rfl, t, h1, h2⟩ F₁ N₁
    have hi : i = 0 ∨ i = 1 := by
      have : i < 2 := hin
      omega
    rcases hi with rfl | rfl
    · have hv : v = .int o t1 := by
        have hP' : (#[Value.int o t1, .int g t2] : Array Value)[0]? = some v := hP
        simpa using hP'.symm
      subst hv
      rw [fix _ _ _ h1 h2] at F₁
      exact turn o t1 _ t (fun _ => none) h tk _ _ o0 o1 (by decide +kernel) ho F₁ N₁
    · have hv : v = .int g t2 := by
        have hP' : (#[Value.int o t1, .int g t2] : Array Value)[1]? = some v := hP
        simpa using hP'.symm
      subst hv
      rw [fix _ _ _ h1 h2] at F₁
      exact turn g t2 _ t (fun _ => none) h tk _ _ g0 g1 (by show (stepT f (Str.ofString "") o).length ≤ 10; rw [stepT_len]; decide +kernel) ho F₁ N₁
  · rintro m₁ nx h tk ⟨rfl, t, h1, h2⟩ F₁ N₁
    refine done t m₁ h tk ?_ N₁
    have e : m₁ = fun y => if y = Str.ofString "text" then some (.str (stepT f (stepT f (Str.ofString "") o) g) t) else if y = Str.ofString "square" then m₁ y else m₀ y := by
      funext y
      by_cases ha : y = Str.ofString "text"
      · rw [if_pos ha, ha, h1]; rfl
      · rw [if_neg ha]
        by_cases hb : y = Str.ofString "square"
        · rw [if_pos hb]
        · rw [if_neg hb, h2 y ha hb]
    rw [e] at F₁; exact F₁
theorem text_end {h₀ h' : Heap} {L I : Addr} {m' m₀ : Str → Option Value} {news big : List (Addr × Obj)} {oI : Obj} {f q : Int} {T : Str} {t tk : Tok} {s₁ : Shared} {Q : Flow → Shared → Prop}
    (F : Fr h₀ L h' m') (N : News h₀ L h' big) (h2 : ∀ p ∈ news, p.1 ≠ I) (e0 : (I, oI) ∈ big) (e2 : ∀ p ∈ news, p ∈ big)
    (h1 : m' (Str.ofString "text") = some (.str (stepT f T q) t)) (hm : ∀ y, y ≠ Str.ofString "text" → y ≠ Str.ofString "square" → m' y = m₀ y) :
    PostJ h₀ L (JT m₀ news (stepT f T q)) I oI s₁ Q .next { s₁ with heap := h', toks := tk } := by
  refine ⟨h', tk, m', news, rfl, F, fun p hp => ?_, h2, rfl, t, h1, hm⟩
  rcases List.mem_cons.mp hp with rfl | hp
  · exact N _ e0
  · exact N _ (e2 p hp)

section
variable {prog : Program} {w : World} {A : Around} {E : Value → Shared → Prop} {s : Shared} {h₀ : Heap} {L l : Addr} {news : List (Addr × Obj)} {t0 t1 t2 t3 t4 t5 u : Tok} {n : Nat} {q : Int} {value slice : Expr} {Q : Value → Shared → Prop}
theorem item_promo (N : News h₀ L s.heap news) (hm : (l, W.listOf #[.str (Str.ofString "") t0, .str (Str.ofString "") t1, .str (Str.ofString "n") t2, .str (Str.ofString "b") t3, .str (Str.ofString "r") t4, .str (Str.ofString "q") t5] n) ∈ news) (h0 : 0 ≤ q) (h5 : q ≤ 5)
    (h : ∀ t, Q (.str (promoL q) t) s) (hs : subscripted slice false (.ref l) (.int q u) = operate [.ref l, .int q u] (getItem (.ref l) (.int q u)) := by with_unfolding_all rfl) :
    wpAny (model prog w) A (subscriptTail value slice (.ref l) (.int q u)) Q E s := by
  have hl : s.heap.IsList l #[.str (Str.ofString "") t0, .str (Str.ofString "") t1, .str (Str.ofString "n") t2, .str (Str.ofString "b") t3, .str (Str.ofString "r") t4, .str (Str.ofString "q") t5] := ⟨_, (N _ hm).1, rfl, _, rfl⟩
  have c : q = 0 ∨ q = 1 ∨ q = 2 ∨ q = 3 ∨ q = 4 ∨ q = 5 := by omega
  rcases c with rfl | rfl | rfl | rfl | rfl | rfl
  all_goals exact tail_any hl.typeIs slot_list_getitem.lookup (wpAny_getItem_list hl (by decide) (by decide) rfl (h _)) hs
end
theorem app_add {a b : Str} {n m : Nat} (h1 : a.length ≤ n) (h2 : b.length ≤ m) : (a ++ b).length ≤ n + m := by
  rw [Str.length_append]; omega
theorem tS_len' {a : Int} (h : a.natAbs < 10 ^ 12) : (Str.ofString (toString a)).length ≤ 13 := tS_len h
end
section
theorem item4 {i : Int} (h0 : 0 ≤ i) (h1 : i < 4) : Txt.item (Str.ofString "1234") i = Txt.item (Str.ofString "12345678") i := by
  have c : i = 0 ∨ i = 1 ∨ i = 2 ∨ i = 3 := by omega
  rcases c with rfl | rfl | rfl | rfl <;> decide +kernel
theorem step_sq {f q : Int} (T : Str) (h1 : 3 ≤ f) (h0 : 0 ≤ q) (h4 : q < f * 4) : stepT f T q = T ++ sqT f q := by
  unfold stepT sqT
  rw [item4 (fdiv_ge h0 (by omega)) (fdiv_lt h4 (by omega)), Str.append_assoc]
theorem steps_sq {f o g : Int} (h1 : 3 ≤ f) (o0 : 0 ≤ o) (o4 : o < f * 4) (g0 : 0 ≤ g) (g4 : g < f * 4) : stepT f (stepT f (Str.ofString "") o) g = sqT f o ++ sqT f g := by
  rw [step_sq _ h1 g0 g4, step_sq _ h1 o0 o4]
  have e : Str.ofString "" ++ sqT f o = sqT f o := Str.empty_append _
  rw [e]
theorem pack_eq {o g sp pr : Int} (h1 : 0 ≤ o) (h2 : o < 32) (h3 : 0 ≤ g) (h4 : g < 32) (h5 : 0 ≤ sp) (h7 : 2 ≤ pr ∨ sp ≠ 1) (h8 : pr ≤ 5) :
    packT o g sp pr = g + o * 64 + fieldT sp pr * 4096 + sp * 16384 := by
  unfold packT
  refine pk_eq h1 h2 h3 h4 ?_ ?_ h5
  · unfold fieldT; split <;> omega
  · unfold fieldT; split <;> omega
theorem pack_grown {f o g q : Int} (h1 : 3 ≤ f) (h2 : f ≤ 8) (o0 : 0 ≤ o) (o4 : o < f * 4) (g0 : 0 ≤ g) (g4 : g < f * 4) (q2 : 1 < q) (q5 : q ≤ 5) :
    stepT f (stepT f (Str.ofString "") o) g ++ promoL q = moveT f (packT o g 1 q) ∧ MoveOk f (packT o g 1 q) := by
  have e : packT o g 1 q = g + o * 64 + (q - 2) * 4096 + 16384 := by
    rw [pack_eq o0 (by omega) g0 (by omega) (by omega) (by omega) q5]
    unfold fieldT
    rw [if_pos rfl]; omega
  rw [e]
  generalize hm : g + o * 64 + (q - 2) * 4096 + 16384 = m
  have ef : fromT m = o := by rw [fromT_eq]; omega
  have et : toT m = g := by rw [toT_eq]; omega
  have ep : mpT m = q := by rw [mpT_eq, if_pos (by omega)]; omega
  refine ⟨?_, by omega, by omega, fun _ => by rw [ef]; exact o4, fun _ => by rw [et]; exact g4⟩
  unfold moveT
  rw [if_neg (by omega), ef, et, ep, steps_sq h1 o0 o4 g0 g4]
theorem pack_plain {f o g q : Int} (h1 : 3 ≤ f) (h2 : f ≤ 8) (o0 : 0 ≤ o) (o4 : o < f * 4) (g0 : 0 ≤ g) (g4 : g < f * 4) (hne : o ≠ g) (q2 : ¬ 1 < q) :
    stepT f (stepT f (Str.ofString "") o) g ++ promoL q = moveT f (packT o g 0 0) ∧ MoveOk f (packT o g 0 0) := by
  have e : packT o g 0 0 = g + o * 64 := by
    rw [pack_eq o0 (by omega) g0 (by omega) (by omega) (by omega) (by omega)]
    unfold fieldT
    rw [if_neg (by decide)]; omega
  rw [e]
  generalize hm : g + o * 64 = m
  have ef : fromT m = o := by rw [fromT_eq]; omega
  have et : toT m = g := by rw [toT_eq]; omega
  have ep : mpT m = 0 := by rw [mpT_eq, if_neg (by omega)]
  refine ⟨?_, by omega, by omega, fun _ => by rw [ef]; exact o4, fun _ => by rw [et]; exact g4⟩
  have e1 : promoL q = promoL 0 := by
    unfold promoL
    (repeat' split) <;> first | rfl | (exfalso; omega)
  unfold moveT
  rw [if_neg (by omega), ef, et, ep, steps_sq h1 o0 o4 g0 g4, e1]
theorem move_none (f : Int) : Str.ofString "(none)" = moveT f 0 ∧ MoveOk f 0 := ⟨by unfold moveT; rw [if_pos rfl], by decide, by decide, fun h => absurd rfl h, fun h => absurd rfl h⟩
theorem pack_any {f o g q : Int} (h1 : 3 ≤ f) (h2 : f ≤ 8) (o0 : 0 ≤ o) (o4 : o < f * 4) (g0 : 0 ≤ g) (g4 : g < f * 4) (hne : o ≠ g) (q5 : ¬ 5 < q) (c1 c2 : Int) :
    stepT f (stepT f (Str.ofString "") o) g ++ promoL q = moveT f (if 1 < q then packT o g 1 q else if 1 < q then c1 else if 1 < q then c2 else packT o g 0 0) ∧ MoveOk f (if 1 < q then packT o g 1 q else if 1 < q then c1 else if 1 < q then c2 else packT o g 0 0) := by
  by_cases h : 1 < q
  · simp only [if_pos h]; exact pack_grown h1 h2 o0 o4 g0 g4 h (by omega)
  · simp only [if_neg h]; exact pack_plain h1 h2 o0 o4 g0 g4 hne h
theorem pack_any2 {f o g q : Int} (h1 : 3 ≤ f) (h2 : f ≤ 8) (o0 : 0 ≤ o) (o4 : o < f * 4) (g0 : 0 ≤ g) (g4 : g < f * 4) (hne : o ≠ g) (q5 : ¬ 5 < q) :
    stepT f (stepT f (Str.ofString "") o) g ++ promoL q = moveT f (if 1 < q then packT o g 1 q else packT o g 0 0) ∧ MoveOk f (if 1 < q then packT o g 1 q else packT o g 0 0) := by
  by_cases h : 1 < q
  · simp only [if_pos h]; exact pack_grown h1 h2 o0 o4 g0 g4 h (by omega)
  · simp only [if_neg h]; exact pack_plain h1 h2 o0 o4 g0 g4 hne h
theorem succ_ne {f o : Int} (h1 : 3 ≤ f) (o0 : 0 ≤ o) (o4 : o < f * 4) : o ≠ (o + 1).fmod (f * 4) := by
  rw [Int.fmod_eq_emod_of_nonneg _ (by omega)]
  by_cases h : o + 1 < f * 4
  · rw [Int.emod_eq_of_lt (by omega) h]; omega
  · have : o + 1 = f * 4 := by omega
    rw [this, Int.emod_self]; omega
end
section
section
set_option maxHeartbeats 4000000
theorem line0 {w : World} {mean : ExcName → Option Value} {mg mb : Str → Option Value} {dp un : Nat} {gd : Option (List Code)} {cn : Str} {cs : Scope} {a : Addr} {ccd : Value} {cl : List (Str × Addr)} {outer : List Env} {A₀ : Around} {base h₀ : Heap} {L : Addr} {m : Str → Option Value} {own : List (Addr × Obj)} {s : Shared}
    {Q E : Value → Shared → Prop} {b c : Addr} {ob oc : Obj} {k f : Int} {tf : Nat}
    (B : Below A₀ base outer h₀) (F : Fr h₀ L s.heap m) (X : (ktop.heap_1 w.params).In h₀) (N : News h₀ L s.heap ((b, ob) :: (c, oc) :: own))
    (T : Top vw (looseW vw loose) mean mg mb h₀) (hk : cs.kind = .function)
    (hoff : OwnOff own [b]) (hcb : c ≠ b) (hb : Belt w b c ob oc k) (hk1 : k ≤ 900) (h1 : 3 ≤ f) (h2 : f ≤ 8)
    (hdp : dp + 10 < recursionLimit) (hun : un + 100 < cLine)
    (ret : ∀ R mv wd o' k' vs us ms km ku h' tk', Fr h₀ L h' m → News h₀ L h' ((R, { cls := Value.type "tuple", data := Data.seq #[.ref mv, .ref wd] }) :: (mv, W.listOf vs.toArray km) :: (wd, W.listOf us.toArray ku) :: (b, o') :: (c, oc) :: own) → Belt w b c o' oc k' → k' ≤ k + 13 →
      AllLt mv ((b, o') :: (c, oc) :: own) → AllLt wd ((mv, W.listOf vs.toArray km) :: (b, o') :: (c, oc) :: own) → AllLt R ((mv, W.listOf vs.toArray km) :: (wd, W.listOf us.toArray ku) :: (b, o') :: (c, oc) :: own) → IntsAre vs ms → StrsAre us (ms.map (moveT f)) → ms.length ≤ 4 → (∀ x ∈ ms, MoveOk f x) → Q (.ref R) { s with heap := h', toks := tk' }) :
    wpAny (model PySem.Challenge.rw_pf0096_01.row.prog w) (ktrTop dp un gd cn cs L a ccd cl outer) (call (.ref 313) [.ref b, .int f tf]) Q E s := by
  k_with_none
  k_with "room0" => ((try simp only [depth_under_make, depth_under_kw, depth_in1, depth_deeper, depth_caller]); (try dsimp only [ktrTop]); (first | exact lq0 (by with_reducible assumption) | exact lq1 (by with_reducible assumption) (by rfl) | exact lq2 (by with_reducible assumption) (by rfl) | exact lq3 (by with_reducible assumption) (by rfl) | exact lq4 (by with_reducible assumption) (by rfl) | exact lq5 (by with_reducible assumption) (by rfl) | exact lq6 (by with_reducible assumption) (by rfl) | omega))
  k_with "units0" => ((try simp only [units_in1, units_deeper, Around.mark_units, units_caller]); (try dsimp only [ktrTop]); (first | exact lq0 (by with_reducible assumption) | exact lq1 (by with_reducible assumption) (by rfl) | exact lq2 (by with_reducible assumption) (by rfl) | exact lq3 (by with_reducible assumption) (by rfl) | exact lq4 (by with_reducible assumption) (by rfl) | exact lq5 (by with_reducible assumption) (by rfl) | exact lq6 (by with_reducible assumption) (by rfl) | omega))
  k_with "all0" => (first | assumption | exact allLt_ne (by assumption) | exact allLt_ne (And.right (by assumption)) | exact allLt_ne (And.right (And.right (by assumption))) | exact allLt_ne (And.right (And.right (And.right (by assumption)))) | exact allLt_ne (And.right (And.right (And.right (And.right (by assumption))))) | exact allLt_ne (And.right (And.right (And.right (And.right (And.right (by assumption)))))) | exact allLt_ne (And.right (And.right (And.right (And.right (And.right (And.right (by assumption))))))) | exact allLt_ne (And.right (And.right (And.right (And.right (And.right (And.right (And.right (by assumption)))))))) | exact allLt_ne (And.right (And.right (And.right (And.right (And.right (And.right (And.right (And.right (by assumption))))))))) | exact allLt_ne (And.right (And.right (And.right (And.right (And.right (And.right (And.right (And.right (And.right (by assumption)))))))))) | exact allLt_ne (And.right (And.right (And.right (And.right (And.right (And.right (And.right (And.right (And.right (And.right (by assumption))))))))))) | exact allLt_ne (And.right (And.right (And.right (And.right (And.right (And.right (And.right (And.right (And.right (And.right (And.right (by assumption)))))))))))) | exact allLt_ne (And.right (And.right (And.right (And.right (And.right (And.right (And.right (And.right (And.right (And.right (And.right (And.right (by assumption))))))))))))) | exact allLt_ne (And.right (And.right (And.right (And.right (And.right (And.right (And.right (And.right (And.right (And.right (And.right (And.right (And.right (by assumption)))))))))))))) | exact allLt_ne (And.right (And.right (And.right (And.right (And.right (And.right (And.right (And.right (And.right (And.right (And.right (And.right (And.right (And.right (by assumption))))))))))))))) | exact allLt_ne (And.right (And.right (And.right (And.right (And.right (And.right (And.right (And.right (And.right (And.right (And.right (And.right (And.right (And.right (And.right (by assumption)))))))))))))))) | exact allLt_ne (And.right (And.right (And.right (And.right (And.right (And.right (And.right (And.right (And.right (And.right (And.right (And.right (And.right (And.right (And.right (And.right (by assumption))))))))))))))))) | exact allLt_ne (And.right (And.right (And.right (And.right (And.right (And.right (And.right (And.right (And.right (And.right (And.right (And.right (And.right (And.right (And.right (And.right (And.right (by assumption)))))))))))))))))) | exact ltAll_ne (by assumption))
  k_with "cj" => (first | with_reducible exact And.left | (with_reducible refine cjR ?_; k_extra "cj"))
  k_with "ne0" => ((refine neN ?_; (try dsimp only); first | with_reducible assumption | exact Ne.symm (by with_reducible assumption) | exact Nat.ne_of_lt (by with_reducible assumption) | exact Nat.ne_of_gt (by with_reducible assumption) | exact neL (by with_reducible assumption) (by k_extra "cj") | exact neG (by with_reducible assumption) (by k_extra "cj") | exact neLT (by with_reducible assumption) (by with_reducible assumption) (by k_extra "cj") | exact neGT (by with_reducible assumption) (by with_reducible assumption) (by k_extra "cj")))
  k_with "steps0" => (repeat' (first | (k_unfold; (try dsimp only)) | (k_end; wrow_close) | (walk1; all_goals (try dsimp only)) | (dsimp only; walk1; all_goals (try dsimp only)) | (leave1; walk_say "STEP leave1"; try dsimp only) | fail "no step"))
  k_with "call ref" => ((k_here; (with_reducible show wpAny _ _ (call (Value.ref 299) _) _ _ _); k_dflt (refine' pickU ?B ?F ?X ?N ?T ?hk ?U ?be ?mc ?kb ?n0 ?n1 ?dp ?un ?_; (case B => k_asm); (case F => k_asm); (case X => k_asm); (case N => k_asm); (case T => k_asm); (case hk => first | exact rfl | assumption); (case U => k_updF); (case be => assumption); (case mc => k_mem); (case kb => omega); (case n0 => first | decide | omega); (case n1 => first | decide | omega); (case dp => k_room); (case un => k_units)); intro r'z t'z h'z tk'z o'z F'z N'z be'z lo'z hi'z; (try dsimp only at N'z); (try k_sweep)))
  k_with "call ref" => ((k_here; (with_reducible show wpAny _ _ (call (Value.ref 42) _) _ _ _); k_dflt (refine' pack0 ?B ?F ?X ?N ?T ?hk ?p0 ?p1 ?p2 ?p3 ?p4 ?p5 ?p6 ?p7 ?dp ?un ?_; (case B => k_asm); (case F => k_asm); (case X => k_asm); (case N => k_asm); (case T => k_asm); (case hk => first | exact rfl | assumption); (case p0 => k_extra "bd9"); (case p1 => k_extra "bd9"); (case p2 => k_extra "bd9"); (case p3 => k_extra "bd9"); (case p4 => k_extra "bd9"); (case p5 => k_extra "bd9"); (case p6 => k_extra "bd9"); (case p7 => k_extra "bd9"); (case dp => k_room); (case un => k_units)); intro t'z h'z tk'z F'z N'z; (try k_sweep)))
  k_with "bd9" => (first | assumption | omega | exact Int.fmod_nonneg_of_pos _ (by omega) | exact Int.lt_of_lt_of_le (Int.fmod_lt_of_pos _ (by omega)) (by omega))
  k_with "pyIter ref" => (((with_reducible show wpAny _ _ (pyIter _) (fun it s₂ => LoopAtV _ _ _ _ _ (Str.ofString "turn") _ _ _ it s₂) _ _); refine Stop.mk' ?_))
  k_with "exec For Name Call cons nil" => (refine Stop.mk' ?_)
  k_with "call type:range" => ((k_here; k_dflt (first
  | (refine' range1_rows ?F ?N ?_; (case F => k_asm); (case N => k_asm))
  | (refine' range2_rows ?F ?N ?_; (case F => k_asm); (case N => k_asm))); intro h'z tk'z t1'z t2'z t3'z hR'z F'z N'z hK'z))
  k_with "exec For Name Tuple cons nil" => ((k_here; k_dflt (refine' For_invVF ?F rfl rfl ?_; (case F => k_asm))))
  k_with "pyIter ref" => (((with_reducible show wpAny _ _ (pyIter _) (fun it s₂ => LoopAtV _ _ _ _ _ (Str.ofString "square") _ _ _ it s₂) _ _); refine Stop.mk' ?_))
  k_with "tend" => ((k_dflt (refine' text_end ?F ?N ?h2 ?e0 ?e2 ?h1 ?hm; (case F => k_asm); (case N => k_asm); (case h2 => assumption); (case e0 => k_mem); (case e2 => intro pz hpz; exact List.Mem.tail _ hpz); (case h1 => rfl); (case hm => intro zz hzz hz2z; simp only [if_neg hzz, if_neg hz2z]))))
  k_with "lend" => ((k_dflt (refine' line_end ?F ?N ?n1 ?n2 ?n3 ?n4 ?hoI ?e0 ?e1 ?e2 ?e3 ?e4 ?e5 ?h1 ?h2 ?h3 ?h4 ?be ?a1 ?a2 ?a3 ?a4 ?a5 ?hfl ?_; (case F => k_asm); (case N => k_asm); (case n1 => assumption); (case n2 => assumption); (case n3 => assumption); (case n4 => assumption); (case hoI => assumption); (case e0 => k_mem); (case e1 => k_mem); (case e2 => k_mem); (case e3 => k_mem); (case e4 => k_mem); (case e5 => intro pz hpz; k_ownIn); (case h1 => rfl); (case h2 => rfl); (case h3 => rfl); (case h4 => rfl); (case be => assumption); (case a1 => omega); (case a2 => assumption); (case a3 => assumption); (case a4 => assumption); (case a5 => assumption); (case hfl => first | exact .inl rfl | exact .inr rfl))))
  k_with "subscriptTail" => ((k_here; (with_reducible show wpAny _ _ (subscriptTail _ _ (Value.ref _) (Value.int _ _)) _ _ _); k_dflt (refine' item_promo ?N ?m ?h0 ?h5 ?_; (case N => k_asm); (case m => k_mem); (case h0 => omega); (case h5 => omega)); intro _))
  k_with "subscriptTail" => ((k_here; (with_reducible show wpAny _ _ (subscriptTail _ _ (Value.str _ _) (Value.int (Int.fmod _ _) _)) _ _ _); k_dflt (refine' item_at (n := 8) (by decide +kernel) (by decide) (Int.fmod_nonneg_of_pos _ (by omega)) (Int.lt_of_lt_of_le (Int.fmod_lt_of_pos _ (by omega)) (by omega)) ?_); intro _ _))
  k_with "subscriptTail" => ((k_here; (with_reducible show wpAny _ _ (subscriptTail _ _ (Value.str _ _) (Value.int (Int.fdiv _ _) _)) _ _ _); k_dflt (refine' item_at (n := 4) (by decide +kernel) (by decide) (fdiv_ge (by omega) (by omega)) (fdiv_lt (by omega) (by omega)) ?_); intro _ _))
  k_with "binaryOp Add str str" => ((k_here; (with_reducible show wpAny _ _ (binaryOp Operator.Add (Value.str _ _) (Value.str _ _)) _ _ _); (refine' add_at ?a ?b ?_; (case a => k_extra "len9"); (case b => k_extra "len9")); intro _ _))
  k_with "len9" => (exact Nat.le_trans (by k_extra "len8") (by decide +kernel))
  k_with "len8" => (first
  | ((with_reducible show PySem.Str.length (_ ++ _) ≤ _); exact app_add (by k_extra "len8") (by k_extra "len8"))
  | ((with_reducible refine tS_len' ?_); omega)
  | ((with_reducible show (PySem.Str.ofString _).length ≤ _); exact Nat.le_refl _)
  | (with_reducible exact promoL_len _)
  | (with_reducible exact sqT_le _ _)
  | (with_reducible exact item_le _ _)
  | (with_reducible exact moveT_len _ _)
  | ((with_reducible refine scoreT_len ?_ ?_); (focus omega); (focus omega))
  | ((with_reducible refine tS_len ?_); omega))
  k_with "len8" => ((with_reducible assumption))
  k_with "len8" => ((with_reducible exact steps_le _ _ _))
  revert X; k_fill; intro X
  refine wpAny_call ?_
  k_dflt ktr_enter
  k_steps
  unfold Stop
  k_dflt (refine' For_invVF ?F rfl rfl ?_; (case F => k_asm))
  k_steps
  unfold Stop
  k_dflt (refine' line_loop (tf := tf) (f := f) (own := own) ?hh ?hr ?z0 ?z1 ?F ?N ?e1 ?e2 ?e3 ?e4 ?e5 ?h1 ?h2 ?h3 ?h4 ?be ?turn ?done)
  (case hh => exact rfl)
  (case hr => assumption)
  (case z0 => assumption)
  (case z1 => assumption)
  (case F => k_asm)
  (case N => k_asm)
  (case h1 => rfl)
  (case h2 => rfl)
  (case h3 => rfl)
  (case h4 => rfl)
  (case be => assumption)
  (case e1 => k_mem)
  (case e2 => k_mem)
  (case e3 => k_mem)
  (case e4 => k_mem)
  (case e5 => (intro p hp; k_ownIn))
  (case' turn => intro i' t' u' h' tk' I' oI' ob' k' vs' us' ms' km' ku' hi' hn1' hn2' hn3' hn4' hoI' be' a1' a2' a3' a4' a5' a6' a7' F' N')
  (case' done => intro u' h' tk' ob' k' vs' us' ms' km' ku' be' a1' a2' a3' a4' a5' F' N')
  all_goals (try (dsimp only at F' N'))
  all_goals (try dsimp only)
  all_goals (try k_fold)
  k_steps
  rotate_left 2
  focus
    unfold Stop
    k_dflt (refine' text_loop ?hh7 ?F7 ?N7 ?l7 ?m7 ?mf7 ?o07 ?o17 ?g07 ?g17 ?turn7 ?done7; (case hh7 => exact rfl); (case F7 => k_asm); (case N7 => k_asm); (case l7 => k_mem); (case m7 => rfl); (case mf7 => rfl); (case o07 => walk_at "bd9"); (case o17 => walk_at "bd9"); (case g07 => walk_at "bd9"); (case g17 => walk_at "bd9"); (case' turn7 => intro q' tq' T' t' u' h' tk' I' oI' hq0' hq1' hT' ho' F' N'); (case' done7 => intro t' u' h' tk' F' N'))
    all_goals (try (dsimp only at F' N'))
    all_goals (try dsimp only)
    all_goals (try k_fold)
    k_steps
    all_goals first | walk_at "tend" | walk_at "lend"
    exact pack_any h1 h2 (by assumption) (by assumption) (by walk_at "bd9") (by walk_at "bd9") (succ_ne h1 (by assumption) (by assumption)) (by assumption) _ _
  focus
    unfold Stop
    k_dflt (refine' text_loop ?hh8 ?F8 ?N8 ?l8 ?m8 ?mf8 ?o08 ?o18 ?g08 ?g18 ?turn8 ?done8; (case hh8 => exact rfl); (case F8 => k_asm); (case N8 => k_asm); (case l8 => k_mem); (case m8 => rfl); (case mf8 => rfl); (case o08 => walk_at "bd9"); (case o18 => walk_at "bd9"); (case g08 => walk_at "bd9"); (case g18 => walk_at "bd9"); (case' turn8 => intro q' tq' T' t' u' h' tk' I' oI' hq0' hq1' hT' ho' F' N'); (case' done8 => intro t' u' h' tk' F' N'))
    all_goals (try (dsimp only at F' N'))
    all_goals (try dsimp only)
    all_goals (try k_fold)
    k_steps
    all_goals first | walk_at "tend" | walk_at "lend"
    exact pack_any2 h1 h2 (by assumption) (by assumption) (by assumption) (by assumption) (by assumption) (by assumption)
  · refine ret _ _ _ _ _ _ _ _ _ _ _ _ (by assumption) (fun p hp => (show News _ _ _ (_ :: _) from by assumption) p hp) (by assumption) ?_ (by assumption) (by assumption) (by assumption) (by assumption) (by assumption) (by assumption) (by assumption)
    omega
  · (try dsimp only)
    walk_at "lend"
    exact move_none f
end
end
section
structure It where
  T : Addr
  l : Addr
  x : Int
  v : Int
  tx : Tok
  tv : Tok
  vs : List Value
  ms : List Int
  k : Nat
noncomputable def It.tup (it : It) : Obj := { cls := .type "tuple", data := .seq #[.int it.x it.tx, .int it.v it.tv, .ref it.l] }
def ItOk (f : Int) (news : List (Addr × Obj)) (it : It) : Prop :=
  (it.T, it.tup) ∈ news ∧ (it.l, W.listOf it.vs.toArray it.k) ∈ news ∧ IntsAre it.vs it.ms ∧ it.ms.length ≤ 4 ∧ (∀ x ∈ it.ms, MoveOk f x) ∧ -32000 ≤ it.v ∧ it.v ≤ 32000
noncomputable def rowHead (place depth v nodes : Int) : List Str := [Str.ofString "info", Str.ofString "depth", tS depth, Str.ofString "multipv", tS place, Str.ofString "score", scoreT v, Str.ofString "nodes", tS nodes, Str.ofString "pv"]
noncomputable def rowW (f place depth v nodes : Int) (ms : List Int) : List Str := rowHead place depth v nodes ++ ms.map (moveT f)
noncomputable def rowT (f depth nodes : Int) (i : Nat) (it : It) : Str := Txt.join (Str.ofString " ") (rowW f (0 + (i : Int) + 1) depth it.v nodes it.ms)
theorem rowHead_len {place depth v nodes : Int} (p1 : 0 ≤ place) (p2 : place < 1000) (v1 : -32000 ≤ v) (v2 : v ≤ 32000) (d1 : 0 ≤ depth) (d2 : depth < 1000000000) (n1 : 0 ≤ nodes) (n2 : nodes < 1000000000) : ∀ y ∈ rowHead place depth v nodes, y.length ≤ 40 := by
  have a1 := tS_len (a := depth) (by omega)
  have a2 := tS_len (a := nodes) (by omega)
  have a4 := tS_len (a := place) (by omega)
  have a3 := scoreT_len v1 v2
  intro y hy
  simp only [rowHead, List.mem_cons, List.not_mem_nil, or_false] at hy
  rcases hy with rfl | rfl | rfl | rfl | rfl | rfl | rfl | rfl | rfl | rfl
  · decide +kernel
  · decide +kernel
  · omega
  · decide +kernel
  · omega
  · decide +kernel
  · omega
  · decide +kernel
  · omega
  · decide +kernel
theorem rowW_len {f place depth v nodes : Int} {ms : List Int} (p1 : 0 ≤ place) (p2 : place < 1000) (v1 : -32000 ≤ v) (v2 : v ≤ 32000) (d1 : 0 ≤ depth) (d2 : depth < 1000000000) (n1 : 0 ≤ nodes) (n2 : nodes < 1000000000) : ∀ y ∈ rowW f place depth v nodes ms, y.length ≤ 40 := by
  intro y hy
  unfold rowW at hy
  rcases List.mem_append.mp hy with hy | hy
  · exact rowHead_len p1 p2 v1 v2 d1 d2 n1 n2 y hy
  · obtain ⟨a, _, rfl⟩ := List.mem_map.mp hy
    have := moveT_len f a
    omega
noncomputable def rowsT (f depth nodes : Int) (its : List It) : List Str := its.mapIdx fun i it => rowT f depth nodes i it
theorem rowsT_take {f depth nodes : Int} {its : List It} {i : Nat} {it : It} (h : its[i]? = some it) : (rowsT f depth nodes its).take (i + 1) = (rowsT f depth nodes its).take i ++ [rowT f depth nodes i it] := by
  rw [List.take_add_one]
  unfold rowsT
  rw [List.getElem?_mapIdx, h]
  rfl
theorem rowsT_snoc {f depth nodes : Int} {its : List It} {it : It} : rowsT f depth nodes (its ++ [it]) = rowsT f depth nodes its ++ [rowT f depth nodes its.length it] := by
  unfold rowsT
  rw [List.mapIdx_append]
  simp
def JR (rw' fd gx : Addr) (news : List (Addr × Obj)) (f depth nodes : Int) (td tn : Tok) (its : List It) (i : Nat) (m : Str → Option Value) (nx : List (Addr × Obj)) : Prop :=
  ∃ us k, nx = (rw', W.listOf us.toArray k) :: news ∧ StrsAre us ((rowsT f depth nodes its).take i) ∧
    m (Str.ofString "rows") = some (.ref rw') ∧ m (Str.ofString "found") = some (.ref fd) ∧ m (Str.ofString "geo") = some (.ref gx) ∧ m (Str.ofString "depth") = some (.int depth td) ∧ m (Str.ofString "nodes") = some (.int nodes tn)
theorem pin' {m : Str → Option Value} {x : Str} {v : Option Value} (h : m x = v) (y : Str) : (if y = x then v else m y) = m y := by
  split
  · rename_i e; rw [e, h]
  · rfl
theorem rows_loop {prog : Program} {w : World} {A : Around} {E : Value → Shared → Prop} {s : Shared} {env : Env} {h₀ : Heap} {body : List Stmt} {Q : Flow → Shared → Prop}
    {r rw' fd gx : Addr} {t₀ u₀ v₀ td tn : Tok} {f depth nodes z : Int} {m₀ : Str → Option Value} {news : List (Addr × Obj)} {its : List It} {k₀ : Nat}
    (hh : A.handled = none) (hr : IsRange s.heap r 0 z 1 t₀ u₀ v₀) (hz : z = (its.length : Int)) (hl : its.length ≤ 4) (F : Fr h₀ env.locals s.heap m₀) (N : News h₀ env.locals s.heap ((rw', W.listOf #[] k₀) :: news))
    (h1 : m₀ (Str.ofString "rows") = some (.ref rw')) (h2 : m₀ (Str.ofString "found") = some (.ref fd)) (h3 : m₀ (Str.ofString "geo") = some (.ref gx)) (h4 : m₀ (Str.ofString "depth") = some (.int depth td)) (h5 : m₀ (Str.ofString "nodes") = some (.int nodes tn))
    (hlt : ∀ p ∈ news, p.1 ≠ rw') (hok : ∀ it ∈ its, ItOk f news it)
    (turn : ∀ (i : Nat) (t : Tok) (u : Str → Option Value) (h : Heap) (tk : Nat) (I : Addr) (oI : Obj) (us : List Value) (k : Nat) (it : It), i < 4 → its[i]? = some it → @Ne Nat rw' I → (∀ p ∈ news, p.1 ≠ I) → ItOk f news it → @Ne Nat it.T I → @Ne Nat it.l I → @Ne Nat it.T rw' → @Ne Nat it.l rw' → us.length ≤ 4 → StrsAre us ((rowsT f depth nodes its).take i) →
      Fr h₀ env.locals h (fun y => if y = Str.ofString "k" then some (.int (0 + (i : Int)) t) else if y = Str.ofString "rows" then some (.ref rw') else if y = Str.ofString "found" then some (.ref fd) else if y = Str.ofString "geo" then some (.ref gx) else if y = Str.ofString "depth" then some (.int depth td) else if y = Str.ofString "nodes" then some (.int nodes tn) else u y) →
      News h₀ env.locals h ((I, oI) :: (rw', W.listOf us.toArray k) :: (it.T, it.tup) :: (it.l, W.listOf it.vs.toArray it.k) :: news) →
      wpAny (model prog w) A (execs body env) (PostJ h₀ env.locals (JR rw' fd gx news f depth nodes td tn its (i + 1)) I oI { s with heap := h, toks := tk } Q) E { s with heap := h, toks := tk })
    (done : ∀ (u : Str → Option Value) h tk us k, StrsAre us (rowsT f depth nodes its) →
      Fr h₀ env.locals h (fun y => if y = Str.ofString "rows" then some (.ref rw') else u y) →
      News h₀ env.locals h ((rw', W.listOf us.toArray k) :: news) → Q .next { s with heap := h, toks := tk }) :
    wpAny (model prog w) A (pyIter (.ref r)) (fun it s₂ => LoopAtV prog w A h₀ env (Str.ofString "k") body Q E it s₂) E s := by
  subst hz
  refine iter_rangeJ (n := its.length) (nx₀ := (rw', W.listOf #[] k₀) :: news) (JR rw' fd gx news f depth nodes td tn its) hh hr (small_one (by decide) (by decide) (by omega) (by omega)) (by rw [rangeSize_nat]; omega) F N (fun _ hp => hp) ⟨[], k₀, rfl, .nil, h1, h2, h3, h4, h5⟩ ?_ ?_
  · rintro i t m₁ nx h tk I oI hi ho ⟨us, k, rfl, hus, g1, g2, g3, g4, g5⟩ F₁ N₁
    have hit : its[i]? = some its[i] := by simp [hi]
    have ok := hok _ (List.getElem_mem hi)
    have hu : us.length ≤ 4 := by
      rw [strsAre_len hus, List.length_take]; omega
    refine turn i t m₁ h tk I oI us k its[i] (by omega) hit (ho _ (.head _)) (fun p hp => ho p (.tail _ hp)) ok (ho _ (.tail _ ok.1)) (ho _ (.tail _ ok.2.1)) (hlt _ ok.1) (hlt _ ok.2.1) hu hus ?_ ?_
    · simp only [pin' g5, pin' g4, pin' g3, pin' g2, pin' g1]
      exact F₁
    · intro p hp
      simp only [List.mem_cons] at hp
      rcases hp with rfl | rfl | rfl | rfl | hp
      · exact N₁ _ (.head _)
      · exact N₁ _ (.tail _ (.head _))
      · exact N₁ _ (.tail _ (.tail _ ok.1))
      · exact N₁ _ (.tail _ (.tail _ ok.2.1))
      · exact N₁ _ (.tail _ (.tail _ hp))
  · rintro m₁ nx h tk ⟨us, k, rfl, hus, g1, g2, g3, g4, g5⟩ F₁ N₁
    have e : (rowsT f depth nodes its).take its.length = rowsT f depth nodes its := by
      rw [List.take_of_length_le]
      unfold rowsT
      rw [List.length_mapIdx]
      exact Nat.le_refl _
    rw [e] at hus
    refine done m₁ h tk us k hus ?_ N₁
    simp only [pin' g1]
    exact F₁
theorem rows_end {h₀ h' : Heap} {L rw' fd gx I : Addr} {m' : Str → Option Value} {news big : List (Addr × Obj)} {oI : Obj} {f depth nodes : Int} {td tn t : Tok} {i tk k : Nat} {us : List Value} {its : List It} {it : It} {yt : Str} {s₁ : Shared} {Q : Flow → Shared → Prop}
    (F : Fr h₀ L h' m') (N : News h₀ L h' big) (hit : its[i]? = some it) (hn1 : @Ne Nat rw' I) (ho : ∀ p ∈ news, p.1 ≠ I) (e0 : (I, oI) ∈ big) (e1 : (rw', W.listOf (us.toArray.push (.str yt t)) k) ∈ big) (e2 : ∀ p ∈ news, p ∈ big)
    (hus : StrsAre us ((rowsT f depth nodes its).take i)) (h1 : m' (Str.ofString "rows") = some (.ref rw')) (h2 : m' (Str.ofString "found") = some (.ref fd)) (h3 : m' (Str.ofString "geo") = some (.ref gx)) (h4 : m' (Str.ofString "depth") = some (.int depth td)) (h5 : m' (Str.ofString "nodes") = some (.int nodes tn)) (ok : yt = rowT f depth nodes i it) :
    PostJ h₀ L (JR rw' fd gx news f depth nodes td tn its (i + 1)) I oI s₁ Q .next { s₁ with heap := h', toks := tk } := by
  subst ok
  rw [List.push_toArray] at e1
  refine ⟨h', tk, m', (rw', W.listOf (us ++ [Value.str (rowT f depth nodes i it) t]).toArray k) :: news, rfl, F, fun p hp => ?_, fun p hp => ?_, us ++ [Value.str (rowT f depth nodes i it) t], k, rfl, ?_, h1, h2, h3, h4, h5⟩
  · simp only [List.mem_cons] at hp
    rcases hp with rfl | rfl | hp
    · exact N _ e0
    · exact N _ e1
    · exact N _ (e2 p hp)
  · rcases List.mem_cons.mp hp with rfl | hp
    · exact hn1
    · exact ho p hp
  · rw [rowsT_take hit]
    exact strsAre_snoc hus
section
variable {prog : Program} {w : World} {A : Around} {E : Value → Shared → Prop} {s : Shared} {h₀ : Heap} {L fd : Addr} {news : List (Addr × Obj)} {its : List It} {it : It} {i n : Nat} {u : Tok} {value slice : Expr} {Q : Value → Shared → Prop}
theorem item_it (N : News h₀ L s.heap news) (hm : (fd, W.listOf (its.map fun it => Value.ref it.T).toArray n) ∈ news) (hit : its[i]? = some it) (hi : i < 4)
    (h : Q (.ref it.T) s) (hs : subscripted slice false (.ref fd) (.int (0 + (i : Int)) u) = operate [.ref fd, .int (0 + (i : Int)) u] (getItem (.ref fd) (.int (0 + (i : Int)) u)) := by with_unfolding_all rfl) :
    wpAny (model prog w) A (subscriptTail value slice (.ref fd) (.int (0 + (i : Int)) u)) Q E s := by
  have hl : s.heap.IsList fd (its.map fun it => Value.ref it.T).toArray := ⟨_, (N _ hm).1, rfl, _, rfl⟩
  refine tail_any hl.typeIs slot_list_getitem.lookup (wpAny_getItem_list hl (by omega) (by omega) ?_ h) hs
  have e : (0 + (i : Int)).toNat = i := by omega
  rw [e]
  simp [hit]
theorem len_it (N : News h₀ L s.heap news) (hm : (fd, W.listOf (its.map fun it => Value.ref it.T).toArray n) ∈ news) (hl : its.length ≤ 4)
    (h : ∀ t tk, Q (.int (its.length : Int) t) { s with toks := tk }) : wpAny (model prog w) A (call (.builtin "len") [.ref fd]) Q E s := by
  have hl' : s.heap.IsList fd (its.map fun it => Value.ref it.T).toArray := ⟨_, (N _ hm).1, rfl, _, rfl⟩
  refine len_list hl' ?_ ?_
  · simp; omega
  · have e : (((its.map fun it => Value.ref it.T).toArray.size : Nat) : Int) = (its.length : Int) := by simp
    rw [e]; exact h _ _
end
end
section
section
variable {prog : Program} {w : World} {A : Around} {E : Value → Shared → Prop} {s : Shared} {h₀ : Heap} {L D b : Addr} {m : Str → Option Value} {news news' : List (Addr × Obj)} {its its2 : Array Value} {n n2 : Nat} {l : List Value}
theorem fillsI_list : fillsInplaceSlot (.type "list") "add" (Operator.Add == .Add) = (pure false : Sem Bool) := by
  unfold fillsInplaceSlot
  show (typeLookup (.type "list") (dunderI "add") >>= fun fi => pure (fi.isSome && !isSeqSlot fi)) = pure false
  rw [PySem.F.slot_list_iadd.lookup]
  show (pure ((some (Value.builtin "list.__iadd__")).isSome && !isSeqSlot (some (.builtin "list.__iadd__"))) : Sem Bool) = pure false
  rw [show isSeqSlot (some (Value.builtin "list.__iadd__")) = true from by decide +kernel]
  rfl
theorem seqI_list : seqSlot? (.type "list") (dunderI "add") = pure (some (.builtin "list.__iadd__")) := PySem.seqSlot_of PySem.F.slot_list_iadd.lookup (by decide +kernel)
theorem iadd_made {Q : Value → Shared → Prop} (F : Fr h₀ L s.heap m) (N : News h₀ L s.heap news) (hb : (b, W.listOf its2 n2) ∈ news) (e : its.toList ++ its2.toList = l) (hne : its2.toList.length ≠ 0)
    (U : Upd D (W.listOf its n) (W.listOf l.toArray (n + 1)) news news') (hd : ¬(!its.isEmpty && Builtin.List.listTooLong (its.size + its2.size)) = true) (hz : its.toList.length ≤ sizeLine) (hz2 : its.size + its2.size ≤ sizeLine + 1)
    (h : ∀ h', Fr h₀ L h' m → News h₀ L h' news' → Q (.ref D) { s with heap := h' }) : wpAny (model prog w) A (inplaceOp .Add (.ref D) (.ref b)) Q E s := by
  obtain ⟨pre, post, rfl, rfl, a, c⟩ := U.split
  have z := N (D, W.listOf its n) (List.mem_append.mpr (.inr (.head _)))
  have hD : s.TypeIs (.ref D) "list" := ⟨_, z.1, rfl⟩
  have hB : s.TypeIs (.ref b) "list" := ⟨_, (N _ hb).1, rfl⟩
  unfold inplaceOp
  refine wpAny_holding ?_
  refine wpAny_bind (wpAny_typeOf hD (wpAny_bind (wpAny_of_eq fillsI_list ?_)))
  show wpAny _ A (if false = true then _ else _) Q E s
  rw [if_neg Bool.false_ne_true]
  refine wpAny_bind (PySem.wpAny_binaryOp1_none (nm := "add") hD hB PySem.noFill_list_add ?_)
  refine wpAny_bind (wpAny_of_eq seqI_list ?_)
  refine wpAny_bind (wpAny_rule ?_)
  refine (call_meets PySem.F.slot_list_iadd hD PySem.F.entry_list_iadd (PySem.F.args_list_iadd_2 _ _) (PySem.AutoSeq1.list___iadd___list_list_0 D its n b its2 n2 hd (by simpa using hz) hz2) (Q := Q) ⟨z.1, (N _ hb).1, h _ (F.change (Heap.SameBut.update ..) z.2.1 z.2.2) (kl_turn _ N a c ?_ ?_)⟩)
  · subst e
    apply Array.toList_inj.mp
    simp
  · subst e
    simp at hne ⊢
    exact hne
end
end
section
section
set_option maxHeartbeats 4000000
theorem lines0 {w : World} {mean : ExcName → Option Value} {mg mb : Str → Option Value} {dp un : Nat} {gd : Option (List Code)} {cn : Str} {cs : Scope} {a : Addr} {ccd : Value} {cl : List (Str × Addr)} {outer : List Env} {A₀ : Around} {base h₀ : Heap} {L : Addr} {m : Str → Option Value} {news : List (Addr × Obj)} {s : Shared} {Q E : Value → Shared → Prop} {f depth nodes : Int} {gx gdx fd : Addr} {es : List DictEntry} {its : List It} {n kf : Nat} {tf td tn : Nat}
    (B : Below A₀ base outer h₀) (F : Fr h₀ L s.heap m) (X : (ktop.heap_1 w.params).In h₀) (N : News h₀ L s.heap news) (T : Top vw (looseW vw loose) mean mg mb h₀) (hk : cs.kind = .function) (h1 : 3 ≤ f) (h2 : f ≤ 8) (hg : (gx, instObj 225 gdx) ∈ news) (hgd : (gdx, dictOf es n) ∈ news) (hfl : getL (Str.ofString "files") es = some (some (.int f tf)))
    (hfd : (fd, W.listOf (its.map fun it => Value.ref it.T).toArray kf) ∈ news) (hl : its.length ≤ 4) (hok : ∀ it ∈ its, ItOk f news it)
    (d1 : 0 ≤ depth) (d2 : depth < 1000000000) (n1 : 0 ≤ nodes) (n2 : nodes < 1000000000) (hdp : dp + 10 < recursionLimit) (hun : un + 100 < cLine)
    (ret : ∀ R us k h' tk', Fr h₀ L h' m → News h₀ L h' ((R, W.listOf us.toArray k) :: news) → StrsAre us (rowsT f depth nodes its) → Q (.ref R) { s with heap := h', toks := tk' }) :
    wpAny (model PySem.Challenge.rw_pf0096_01.row.prog w) (ktrTop dp un gd cn cs L a ccd cl outer) (call (.ref 292) [.ref gx, .ref fd, .int depth td, .int nodes tn]) Q E s := by
  k_with_none
  k_with "room0" => ((try simp only [depth_under_make, depth_under_kw, depth_in1, depth_deeper, depth_caller]); (try dsimp only [ktrTop]); (first | exact lq0 (by with_reducible assumption) | exact lq1 (by with_reducible assumption) (by rfl) | exact lq2 (by with_reducible assumption) (by rfl) | exact lq3 (by with_reducible assumption) (by rfl) | exact lq4 (by with_reducible assumption) (by rfl) | exact lq5 (by with_reducible assumption) (by rfl) | exact lq6 (by with_reducible assumption) (by rfl) | omega))
  k_with "units0" => ((try simp only [units_in1, units_deeper, Around.mark_units, units_caller]); (try dsimp only [ktrTop]); (first | exact lq0 (by with_reducible assumption) | exact lq1 (by with_reducible assumption) (by rfl) | exact lq2 (by with_reducible assumption) (by rfl) | exact lq3 (by with_reducible assumption) (by rfl) | exact lq4 (by with_reducible assumption) (by rfl) | exact lq5 (by with_reducible assumption) (by rfl) | exact lq6 (by with_reducible assumption) (by rfl) | omega))
  k_with "all0" => (first | assumption | exact allLt_ne (by assumption) | exact allLt_ne (And.right (by assumption)) | exact allLt_ne (And.right (And.right (by assumption))) | exact allLt_ne (And.right (And.right (And.right (by assumption)))) | exact allLt_ne (And.right (And.right (And.right (And.right (by assumption))))) | exact allLt_ne (And.right (And.right (And.right (And.right (And.right (by assumption)))))) | exact allLt_ne (And.right (And.right (And.right (And.right (And.right (And.right (by assumption))))))) | exact allLt_ne (And.right (And.right (And.right (And.right (And.right (And.right (And.right (by assumption)))))))) | exact allLt_ne (And.right (And.right (And.right (And.right (And.right (And.right (And.right (And.right (by assumption))))))))) | exact allLt_ne (And.right (And.right (And.right (And.right (And.right (And.right (And.right (And.right (And.right (by assumption)))))))))) | exact allLt_ne (And.right (And.right (And.right (And.right (And.right (And.right (And.right (And.right (And.right (And.right (by assumption))))))))))) | exact allLt_ne (And.right (And.right (And.right (And.right (And.right (And.right (And.right (And.right (And.right (And.right (And.right (by assumption)))))))))))) | exact allLt_ne (And.right (And.right (And.right (And.right (And.right (And.right (And.right (And.right (And.right (And.right (And.right (And.right (by assumption))))))))))))) | exact allLt_ne (And.right (And.right (And.right (And.right (And.right (And.right (And.right (And.right (And.right (And.right (And.right (And.right (And.right (by assumption)))))))))))))) | exact allLt_ne (And.right (And.right (And.right (And.right (And.right (And.right (And.right (And.right (And.right (And.right (And.right (And.right (And.right (And.right (by assumption))))))))))))))) | exact allLt_ne (And.right (And.right (And.right (And.right (And.right (And.right (And.right (And.right (And.right (And.right (And.right (And.right (And.right (And.right (And.right (by assumption)))))))))))))))) | exact allLt_ne (And.right (And.right (And.right (And.right (And.right (And.right (And.right (And.right (And.right (And.right (And.right (And.right (And.right (And.right (And.right (And.right (by assumption))))))))))))))))) | exact allLt_ne (And.right (And.right (And.right (And.right (And.right (And.right (And.right (And.right (And.right (And.right (And.right (And.right (And.right (And.right (And.right (And.right (And.right (by assumption)))))))))))))))))) | exact ltAll_ne (by assumption))
  k_with "cj" => (first | with_reducible exact And.left | (with_reducible refine cjR ?_; k_extra "cj"))
  k_with "ne0" => ((refine neN ?_; (try dsimp only); first | with_reducible assumption | exact Ne.symm (by with_reducible assumption) | exact Nat.ne_of_lt (by with_reducible assumption) | exact Nat.ne_of_gt (by with_reducible assumption) | exact neL (by with_reducible assumption) (by k_extra "cj") | exact neG (by with_reducible assumption) (by k_extra "cj") | exact neLT (by with_reducible assumption) (by with_reducible assumption) (by k_extra "cj") | exact neGT (by with_reducible assumption) (by with_reducible assumption) (by k_extra "cj")))
  k_with "steps0" => (repeat' (first | (k_unfold; (try dsimp only)) | (k_end; wrow_close) | (walk1; all_goals (try dsimp only)) | (dsimp only; walk1; all_goals (try dsimp only)) | (leave1; walk_say "STEP leave1"; try dsimp only) | fail "no step"))
  k_with "call ref" => ((k_here; (with_reducible show wpAny _ _ (call (Value.ref 35) _) _ _ _); k_dflt (refine' score0 ?B ?F ?X ?N ?T ?hk ?p0 ?p1 ?dp ?un ?_; (case B => k_asm); (case F => k_asm); (case X => k_asm); (case N => k_asm); (case T => k_asm); (case hk => first | exact rfl | assumption); (case p0 => omega); (case p1 => omega); (case dp => k_room); (case un => k_units)); intro t'z h'z tk'z F'z N'z; (try k_sweep)))
  k_with "call ref" => ((k_here; (with_reducible show wpAny _ _ (call (Value.ref 143) _) _ _ _); k_dflt (refine' move0 ?B ?F ?X ?N ?T ?hk ?p1 ?p2 ?p3 ?p4 ?p5 ?p6 ?p7 ?p8 ?p9 ?dp ?un ?_; (case B => k_asm); (case F => k_asm); (case X => k_asm); (case N => k_asm); (case T => k_asm); (case hk => first | exact rfl | assumption); (case p1 => assumption); (case p2 => assumption); (case p3 => k_mem); (case p4 => k_mem); (case p5 => assumption); (case p6 => assumption); (case p7 => assumption); (case p8 => assumption); (case p9 => assumption); (case dp => k_room); (case un => k_units)); intro t'z h'z tk'z F'z N'z; (try k_sweep)))
  k_with "call type:range" => ((k_here; k_dflt (first
  | (refine' range1_rows ?F ?N ?_; (case F => k_asm); (case N => k_asm))
  | (refine' range2_rows ?F ?N ?_; (case F => k_asm); (case N => k_asm))); intro h'z tk'z t1'z t2'z t3'z hR'z F'z N'z hK'z))
  k_with "inplaceOp Add ref ref" => ((k_here; k_dflt (refine' iadd_made ?F ?N ?b ?e ?n ?U ?d ?z ?y ?_; (case F => k_asm); (case N => k_asm); (case b => k_mem); (case e => first | kl_lit | rfl); (case n => kl_some); (case U => k_upd); (case d => kl_no); (case z => kl_room); (case y => kl_room)); intro h'z F'z N'z; (try dsimp only at N'z); (try k_sweep)))
  k_with "exec For Name Call cons nil" => ((k_here; k_dflt (refine' For_invVF ?F rfl rfl ?_; (case F => k_asm))))
  k_with "pyIter ref" => (refine Stop.mk' ?_)
  k_with "subscriptTail" => ((k_here; (with_reducible show wpAny _ _ (subscriptTail _ _ (Value.ref _) (Value.int _ _)) _ _ _); k_dflt (refine' item_it ?N ?m ?h ?i ?_; (case N => k_asm); (case m => k_mem); (case h => assumption); (case i => assumption))))
  k_with "call builtin:len" => ((k_here; k_dflt (refine' len_it ?N ?m ?h ?_; (case N => k_asm); (case m => k_mem); (case h => assumption)); intro _ _))
  k_with "close8" => ((k_dflt (refine' words_end ?F ?N ?hn ?h1 ?h2 ?e0 ?e1 ?e2 ?hus ?hm; (case F => k_asm); (case N => k_asm); (case hn => assumption); (case h1 => assumption); (case h2 => assumption); (case e0 => k_mem); (case e1 => k_mem); (case e2 => intro pz hpz; k_ownIn); (case hus => assumption); (case hm => intro zz hzz; exact if_neg hzz))))
  k_with "rend" => ((k_dflt (refine' rows_end ?F ?N ?hit ?h1 ?h2 ?e0 ?e1 ?e2 ?hus ?g1 ?g2 ?g3 ?g4 ?g5 ?ok; (case F => k_asm); (case N => k_asm); (case hit => assumption); (case h1 => assumption); (case h2 => assumption); (case e0 => k_mem); (case e1 => k_mem); (case e2 => intro pz hpz; k_ownIn); (case hus => assumption); (case g1 => rfl); (case g2 => rfl); (case g3 => rfl); (case g4 => rfl); (case g5 => rfl); (case ok => rfl))))
  revert X; k_fill; intro X
  refine wpAny_call ?_
  k_dflt ktr_enter
  k_steps
  unfold Stop
  k_dflt (refine' rows_loop (f := f) (depth := depth) (nodes := nodes) (fd := fd) (gx := gx) (td := td) (tn := tn) (news := news) ?hh ?hr rfl hl ?F ?N ?e1 ?e2 ?e3 ?e4 ?e5 (ltAll_ne (by assumption)) hok ?turn ?done)
  (case hh => exact rfl)
  (case hr => assumption)
  (case F => k_asm)
  (case N => k_asm)
  (case e1 => rfl)
  (case e2 => rfl)
  (case e3 => rfl)
  (case e4 => rfl)
  (case e5 => rfl)
  (case' turn => intro i' t' u' h' tk' I' oI' us' k' it' hi' hit' hn' ho' ok' hT1' hl1' hT2' hl2' hul' hus' F' N')
  (case' done => intro u' h' tk' us' k' hus' F' N')
  · (try (dsimp only at F' N'))
    (try dsimp only)
    (try k_fold)
    k_steps
    exact ret _ _ _ _ _ (by assumption) (by assumption) (by assumption)
  · obtain ⟨ok1, ok2, ok3, ok4, ok5, ok6, ok7⟩ := ok'
    unfold It.tup at N' ok1
    (try (dsimp only at F' N'))
    (try dsimp only)
    (try k_fold)
    k_steps
    unfold Stop
    k_dflt (refine' words_loop (base := rowHead (0 + (i' : Int) + 1) depth it'.v nodes) (ms := it'.ms) (moveT f) ?hhw ?iw ?Fw (fun p hp => (show News _ _ _ (_ :: _) from by assumption) p (.tail _ hp)) ?lw ?sw (by omega) (Nat.le_of_ble_eq_true rfl) ?turnw ?donew; (case hhw => exact rfl); (case iw => assumption); (case Fw => k_asm); (case lw => k_mem); (case sw => kct_strs))
    (case turnw =>
      intro j' n' t' us' k' h' tk' I' oI' hn' hI' hoI' hul' hus' F' N'
      obtain ⟨q1, q2, q3, q4⟩ := ok5 n' (List.mem_of_getElem? hn')
      (try (dsimp only at F' N'))
      (try dsimp only)
      (try k_fold)
      k_steps
      walk_at "close8"
      )
    (case donew =>
      intro m' us' k' h' tk' hus' F' N'
      (try (dsimp only at F' N'))
      (try dsimp only)
      (try k_fold)
      k_steps
      k_dflt (refine' join_w (ys := rowW f (0 + (i' : Int) + 1) depth it'.v nodes it'.ms) ?Nj ?mj ?ij (rowW_len (by omega) (by omega) ok6 ok7 d1 d2 n1 n2) ?lej ?_; (case Nj => k_asm); (case mj => k_mem); (case ij => exact hus'); (case lej => rw [rowW, List.length_append, List.length_map]; exact Nat.add_le_add (Nat.le_of_ble_eq_true rfl : 10 ≤ 36) ok4))
      intro t' tk'
      k_steps
      walk_at "rend")
end
end
section
open PySem.SeqAt PySem.Spec
def SOk (x : Str) : Prop := PyData.strOk x = true
theorem ok_iff {x : Str} : SOk x ↔ ∀ c ∈ x.cps.toList, c < 0x110000 := by
  unfold SOk PyData.strOk
  rw [← Array.all_toList, List.all_eq_true]
  simp
theorem ok_of (t : String) : SOk (Str.ofString t) := by
  rw [ok_iff, Str.ofString_eq_toList]
  intro c hc
  have hc' : c ∈ t.toList.map Char.toNat := by simpa using hc
  obtain ⟨d, _, rfl⟩ := List.mem_map.mp hc'
  have := d.valid
  rcases this with h | h
  · exact Nat.lt_trans h (by decide)
  · exact h.2
theorem ok_app {a b : Str} (ha : SOk a) (hb : SOk b) : SOk (a ++ b) := by
  rw [ok_iff] at *
  intro c hc
  have hc' : c ∈ a.cps.toList ++ b.cps.toList := by simpa [Str.cps_append] using hc
  rcases List.mem_append.mp hc' with h | h
  · exact ha c h
  · exact hb c h
theorem ok_join {x : Str} (hx : SOk x) (ys : List Str) (h : ∀ y ∈ ys, SOk y) : SOk (Txt.join x ys) := by
  unfold Txt.join
  rw [StrLaws.glued_eq_join]
  induction ys with
  | nil => exact ok_of ""
  | cons y r ih =>
    cases r with
    | nil => exact h y (.head _)
    | cons z r => exact ok_app (ok_app (h y (.head _)) hx) (ih fun y hy => h y (.tail _ hy))
theorem ok_item (x : Str) (hx : SOk x) (i : Int) : SOk (Txt.item x i) := by
  rw [ok_iff] at *
  intro c hc
  have hc' : c = (Txt.charAt x i).getD 0 := by simpa [Txt.item] using hc
  rw [hc']
  unfold Txt.charAt
  cases h : seqIndex? i x.length with
  | none => exact (by decide : (0 : Nat) < 0x110000)
  | some k =>
    rw [Option.bind_some]
    cases h2 : x.cps[k]? with
    | none => exact (by decide : (0 : Nat) < 0x110000)
    | some d =>
      refine hx d ?_
      have := Array.mem_of_getElem? h2
      simpa using this
theorem ok_sq (f q : Int) : SOk (sqT f q) := ok_app (ok_item _ (ok_of _) _) (ok_item _ (ok_of _) _)
theorem ok_promo (q : Int) : SOk (promoL q) := by
  unfold promoL
  (repeat' split) <;> exact ok_of _
theorem ok_move (f m : Int) : SOk (moveT f m) := by
  unfold moveT
  split
  · exact ok_of _
  · exact ok_app (ok_app (ok_sq _ _) (ok_sq _ _)) (ok_promo _)
theorem ok_score (v : Int) : SOk (scoreT v) := by
  unfold scoreT tS
  (repeat' split) <;> exact ok_app (ok_of _) (ok_of _)
theorem ok_rowW (f place depth v nodes : Int) (ms : List Int) : ∀ y ∈ rowW f place depth v nodes ms, SOk y := by
  intro y hy
  unfold rowW rowHead tS at hy
  rcases List.mem_append.mp hy with hy | hy
  · simp only [List.mem_cons, List.not_mem_nil, or_false] at hy
    rcases hy with rfl | rfl | rfl | rfl | rfl | rfl | rfl | rfl | rfl | rfl
    all_goals first | exact ok_of _ | exact ok_score _
  · obtain ⟨a, _, rfl⟩ := List.mem_map.mp hy
    exact ok_move _ _
theorem ok_rowsT (f depth nodes : Int) (its : List It) : ∀ y ∈ rowsT f depth nodes its, SOk y := by
  intro y hy
  unfold rowsT at hy
  obtain ⟨i, hi, rfl⟩ := List.mem_mapIdx.mp hy
  exact ok_join (ok_of _) _ (ok_rowW _ _ _ _ _ _)
theorem cl_strs : ∀ ns : List Str, (∀ y ∈ ns, SOk y) → PyData.canLayAll0 (ns.map PyData.str) = true
  | [], _ => rfl
  | x :: r, h => by
    have h1 : PyData.strOk x = true := h x (.head _)
    have h2 := cl_strs r fun y hy => h y (.tail _ hy)
    simp [PyData.canLayAll0, PyData.canLay0, h1, h2]
theorem da_strs : ∀ ns : List Str, PyData.depthAll (ns.map PyData.str) = 0
  | [] => rfl
  | _ :: r => by simp [PyData.depthAll, PyData.depth, da_strs r]
theorem sh_strs (ns : List Str) (h : ∀ y ∈ ns, SOk y) : SeqAt.shaped (.list (ns.map PyData.str)) = true := by
  simp [SeqAt.shaped, PyData.canLay0, PyData.depth, cl_strs ns h, da_strs]
theorem sa_strs : ∀ ns ms : List Str, PySem.Spec.sameAll (ns.map PyData.str) (ms.map PyData.str) = decide (ns = ms)
  | [], [] => by simp [PySem.Spec.sameAll]
  | [], _ :: _ => by simp [PySem.Spec.sameAll]
  | _ :: _, [] => by simp [PySem.Spec.sameAll]
  | a :: r, b :: t => by
    simp only [List.map_cons, PySem.Spec.sameAll, PySem.Spec.same, sa_strs r t]
    by_cases h : a = b <;> by_cases h' : r = t <;> simp [h, h']
theorem nm_strs : ∀ ns ms : List Str, noMixAll (ns.map PyData.str) (ms.map PyData.str) = true
  | [], [] => by simp [noMixAll]
  | [], _ :: _ => by simp [noMixAll]
  | _ :: _, [] => by simp [noMixAll]
  | _ :: r, _ :: q => by simp [noMixAll, noMix, nm_strs r q]
theorem ra_strs {h : Heap} : ∀ {vs : List Value} {ns : List Str}, StrsAre vs ns → ReadsAll h vs (ns.map PyData.str) []
  | _, _, .nil => .nil
  | _, _, .cons k t r => by
    have := ReadsAll.cons (Reads.str (h := h) k t) (ra_strs (h := h) r)
    simpa using this
theorem rd_strs {h : Heap} {a : Addr} {vs : List Value} {ns : List Str} (hl : h.IsList a vs.toArray) (hi : StrsAre vs ns) : Reads h (.ref a) (.list (ns.map PyData.str)) [a] := by
  obtain ⟨o, ho, hc, n, hd⟩ := hl
  exact Reads.list ho hc hd (by simpa using ra_strs hi)
section
variable {prog : Program} {w : World} {A : Around} {E : Value → Shared → Prop} {s : Shared} {h₀ : Heap} {L : Addr} {news : List (Addr × Obj)} {k k2 : Nat} {a b : Addr} {vs us : List Value} {ns ms : List Str} {Q : Value → Shared → Prop}
theorem eq_strsK (N : News h₀ L s.heap news) (ha : (a, W.listOf vs.toArray k) ∈ news) (hb : (b, W.listOf us.toArray k2) ∈ news) (hi : StrsAre vs ns) (hi' : StrsAre us ms) (hu : A.units + 64 < cLine) (o1 : ∀ y ∈ ns, SOk y) (o2 : ∀ y ∈ ms, SOk y)
    (h : Q (.bool (decide (ns = ms))) s) : wpAny (model prog w) A (compareOp .Eq (.ref a) (.ref b)) Q E s :=
  eq_dataH_same (rd_strs ⟨_, (N _ ha).1, rfl, _, rfl⟩ hi) (rd_strs ⟨_, (N _ hb).1, rfl, _, rfl⟩ hi') (sh_strs ns o1) (sh_strs ms o2) hu (by simp only [noMix]; exact nm_strs ns ms) (by simp only [PySem.Spec.same]; rw [sa_strs]; exact h)
theorem ne_strsK (N : News h₀ L s.heap news) (ha : (a, W.listOf vs.toArray k) ∈ news) (hb : (b, W.listOf us.toArray k2) ∈ news) (hi : StrsAre vs ns) (hi' : StrsAre us ms) (hu : A.units + 64 < cLine) (o1 : ∀ y ∈ ns, SOk y) (o2 : ∀ y ∈ ms, SOk y)
    (h : Q (.bool (!decide (ns = ms))) s) : wpAny (model prog w) A (compareOp .NotEq (.ref a) (.ref b)) Q E s :=
  ne_dataH_same (rd_strs ⟨_, (N _ ha).1, rfl, _, rfl⟩ hi) (rd_strs ⟨_, (N _ hb).1, rfl, _, rfl⟩ hi') (sh_strs ns o1) (sh_strs ms o2) hu (by simp only [noMix]; exact nm_strs ns ms) (by simp only [PySem.Spec.same]; rw [sa_strs]; exact h)
end
end
section
theorem allLt_all {d : Addr} : ∀ {l : List (Addr × Obj)}, AllLt d l → ∀ p ∈ l, p.1 < d
  | [], _, _, hp => (nomatch hp)
  | q :: r, h, p, hp => by
    rcases List.mem_cons.mp hp with rfl | hp
    · exact h.1
    · exact allLt_all h.2 p hp
theorem mem_perm {pre post : List (Addr × Obj)} {x y : Addr × Obj} {p : Addr × Obj} (hp : p ∈ pre ++ x :: post) : p ∈ x :: y :: (pre ++ post) := by
  simp only [List.mem_append, List.mem_cons] at hp ⊢
  rcases hp with h | rfl | h
  · exact .inr (.inr (.inl h))
  · exact .inl rfl
  · exact .inr (.inr (.inr h))
theorem valueU {w : World} {mean : ExcName → Option Value} {mg mb : Str → Option Value} {dp un : Nat} {gd : Option (List Code)} {cn : Str} {cs : Scope} {a : Addr} {ccd : Value} {cl : List (Str × Addr)} {outer : List Env} {A₀ : Around} {base h₀ : Heap} {L : Addr} {m : Str → Option Value} {news : List (Addr × Obj)} {g : Obj → List (Addr × Obj)} {s : Shared}
    {Q E : Value → Shared → Prop} {b c : Addr} {ob oc : Obj} {k : Int}
    (B : Below A₀ base outer h₀) (F : Fr h₀ L s.heap m) (X : (ktop.heap_1 w.params).In h₀) (N : News h₀ L s.heap news)
    (T : Top vw (looseW vw loose) mean mg mb h₀) (hk : cs.kind = .function)
    (U : UpdF b ob news g) (hb : Belt w b c ob oc k) (hc : (c, oc) ∈ news) (hk1 : k ≤ 900)
    (hdp : dp + 10 < recursionLimit) (hun : un + 100 < cLine)
    (ret : ∀ D' v t1 t2 o' h' tk', Fr h₀ L h' m → News h₀ L h' ((D', { cls := Value.type "tuple", data := Data.seq #[.int v t1, .str (scoreT v) t2] }) :: g o') → Belt w b c o' oc (k + 2) → (∀ p ∈ g o', p.1 < D') → -32000 ≤ v → v ≤ 32000 → Q (.ref D') { s with heap := h', toks := tk' }) :
    wpAny (model PySem.Challenge.rw_pf0096_01.row.prog w) (ktrTop dp un gd cn cs L a ccd cl outer) (call (.ref 306) [.ref b]) Q E s := by
  obtain ⟨pre, post, e, hg, h1, h2⟩ := U.split
  subst e
  have N' : News h₀ L s.heap ((b, ob) :: (c, oc) :: (pre ++ post)) := by
    intro p hp
    simp only [List.mem_cons, List.mem_append] at hp
    rcases hp with rfl | rfl | hp | hp
    · exact N _ (List.mem_append_right _ (.head _))
    · exact N _ hc
    · exact N _ (List.mem_append_left _ hp)
    · exact N _ (List.mem_append_right _ (.tail _ hp))
  refine value0 B F X N' T hk ?_ hb.ne hb hk1 hdp hun fun D' v t1 t2 o' h' tk' F' N'' hb' hlt v1 v2 => ret D' v t1 t2 o' h' tk' F' ?_ hb' ?_ v1 v2
  · intro p hp q hq
    rw [List.mem_singleton.mp hq]
    rcases List.mem_append.mp hp with hp | hp
    · exact h1 p hp
    · exact h2 p hp
  · rw [hg]
    intro p hp
    rcases List.mem_cons.mp hp with rfl | hp
    · exact N'' _ (.head _)
    · exact N'' _ (.tail _ (mem_perm hp))
  · rw [hg]
    intro p hp
    exact allLt_all hlt p (mem_perm hp)
theorem lineU {w : World} {mean : ExcName → Option Value} {mg mb : Str → Option Value} {dp un : Nat} {gd : Option (List Code)} {cn : Str} {cs : Scope} {a : Addr} {ccd : Value} {cl : List (Str × Addr)} {outer : List Env} {A₀ : Around} {base h₀ : Heap} {L : Addr} {m : Str → Option Value} {news : List (Addr × Obj)} {g : Obj → List (Addr × Obj)} {s : Shared}
    {Q E : Value → Shared → Prop} {b c : Addr} {ob oc : Obj} {k f : Int} {tf : Nat}
    (B : Below A₀ base outer h₀) (F : Fr h₀ L s.heap m) (X : (ktop.heap_1 w.params).In h₀) (N : News h₀ L s.heap news)
    (T : Top vw (looseW vw loose) mean mg mb h₀) (hk : cs.kind = .function)
    (U : UpdF b ob news g) (hb : Belt w b c ob oc k) (hc : (c, oc) ∈ news) (hk1 : k ≤ 900) (f1 : 3 ≤ f) (f2 : f ≤ 8)
    (hdp : dp + 10 < recursionLimit) (hun : un + 100 < cLine)
    (ret : ∀ R mv wd o' k' vs us ms km ku h' tk', Fr h₀ L h' m → News h₀ L h' ((R, { cls := Value.type "tuple", data := Data.seq #[.ref mv, .ref wd] }) :: (mv, W.listOf vs.toArray km) :: (wd, W.listOf us.toArray ku) :: g o') → Belt w b c o' oc k' → k' ≤ k + 13 →
      (∀ p ∈ g o', p.1 < mv) → (∀ p ∈ (mv, W.listOf vs.toArray km) :: g o', p.1 < wd) → (∀ p ∈ (mv, W.listOf vs.toArray km) :: (wd, W.listOf us.toArray ku) :: g o', p.1 < R) →
      IntsAre vs ms → StrsAre us (ms.map (moveT f)) → ms.length ≤ 4 → (∀ x ∈ ms, MoveOk f x) → Q (.ref R) { s with heap := h', toks := tk' }) :
    wpAny (model PySem.Challenge.rw_pf0096_01.row.prog w) (ktrTop dp un gd cn cs L a ccd cl outer) (call (.ref 313) [.ref b, .int f tf]) Q E s := by
  obtain ⟨pre, post, e, hg, h1, h2⟩ := U.split
  subst e
  have N' : News h₀ L s.heap ((b, ob) :: (c, oc) :: (pre ++ post)) := by
    intro p hp
    simp only [List.mem_cons, List.mem_append] at hp
    rcases hp with rfl | rfl | hp | hp
    · exact N _ (List.mem_append_right _ (.head _))
    · exact N _ hc
    · exact N _ (List.mem_append_left _ hp)
    · exact N _ (List.mem_append_right _ (.tail _ hp))
  refine line0 B F X N' T hk ?_ hb.ne hb hk1 f1 f2 hdp hun fun R mv wd o' k' vs us ms km ku h' tk' F' N'' hb' hk' l1 l2 l3 i1 i2 i3 i4 => ret R mv wd o' k' vs us ms km ku h' tk' F' ?_ hb' hk' ?_ ?_ ?_ i1 i2 i3 i4
  · intro p hp q hq
    rw [List.mem_singleton.mp hq]
    rcases List.mem_append.mp hp with hp | hp
    · exact h1 p hp
    · exact h2 p hp
  · rw [hg]
    intro p hp
    rcases List.mem_cons.mp hp with rfl | hp
    · exact N'' _ (.head _)
    rcases List.mem_cons.mp hp with rfl | hp
    · exact N'' _ (.tail _ (.head _))
    rcases List.mem_cons.mp hp with rfl | hp
    · exact N'' _ (.tail _ (.tail _ (.head _)))
    · exact N'' _ (.tail _ (.tail _ (.tail _ (mem_perm hp))))
  · rw [hg]
    intro p hp
    exact allLt_all l1 p (mem_perm hp)
  · rw [hg]
    intro p hp
    rcases List.mem_cons.mp hp with rfl | hp
    · exact l2.1
    · exact allLt_all l2.2 p (mem_perm hp)
  · rw [hg]
    intro p hp
    rcases List.mem_cons.mp hp with rfl | hp
    · exact l3.1
    rcases List.mem_cons.mp hp with rfl | hp
    · exact l3.2.1
    · exact allLt_all l3.2.2 p (mem_perm hp)
end
section
theorem join_two (x a b : Str) (r : List Str) : Txt.join x (a :: b :: r) = a ++ x ++ Txt.join x (b :: r) := by
  unfold Txt.join
  rw [StrLaws.glued_eq_join, StrLaws.glued_eq_join]
  rfl
theorem join_one (x a : Str) : Txt.join x [a] = a := by
  unfold Txt.join
  rw [StrLaws.glued_eq_join]
  rfl
theorem join_app (x : Str) (a : Str) (r : List Str) (b : Str) (q : List Str) : Txt.join x ((a :: r) ++ b :: q) = Txt.join x (a :: r) ++ x ++ Txt.join x (b :: q) := by
  induction r generalizing a with
  | nil => rw [join_one]; exact join_two x a b q
  | cons c r ih =>
    rw [join_two]
    show Txt.join x (a :: (c :: (r ++ b :: q))) = _
    rw [join_two]
    have := ih c
    rw [List.cons_append] at this
    rw [this]
    simp only [Str.append_assoc]
theorem join_len (ys : List Str) (h : ∀ y ∈ ys, y.length ≤ 6) (h4 : ys.length ≤ 4) : (Txt.join (Str.ofString " ") ys).length ≤ 40 := by
  have key : ∀ ys : List Str, (∀ y ∈ ys, y.length ≤ 6) → (Txt.join (Str.ofString " ") ys).length ≤ 7 * ys.length := by
    intro ys
    induction ys with
    | nil => intro _; decide +kernel
    | cons a r ih =>
      intro h
      cases r with
      | nil =>
        rw [join_one]
        have := h a (.head _)
        simp; omega
      | cons b r =>
        have h1 := h a (.head _)
        have h2 := ih fun y hy => h y (.tail _ hy)
        have e : (Str.ofString " ").length = 1 := by decide +kernel
        rw [join_two, Str.length_append, Str.length_append, e]
        simp only [List.length_cons] at h2 ⊢
        omega
  have := key ys h
  omega
theorem moves_len (f : Int) (ms : List Int) : ∀ y ∈ ms.map (moveT f), y.length ≤ 6 := by
  intro y hy
  obtain ⟨a, _, rfl⟩ := List.mem_map.mp hy
  exact moveT_len f a
theorem ok_moves (f : Int) (ms : List Int) : ∀ y ∈ ms.map (moveT f), SOk y := by
  intro y hy
  obtain ⟨a, _, rfl⟩ := List.mem_map.mp hy
  exact ok_move f a
noncomputable def dueHead (depth v nodes : Int) : Str := Str.ofString "info depth " ++ tS depth ++ Str.ofString " score " ++ scoreT v ++ Str.ofString " nodes " ++ tS nodes
theorem due_head (depth v nodes : Int) : Txt.join (Str.ofString " ") (repHead depth v nodes) = dueHead depth v nodes := by
  unfold repHead dueHead
  simp only [join_two, join_one]
  rw [show Str.ofString "info depth " = Str.ofString "info" ++ Str.ofString " " ++ Str.ofString "depth" ++ Str.ofString " " from by decide +kernel,
    show Str.ofString " score " = Str.ofString " " ++ Str.ofString "score" ++ Str.ofString " " from by decide +kernel,
    show Str.ofString " nodes " = Str.ofString " " ++ Str.ofString "nodes" ++ Str.ofString " " from by decide +kernel]
  simp only [Str.append_assoc]
theorem due_nil {f depth v nodes : Int} {ms : List Int} (h : ms.map (moveT f) = []) : dueHead depth v nodes = Txt.join (Str.ofString " ") (repWords f depth v nodes ms) := by
  have e : ms = [] := List.map_eq_nil_iff.mp h
  subst e
  rw [repWords, if_pos rfl, List.append_nil, due_head]
theorem due_cons {f depth v nodes : Int} {ms : List Int} (h : ¬ ms.map (moveT f) = []) : dueHead depth v nodes ++ Str.ofString " pv " ++ Txt.join (Str.ofString " ") (ms.map (moveT f)) = Txt.join (Str.ofString " ") (repWords f depth v nodes ms) := by
  have e : ms ≠ [] := fun q => h (by rw [q]; rfl)
  rw [repWords, if_neg e, ← due_head]
  cases ms with
  | nil => exact absurd rfl e
  | cons a r =>
    unfold repHead
    rw [join_app]
    rw [List.map_cons, join_two _ (Str.ofString "pv"), show Str.ofString " pv " = Str.ofString " " ++ Str.ofString "pv" ++ Str.ofString " " from by decide +kernel]
    simp only [Str.append_assoc]
section
variable {M : Model} {A : Around} {E : Value → Shared → Prop} {s : Shared} {h₀ : Heap} {L : Addr} {news : List (Addr × Obj)} {m : Str → Option Value}
def Meet1 (h₀ : Heap) (L : Addr) (x X : Str) (m : Str → Option Value) (news : List (Addr × Obj)) (s : Shared) (fl : Flow) (s' : Shared) : Prop :=
  fl = .next ∧ ∃ h' tk t m', s' = { s with heap := h', toks := tk } ∧ Fr h₀ L h' m' ∧ News h₀ L h' news ∧ m' x = some (.str X t) ∧ ∀ y, y ≠ x → m' y = m y
theorem meet1 {tree : Sem Flow} {Q : Flow → Shared → Prop} (x X : Str) (h1 : wpAny M A tree (Meet1 h₀ L x X m news s) E s)
    (h2 : ∀ h' tk t, Fr h₀ L h' (fun y => if y = x then some (.str X t) else m y) → News h₀ L h' news → Q .next { s with heap := h', toks := tk }) : wpAny M A tree Q E s := by
  refine wpAny_mono h1 (fun fl s' h => ?_) fun _ _ e => e
  obtain ⟨rfl, h', tk, t, m', rfl, F, N, hx, hy⟩ := h
  refine h2 h' tk t ?_ N
  have e : m' = fun y => if y = x then some (.str X t) else m y := by
    funext y
    by_cases h : y = x
    · rw [if_pos h, h, hx]
    · rw [if_neg h, hy y h]
  rw [e] at F; exact F
theorem meet_end {x X : Str} {h' : Heap} {m' : Str → Option Value} {t : Tok} {tk : Nat} {big : List (Addr × Obj)} {X' : Str} (F : Fr h₀ L h' m') (N : News h₀ L h' big) (hs : ∀ p ∈ news, p ∈ big) (hx : m' x = some (.str X' t)) (hy : ∀ y, y ≠ x → m' y = m y) (e : X' = X) :
    Meet1 h₀ L x X m news s .next { s with heap := h', toks := tk } := by
  subst e
  exact ⟨rfl, h', tk, t, m', rfl, F, fun p hp => N p (hs p hp), hx, hy⟩
end
def JP (w : World) (b c fd rw' gx : Addr) (oc : Obj) (own : List (Addr × Obj)) (f depth nodes k : Int) (td tn : Tok) (i : Nat) (m : Str → Option Value) (nx : List (Addr × Obj)) : Prop :=
  ∃ (ob : Obj) (k' : Int) (its : List It) (us : List Value) (ku kf : Nat) (own' : List (Addr × Obj)),
    nx = (fd, W.listOf (its.map fun it => Value.ref it.T).toArray kf) :: (rw', W.listOf us.toArray ku) :: (b, ob) :: (c, oc) :: own' ∧
    (∀ p ∈ own, p ∈ own') ∧ OwnOff own' [b, fd, rw'] ∧ StrsAre us (rowsT f depth nodes its) ∧ its.length = i ∧ (∀ it ∈ its, ItOk f own' it) ∧ Belt w b c ob oc k' ∧ k' ≤ k + 15 * i ∧
    m (Str.ofString "belt") = some (.ref b) ∧ m (Str.ofString "geo") = some (.ref gx) ∧ m (Str.ofString "found") = some (.ref fd) ∧ m (Str.ofString "rows") = some (.ref rw') ∧ m (Str.ofString "depth") = some (.int depth td) ∧ m (Str.ofString "nodes") = some (.int nodes tn)
theorem rp_loop {prog : Program} {w : World} {A : Around} {E : Value → Shared → Prop} {s : Shared} {env : Env} {h₀ : Heap} {body : List Stmt} {Q : Flow → Shared → Prop}
    {r b c fd rw' gx : Addr} {t₀ u₀ v₀ td tn : Tok} {f depth nodes z k : Int} {m₀ : Str → Option Value} {own news : List (Addr × Obj)} {k0 k1 : Nat} {ob oc : Obj}
    (hh : A.handled = none) (hr : IsRange s.heap r 0 z 1 t₀ u₀ v₀) (z0 : 0 ≤ z) (z1 : z < 5) (F : Fr h₀ env.locals s.heap m₀) (N : News h₀ env.locals s.heap news)
    (e1 : (fd, W.listOf #[] k0) ∈ news) (e2 : (rw', W.listOf #[] k1) ∈ news) (e3 : (b, ob) ∈ news) (e4 : (c, oc) ∈ news) (e5 : ∀ p ∈ own, p ∈ news) (be : Belt w b c ob oc k) (off : OwnOff own [b, fd, rw'])
    (h0 : m₀ (Str.ofString "belt") = some (.ref b)) (h1 : m₀ (Str.ofString "geo") = some (.ref gx)) (h2 : m₀ (Str.ofString "found") = some (.ref fd)) (h3 : m₀ (Str.ofString "rows") = some (.ref rw')) (h4 : m₀ (Str.ofString "depth") = some (.int depth td)) (h5 : m₀ (Str.ofString "nodes") = some (.int nodes tn))
    (turn : ∀ (i : Nat) (t : Tok) (u : Str → Option Value) (h : Heap) (tk : Nat) (I : Addr) (oI ob : Obj) (k' : Int) (its : List It) (us : List Value) (ku kf : Nat) (own' : List (Addr × Obj)), i < 4 → @Ne Nat fd I → @Ne Nat rw' I → @Ne Nat b I → @Ne Nat c I → (∀ p ∈ own', p.1 ≠ I) →
      (∀ p ∈ own, p ∈ own') → OwnOff own' [b, fd, rw'] → StrsAre us (rowsT f depth nodes its) → its.length = i → us.length ≤ 4 → (∀ it ∈ its, ItOk f own' it) → Belt w b c ob oc k' → k' ≤ k + 15 * i →
      Fr h₀ env.locals h (fun y => if y = Str.ofString "place" then some (.int (0 + (i : Int)) t) else if y = Str.ofString "belt" then some (.ref b) else if y = Str.ofString "geo" then some (.ref gx) else if y = Str.ofString "found" then some (.ref fd) else if y = Str.ofString "rows" then some (.ref rw') else if y = Str.ofString "depth" then some (.int depth td) else if y = Str.ofString "nodes" then some (.int nodes tn) else u y) →
      News h₀ env.locals h ((I, oI) :: (fd, W.listOf (its.map fun it => Value.ref it.T).toArray kf) :: (rw', W.listOf us.toArray ku) :: (b, ob) :: (c, oc) :: own') →
      wpAny (model prog w) A (execs body env) (PostJ h₀ env.locals (JP w b c fd rw' gx oc own f depth nodes k td tn (i + 1)) I oI { s with heap := h, toks := tk } Q) E { s with heap := h, toks := tk })
    (done : ∀ (u : Str → Option Value) h tk (ob : Obj) (k' : Int) (its : List It) (us : List Value) (ku kf : Nat) (own' : List (Addr × Obj)), its.length ≤ 4 → (∀ p ∈ own, p ∈ own') → OwnOff own' [b, fd, rw'] → StrsAre us (rowsT f depth nodes its) → (∀ it ∈ its, ItOk f own' it) → Belt w b c ob oc k' → k' ≤ k + 60 →
      Fr h₀ env.locals h (fun y => if y = Str.ofString "belt" then some (.ref b) else if y = Str.ofString "geo" then some (.ref gx) else if y = Str.ofString "found" then some (.ref fd) else if y = Str.ofString "rows" then some (.ref rw') else if y = Str.ofString "depth" then some (.int depth td) else if y = Str.ofString "nodes" then some (.int nodes tn) else u y) →
      News h₀ env.locals h ((fd, W.listOf (its.map fun it => Value.ref it.T).toArray kf) :: (rw', W.listOf us.toArray ku) :: (b, ob) :: (c, oc) :: own') → Q .next { s with heap := h, toks := tk }) :
    wpAny (model prog w) A (pyIter (.ref r)) (fun it s₂ => LoopAtV prog w A h₀ env (Str.ofString "place") body Q E it s₂) E s := by
  obtain ⟨n, rfl⟩ := Int.eq_ofNat_of_zero_le z0
  refine iter_rangeJ (n := n) (nx₀ := (fd, W.listOf #[] k0) :: (rw', W.listOf #[] k1) :: (b, ob) :: (c, oc) :: own) (JP w b c fd rw' gx oc own f depth nodes k td tn) hh hr (small_one (by decide) (by decide) (by omega) (by omega)) (by rw [rangeSize_nat]; omega) F N ?_
    ⟨ob, k, [], [], k1, k0, own, rfl, fun _ hp => hp, off, .nil, rfl, (fun _ h => (nomatch h)), be, by omega, h0, h1, h2, h3, h4, h5⟩ ?_ ?_
  · intro p hp
    simp only [List.mem_cons] at hp
    rcases hp with rfl | rfl | rfl | rfl | hp
    · exact e1
    · exact e2
    · exact e3
    · exact e4
    · exact e5 p hp
  · rintro i t m₁ nx h tk I oI hi ho ⟨ob', k', its, us, ku, kf, own', rfl, a1, a2, a3, a4, a5, a6, a7, g0, g1, g2, g3, g4, g5⟩ F₁ N₁
    have hu : us.length ≤ 4 := by
      rw [strsAre_len a3]
      unfold rowsT
      rw [List.length_mapIdx]; omega
    refine turn i t m₁ h tk I oI ob' k' its us ku kf own' (by omega) (ho _ (.head _)) (ho _ (.tail _ (.head _))) (ho _ (.tail _ (.tail _ (.head _)))) (ho _ (.tail _ (.tail _ (.tail _ (.head _))))) (fun p hp => ho p (.tail _ (.tail _ (.tail _ (.tail _ hp))))) a1 a2 a3 a4 hu a5 a6 a7 ?_ N₁
    simp only [pin' g5, pin' g4, pin' g3, pin' g2, pin' g1, pin' g0]
    exact F₁
  · rintro m₁ nx h tk ⟨ob', k', its, us, ku, kf, own', rfl, a1, a2, a3, a4, a5, a6, a7, g0, g1, g2, g3, g4, g5⟩ F₁ N₁
    refine done m₁ h tk ob' k' its us ku kf own' (by omega) a1 a2 a3 a5 a6 (by omega) ?_ N₁
    simp only [pin' g5, pin' g4, pin' g3, pin' g2, pin' g1, pin' g0]
    exact F₁
theorem rp_loopW {prog : Program} {w : World} {A : Around} {E : Value → Shared → Prop} {s : Shared} {env : Env} {h₀ : Heap} {body : List Stmt} {Q : Flow → Shared → Prop}
    {r b c fd rw' gx : Addr} {t₀ u₀ v₀ td tn : Tok} {f depth nodes z k : Int} {m₀ : Str → Option Value} {own news : List (Addr × Obj)} {k0 k1 : Nat} {ob oc : Obj}
    (hh : A.handled = none) (hr : IsRange s.heap r 0 z 1 t₀ u₀ v₀) (z0 : 0 ≤ z) (z1 : z < 5) (F : Fr h₀ env.locals s.heap m₀) (N : News h₀ env.locals s.heap news)
    (e1 : (fd, W.listOf #[] k0) ∈ news) (e2 : (rw', W.listOf #[] k1) ∈ news) (e3 : (b, ob) ∈ news) (e4 : (c, oc) ∈ news) (e5 : ∀ p ∈ own, p ∈ news) (be : Belt w b c ob oc k) (off : OwnOff own [b, fd, rw'])
    (w1 : @Ne Nat fd rw') (w2 : @Ne Nat fd b) (w3 : @Ne Nat rw' b) (w4 : @Ne Nat fd c) (w5 : @Ne Nat rw' c) (h0 : m₀ (Str.ofString "belt") = some (.ref b)) (h1 : m₀ (Str.ofString "geo") = some (.ref gx)) (h2 : m₀ (Str.ofString "found") = some (.ref fd)) (h3 : m₀ (Str.ofString "rows") = some (.ref rw')) (h4 : m₀ (Str.ofString "depth") = some (.int depth td)) (h5 : m₀ (Str.ofString "nodes") = some (.int nodes tn))
    (turn : @Ne Nat fd rw' → @Ne Nat fd b → @Ne Nat rw' b → @Ne Nat fd c → @Ne Nat rw' c → ∀ (i : Nat) (t : Tok) (u : Str → Option Value) (h : Heap) (tk : Nat) (I : Addr) (oI ob : Obj) (k' : Int) (its : List It) (us : List Value) (ku kf : Nat) (own' : List (Addr × Obj)), i < 4 → @Ne Nat fd I → @Ne Nat rw' I → @Ne Nat b I → @Ne Nat c I → (∀ p ∈ own', p.1 ≠ I) →
      (∀ p ∈ own, p ∈ own') → OwnOff own' [b, fd, rw'] → StrsAre us (rowsT f depth nodes its) → its.length = i → us.length ≤ 4 → (∀ it ∈ its, ItOk f own' it) → Belt w b c ob oc k' → k' ≤ k + 15 * i →
      Fr h₀ env.locals h (fun y => if y = Str.ofString "place" then some (.int (0 + (i : Int)) t) else if y = Str.ofString "belt" then some (.ref b) else if y = Str.ofString "geo" then some (.ref gx) else if y = Str.ofString "found" then some (.ref fd) else if y = Str.ofString "rows" then some (.ref rw') else if y = Str.ofString "depth" then some (.int depth td) else if y = Str.ofString "nodes" then some (.int nodes tn) else u y) →
      News h₀ env.locals h ((I, oI) :: (fd, W.listOf (its.map fun it => Value.ref it.T).toArray kf) :: (rw', W.listOf us.toArray ku) :: (b, ob) :: (c, oc) :: own') →
      wpAny (model prog w) A (execs body env) (PostJ h₀ env.locals (JP w b c fd rw' gx oc own f depth nodes k td tn (i + 1)) I oI { s with heap := h, toks := tk } Q) E { s with heap := h, toks := tk })
    (done : ∀ (u : Str → Option Value) h tk (ob : Obj) (k' : Int) (its : List It) (us : List Value) (ku kf : Nat) (own' : List (Addr × Obj)), its.length ≤ 4 → (∀ p ∈ own, p ∈ own') → OwnOff own' [b, fd, rw'] → StrsAre us (rowsT f depth nodes its) → (∀ it ∈ its, ItOk f own' it) → Belt w b c ob oc k' → k' ≤ k + 60 →
      Fr h₀ env.locals h (fun y => if y = Str.ofString "belt" then some (.ref b) else if y = Str.ofString "geo" then some (.ref gx) else if y = Str.ofString "found" then some (.ref fd) else if y = Str.ofString "rows" then some (.ref rw') else if y = Str.ofString "depth" then some (.int depth td) else if y = Str.ofString "nodes" then some (.int nodes tn) else u y) →
      News h₀ env.locals h ((fd, W.listOf (its.map fun it => Value.ref it.T).toArray kf) :: (rw', W.listOf us.toArray ku) :: (b, ob) :: (c, oc) :: own') → Q .next { s with heap := h, toks := tk }) :
    wpAny (model prog w) A (pyIter (.ref r)) (fun it s₂ => LoopAtV prog w A h₀ env (Str.ofString "place") body Q E it s₂) E s :=
  rp_loop hh hr z0 z1 F N e1 e2 e3 e4 e5 be off h0 h1 h2 h3 h4 h5 (turn w1 w2 w3 w4 w5) done
theorem ItOk.mono {f : Int} {news news' : List (Addr × Obj)} {it : It} (h : ItOk f news it) (hs : ∀ p ∈ news, p ∈ news') : ItOk f news' it :=
  ⟨hs _ h.1, hs _ h.2.1, h.2.2⟩
theorem rp_end {w : World} {h₀ h' : Heap} {L b c fd rw' gx I T l : Addr} {m' : Str → Option Value} {own own' big : List (Addr × Obj)} {oc ob oI : Obj} {f depth nodes k k' x v : Int} {td tn tx tv t : Tok} {i tk kf ku km : Nat} {us vs : List Value} {ms : List Int} {its : List It} {yt : Str} {s₁ : Shared} {Q : Flow → Shared → Prop}
    (F : Fr h₀ L h' m') (N : News h₀ L h' big) (hn1 : @Ne Nat fd I) (hn2 : @Ne Nat rw' I) (hn3 : @Ne Nat b I) (hn4 : @Ne Nat c I) (hoI : ∀ p ∈ own', p.1 ≠ I)
    (T1 : @Ne Nat T I) (T2 : @Ne Nat T b) (T3 : @Ne Nat T fd) (T4 : @Ne Nat T rw') (l1 : @Ne Nat l I) (l2 : @Ne Nat l b) (l3 : @Ne Nat l fd) (l4 : @Ne Nat l rw')
    (e0 : (I, oI) ∈ big) (e1 : (fd, W.listOf ((its.map fun it => Value.ref it.T).toArray.push (.ref T)) kf) ∈ big) (e2 : (rw', W.listOf (us.toArray.push (.str yt t)) ku) ∈ big) (e3 : (b, ob) ∈ big) (e4 : (c, oc) ∈ big)
    (e5 : (T, ({ cls := .type "tuple", data := .seq #[.int x tx, .int v tv, .ref l] } : Obj)) ∈ big) (e6 : (l, W.listOf vs.toArray km) ∈ big) (e7 : ∀ p ∈ own', p ∈ big)
    (a1 : ∀ p ∈ own, p ∈ own') (a2 : OwnOff own' [b, fd, rw']) (a3 : StrsAre us (rowsT f depth nodes its)) (a4 : its.length = i) (a5 : ∀ it ∈ its, ItOk f own' it) (be : Belt w b c ob oc k') (a7 : k' ≤ k + 15 * ((i + 1 : Nat) : Int))
    (i1 : IntsAre vs ms) (i2 : ms.length ≤ 4) (i3 : ∀ x ∈ ms, MoveOk f x) (v1 : -32000 ≤ v) (v2 : v ≤ 32000)
    (h0 : m' (Str.ofString "belt") = some (.ref b)) (h1 : m' (Str.ofString "geo") = some (.ref gx)) (h2 : m' (Str.ofString "found") = some (.ref fd)) (h3 : m' (Str.ofString "rows") = some (.ref rw')) (h4 : m' (Str.ofString "depth") = some (.int depth td)) (h5 : m' (Str.ofString "nodes") = some (.int nodes tn))
    (ok : yt = Txt.join (Str.ofString " ") (rowW f (0 + (i : Int) + 1) depth v nodes ms)) :
    PostJ h₀ L (JP w b c fd rw' gx oc own f depth nodes k td tn (i + 1)) I oI s₁ Q .next { s₁ with heap := h', toks := tk } := by
  subst ok
  rw [List.push_toArray] at e1 e2
  refine ⟨h', tk, m', _, rfl, F, ?_, ?_, ob, k', its ++ [⟨T, l, x, v, tx, tv, vs, ms, km⟩], us ++ [Value.str (Txt.join (Str.ofString " ") (rowW f (0 + (i : Int) + 1) depth v nodes ms)) t], ku, kf,
    (T, ({ cls := .type "tuple", data := .seq #[.int x tx, .int v tv, .ref l] } : Obj)) :: (l, W.listOf vs.toArray km) :: own', rfl, fun p hp => .tail _ (.tail _ (a1 p hp)), ?_, ?_, by rw [List.length_append, a4]; rfl, ?_, be, a7, h0, h1, h2, h3, h4, h5⟩
  · intro p hp
    simp only [List.mem_cons] at hp
    rcases hp with rfl | rfl | rfl | rfl | rfl | rfl | rfl | hp
    · exact N _ e0
    · refine N _ ?_
      rw [List.map_append]; exact e1
    · exact N _ e2
    · exact N _ e3
    · exact N _ e4
    · exact N _ e5
    · exact N _ e6
    · exact N _ (e7 p hp)
  · intro p hp
    simp only [List.mem_cons] at hp
    rcases hp with rfl | rfl | rfl | rfl | rfl | rfl | hp
    · exact hn1
    · exact hn2
    · exact hn3
    · exact hn4
    · exact T1
    · exact l1
    · exact hoI p hp
  · intro p hp q hq
    rcases List.mem_cons.mp hp with rfl | hp
    · simp only [List.mem_cons, List.not_mem_nil, or_false] at hq
      rcases hq with rfl | rfl | rfl
      · exact T2
      · exact T3
      · exact T4
    rcases List.mem_cons.mp hp with rfl | hp
    · simp only [List.mem_cons, List.not_mem_nil, or_false] at hq
      rcases hq with rfl | rfl | rfl
      · exact l2
      · exact l3
      · exact l4
    · exact a2 p hp q hq
  · rw [rowsT_snoc, a4]
    exact strsAre_snoc a3
  · intro it hit
    rcases List.mem_append.mp hit with hit | hit
    · exact (a5 it hit).mono fun p hp => .tail _ (.tail _ hp)
    · rw [List.mem_singleton.mp hit]
      exact ⟨.head _, .tail _ (.head _), i1, i2, i3, v1, v2⟩
theorem ten8 : (10 : Int) ^ Int.toNat 8 = 100000000 := by decide
section
variable {M : Model} {A : Around} {E : Value → Shared → Prop} {s : Shared} {h₀ : Heap} {L : Addr} {news : List (Addr × Obj)} {m : Str → Option Value} {tree : Sem Flow} {Q : Flow → Shared → Prop} {f depth v nodes : Int} {t : Tok} {us : List Value} {ms : List Int}
theorem due_if (_F : Fr h₀ L s.heap m) (_N : News h₀ L s.heap news) (_hd : m (Str.ofString "due") = some (.str (dueHead depth v nodes) t)) (_hi : StrsAre us (ms.map (moveT f)))
    (h1 : wpAny M A tree (Meet1 h₀ L (Str.ofString "due") (Txt.join (Str.ofString " ") (repWords f depth v nodes ms)) m news s) E s)
    (h2 : ∀ h' tk t, Fr h₀ L h' (fun y => if y = Str.ofString "due" then some (.str (Txt.join (Str.ofString " ") (repWords f depth v nodes ms)) t) else m y) → News h₀ L h' news → Q .next { s with heap := h', toks := tk }) : wpAny M A tree Q E s :=
  meet1 _ _ h1 h2
end
theorem due_nil' {f depth v nodes : Int} {ms : List Int} (h : decide (ms.map (moveT f) = []) = true) : dueHead depth v nodes = Txt.join (Str.ofString " ") (repWords f depth v nodes ms) := due_nil (of_decide_eq_true h)
theorem due_cons' {f depth v nodes : Int} {ms : List Int} (h : decide (ms.map (moveT f) = []) = false) : dueHead depth v nodes ++ Str.ofString " pv " ++ Txt.join (Str.ofString " ") (ms.map (moveT f)) = Txt.join (Str.ofString " ") (repWords f depth v nodes ms) := due_cons (of_decide_eq_false h)
theorem ItOk.all {f : Int} {news news' : List (Addr × Obj)} {its : List It} (h : ∀ it ∈ its, ItOk f news it) (hs : ∀ p ∈ news, p ∈ news') : ∀ it ∈ its, ItOk f news' it := fun it hit => (h it hit).mono hs
section
variable {prog : Program} {w : World} {A : Around} {E : Value → Shared → Prop} {s : Shared} {h₀ : Heap} {L : Addr} {news : List (Addr × Obj)} {k k2 : Nat} {a b : Addr} {vs us : List Value} {ns : List Str} {Q : Value → Shared → Prop}
theorem eq_strsT (N : News h₀ L s.heap news) (ha : (a, W.listOf vs.toArray k) ∈ news) (hb : (b, W.listOf us.toArray k2) ∈ news) (hi : StrsAre vs ns) (hi' : StrsAre us ns) (hu : A.units + 64 < cLine) (o1 : ∀ y ∈ ns, SOk y)
    (h : Q (.bool true) s) : wpAny (model prog w) A (compareOp .Eq (.ref a) (.ref b)) Q E s :=
  eq_strsK N ha hb hi hi' hu o1 o1 (by rw [decide_eq_true rfl]; exact h)
end
section
variable {M : Model} {A : Around} {E : Value → Shared → Prop} {s : Shared} {h₀ : Heap} {L : Addr} {news : List (Addr × Obj)} {m : Str → Option Value}
def MeetV (h₀ : Heap) (L : Addr) (m : Str → Option Value) (news : List (Addr × Obj)) (s : Shared) (v : Value) (s' : Shared) : Prop :=
  ∃ x t h' tk, v = .int x t ∧ s' = { s with heap := h', toks := tk } ∧ Fr h₀ L h' m ∧ News h₀ L h' news
theorem meetV {tree : Sem Value} {Q : Value → Shared → Prop} (_F : Fr h₀ L s.heap m) (_N : News h₀ L s.heap news) (h1 : wpAny M A tree (MeetV h₀ L m news s) E s)
    (h2 : ∀ x t h' tk, Fr h₀ L h' m → News h₀ L h' news → Q (.int x t) { s with heap := h', toks := tk }) : wpAny M A tree Q E s := by
  refine wpAny_mono h1 (fun v s' h => ?_) fun _ _ e => e
  obtain ⟨x, t, h', tk, rfl, rfl, F, N⟩ := h
  exact h2 x t h' tk F N
theorem meetV_end {x : Int} {t tk : Nat} {h' : Heap} {big : List (Addr × Obj)} (F : Fr h₀ L h' m) (N : News h₀ L h' big) (hs : ∀ p ∈ news, p ∈ big) : MeetV h₀ L m news s (.int x t) { s with heap := h', toks := tk } :=
  ⟨x, t, h', tk, rfl, rfl, F, fun p hp => N p (hs p hp)⟩
end
section
variable {prog : Program} {w : World} {A : Around} {E : Value → Shared → Prop} {s : Shared} {h₀ : Heap} {L : Addr} {news : List (Addr × Obj)} {m : Str → Option Value} {k n2 : Nat} {l a b : Addr} {vs its us : List Value} {ns : List Int} {u : Tok} {value slice : Expr} {Q : Value → Shared → Prop}
theorem item_first (N : News h₀ L s.heap news) (hm : (l, W.listOf vs.toArray k) ∈ news) (hi : IntsAre vs ns) (hne : decide (ns = []) = false) (h : ∀ x t, Q (.int x t) s)
    (hs : subscripted slice false (.ref l) (.int 0 u) = operate [.ref l, .int 0 u] (getItem (.ref l) (.int 0 u)) := by with_unfolding_all rfl) (hg : ∀ r, letTemporaryGo value (.ref l) r = pure () := by intro _; with_unfolding_all rfl) :
    wpAny (model prog w) A (subscriptTail value slice (.ref l) (.int 0 u)) Q E s := by
  have hl : s.heap.IsList l vs.toArray := ⟨_, (N _ hm).1, rfl, _, rfl⟩
  cases hi with
  | nil => exact absurd hne (by simp)
  | cons x t r => exact item_list hl (by decide) (by decide) rfl (h x t) hs hg
theorem add_made {n : Nat} (F : Fr h₀ L s.heap m) (N : News h₀ L s.heap news) (ha : (a, W.listOf its.toArray n) ∈ news) (hb : (b, W.listOf us.toArray n2) ∈ news) (hz : its.length + us.length ≤ 100)
    (h : ∀ D h', Fr h₀ L h' m → News h₀ L h' ((D, W.listOf (its ++ us).toArray 0) :: news) → (∀ p ∈ news, p.1 < D) → Q (.ref D) { s with heap := h' }) :
    wpAny (model prog w) A (binaryOp .Add (.ref a) (.ref b)) Q E s := by
  have hl : s.heap.IsList a its.toArray := ⟨_, (N _ ha).1, rfl, _, rfl⟩
  have hl2 : s.heap.IsList b us.toArray := ⟨_, (N _ hb).1, rfl, _, rfl⟩
  refine add_lists (vs := its) (ws := us) F N hl hl2 (fun h' F' N' => h _ h' F' N' fun p hp => Heap.lt_size (N p hp).1) (hsz := ?_)
  rw [sizeLine_eq]; omega
end
section
variable {prog : Program} {w : World} {A : Around} {E : Value → Shared → Prop} {s : Shared} {h₀ : Heap} {L : Addr} {news : List (Addr × Obj)} {m : Str → Option Value} {n2 : Nat} {a b : Addr} {its us : List Value} {ns : List Int} {g : Int → Str} {Q : Value → Shared → Prop}
theorem add_row {n : Nat} (F : Fr h₀ L s.heap m) (N : News h₀ L s.heap news) (ha : (a, W.listOf its.toArray n) ∈ news) (hb : (b, W.listOf us.toArray n2) ∈ news) (hi : StrsAre us (ns.map g)) (hn : ns.length ≤ 4) (hz : its.length ≤ 20)
    (h : ∀ D h', Fr h₀ L h' m → News h₀ L h' ((D, W.listOf (its ++ us).toArray 0) :: news) → (∀ p ∈ news, p.1 < D) → Q (.ref D) { s with heap := h' }) :
    wpAny (model prog w) A (binaryOp .Add (.ref a) (.ref b)) Q E s :=
  add_made F N ha hb (by rw [strsAre_len hi, List.length_map]; omega) h
end
section
variable {prog : Program} {w : World} {A : Around} {E : Value → Shared → Prop} {s : Shared} {h₀ : Heap} {L l : Addr} {news : List (Addr × Obj)} {its us : List Value} {ms : List Int} {f place depth v nodes : Int} {k : Nat} {t : Tok} {Q : Value → Shared → Prop}
theorem join_row (N : News h₀ L s.heap news) (hm : (l, W.listOf (its ++ us).toArray k) ∈ news) (h1 : StrsAre its (rowHead place depth v nodes)) (h2 : StrsAre us (ms.map (moveT f))) (hn : ms.length ≤ 4)
    (p1 : 0 ≤ place) (p2 : place < 1000) (v1 : -32000 ≤ v) (v2 : v ≤ 32000) (d1 : 0 ≤ depth) (d2 : depth < 1000000000) (n1 : 0 ≤ nodes) (n2 : nodes < 1000000000)
    (h : ∀ t' k, Q (.str (Txt.join (Str.ofString " ") (rowW f place depth v nodes ms)) t') { s with toks := k }) :
    wpAny (model prog w) A (call (.builtin "str.join") [.str (Str.ofString " ") t, .ref l]) Q E s := by
  refine join_w N hm (ys := rowW f place depth v nodes ms) ?_ (rowW_len p1 p2 v1 v2 d1 d2 n1 n2) ?_ h
  · have := StrsAre.append' h1 h2
    simpa [rowW] using this
  · rw [rowW, List.length_append, List.length_map]
    exact Nat.add_le_add (Nat.le_of_ble_eq_true rfl : 10 ≤ 36) hn
end
end
section
section
set_option maxHeartbeats 4000000
theorem reports0 {w : World} {mean : ExcName → Option Value} {mg mb : Str → Option Value} {dp un : Nat} {gd : Option (List Code)} {cn : Str} {cs : Scope} {a : Addr} {ccd : Value} {cl : List (Str × Addr)} {outer : List Env} {A₀ : Around} {base h₀ : Heap} {L : Addr} {m : Str → Option Value} {own : List (Addr × Obj)} {s : Shared} {Q E : Value → Shared → Prop} {f k : Int} {gx gdx b c : Addr} {ob oc : Obj} {es : List DictEntry} {n : Nat} {tf : Nat}
    (B : Below A₀ base outer h₀) (F : Fr h₀ L s.heap m) (X : (ktop.heap_1 w.params).In h₀) (N : News h₀ L s.heap ((b, ob) :: (c, oc) :: own)) (T : Top vw (looseW vw loose) mean mg mb h₀) (hk : cs.kind = .function) (h1 : 3 ≤ f) (h2 : f ≤ 8) (hg : (gx, instObj 225 gdx) ∈ own) (hgd : (gdx, dictOf es n) ∈ own) (hfl : getL (Str.ofString "files") es = some (some (.int f tf)))
    (hoff : OwnOff own [b]) (hcb : c ≠ b) (hb : Belt w b c ob oc k) (hk1 : k ≤ 100) (hdp : dp + 30 < recursionLimit) (hun : un + 300 < cLine)
    (ret : ∀ o' k' h' tk', Fr h₀ L h' m → News h₀ L h' ((b, o') :: (c, oc) :: own) → Belt w b c o' oc k' → k' ≤ k + 100 → Q (.bool true) { s with heap := h', toks := tk' }) :
    wpAny (model PySem.Challenge.rw_pf0096_01.row.prog w) (ktrTop dp un gd cn cs L a ccd cl outer) (call (.ref 320) [.ref b, .ref gx]) Q E s := by
  k_with_none
  k_with "room0" => ((try simp only [depth_under_make, depth_under_kw, depth_in1, depth_deeper, depth_caller]); (try dsimp only [ktrTop]); (first | exact lq0 (by with_reducible assumption) | exact lq1 (by with_reducible assumption) (by rfl) | exact lq2 (by with_reducible assumption) (by rfl) | exact lq3 (by with_reducible assumption) (by rfl) | exact lq4 (by with_reducible assumption) (by rfl) | exact lq5 (by with_reducible assumption) (by rfl) | exact lq6 (by with_reducible assumption) (by rfl) | omega))
  k_with "units0" => ((try simp only [units_in1, units_deeper, Around.mark_units, units_caller]); (try dsimp only [ktrTop]); (first | exact lq0 (by with_reducible assumption) | exact lq1 (by with_reducible assumption) (by rfl) | exact lq2 (by with_reducible assumption) (by rfl) | exact lq3 (by with_reducible assumption) (by rfl) | exact lq4 (by with_reducible assumption) (by rfl) | exact lq5 (by with_reducible assumption) (by rfl) | exact lq6 (by with_reducible assumption) (by rfl) | omega))
  k_with "all0" => (first | assumption | exact allLt_ne (by assumption) | exact allLt_ne (And.right (by assumption)) | exact allLt_ne (And.right (And.right (by assumption))) | exact allLt_ne (And.right (And.right (And.right (by assumption)))) | exact allLt_ne (And.right (And.right (And.right (And.right (by assumption))))) | exact allLt_ne (And.right (And.right (And.right (And.right (And.right (by assumption)))))) | exact allLt_ne (And.right (And.right (And.right (And.right (And.right (And.right (by assumption))))))) | exact allLt_ne (And.right (And.right (And.right (And.right (And.right (And.right (And.right (by assumption)))))))) | exact allLt_ne (And.right (And.right (And.right (And.right (And.right (And.right (And.right (And.right (by assumption))))))))) | exact allLt_ne (And.right (And.right (And.right (And.right (And.right (And.right (And.right (And.right (And.right (by assumption)))))))))) | exact allLt_ne (And.right (And.right (And.right (And.right (And.right (And.right (And.right (And.right (And.right (And.right (by assumption))))))))))) | exact allLt_ne (And.right (And.right (And.right (And.right (And.right (And.right (And.right (And.right (And.right (And.right (And.right (by assumption)))))))))))) | exact allLt_ne (And.right (And.right (And.right (And.right (And.right (And.right (And.right (And.right (And.right (And.right (And.right (And.right (by assumption))))))))))))) | exact allLt_ne (And.right (And.right (And.right (And.right (And.right (And.right (And.right (And.right (And.right (And.right (And.right (And.right (And.right (by assumption)))))))))))))) | exact allLt_ne (And.right (And.right (And.right (And.right (And.right (And.right (And.right (And.right (And.right (And.right (And.right (And.right (And.right (And.right (by assumption))))))))))))))) | exact allLt_ne (And.right (And.right (And.right (And.right (And.right (And.right (And.right (And.right (And.right (And.right (And.right (And.right (And.right (And.right (And.right (by assumption)))))))))))))))) | exact allLt_ne (And.right (And.right (And.right (And.right (And.right (And.right (And.right (And.right (And.right (And.right (And.right (And.right (And.right (And.right (And.right (And.right (by assumption))))))))))))))))) | exact allLt_ne (And.right (And.right (And.right (And.right (And.right (And.right (And.right (And.right (And.right (And.right (And.right (And.right (And.right (And.right (And.right (And.right (And.right (by assumption)))))))))))))))))) | exact ltAll_ne (by assumption))
  k_with "cj" => (first | with_reducible exact And.left | (with_reducible refine cjR ?_; k_extra "cj"))
  k_with "ne0" => ((refine neN ?_; (try dsimp only); first | with_reducible assumption | exact Ne.symm (by with_reducible assumption) | exact Nat.ne_of_lt (by with_reducible assumption) | exact Nat.ne_of_gt (by with_reducible assumption) | exact neL (by with_reducible assumption) (by k_extra "cj") | exact neG (by with_reducible assumption) (by k_extra "cj") | exact neLT (by with_reducible assumption) (by with_reducible assumption) (by k_extra "cj") | exact neGT (by with_reducible assumption) (by with_reducible assumption) (by k_extra "cj")))
  k_with "steps0" => (repeat' (first | (k_unfold; (try dsimp only)) | (k_end; wrow_close) | (walk1; all_goals (try dsimp only)) | (dsimp only; walk1; all_goals (try dsimp only)) | (leave1; walk_say "STEP leave1"; try dsimp only) | fail "no step"))
  k_with "call ref" => ((k_here; (with_reducible show wpAny _ _ (call (Value.ref 299) _) _ _ _); k_dflt (refine' pickU ?B ?F ?X ?N ?T ?hk ?U ?be ?mc ?kb ?n0 ?n1 ?dp ?un ?_; (case B => k_asm); (case F => k_asm); (case X => k_asm); (case N => k_asm); (case T => k_asm); (case hk => first | exact rfl | assumption); (case U => k_updF); (case be => assumption); (case mc => k_mem); (case kb => omega); (case n0 => first | decide | omega); (case n1 => first | decide | omega); (case dp => k_room); (case un => k_units)); intro r'z t'z h'z tk'z o'z F'z N'z be'z lo'z hi'z; (try dsimp only at N'z); (try k_sweep)))
  k_with "call ref" => ((k_here; (with_reducible show wpAny _ _ (call (Value.ref 299) [_, Value.int (10 ^ _) _]) _ _ _); k_dflt (refine' pickU ?B ?F ?X ?N ?T ?hk ?U ?be ?mc ?kb ?n0 ?n1 ?dp ?un ?_; (case B => k_asm); (case F => k_asm); (case X => k_asm); (case N => k_asm); (case T => k_asm); (case hk => first | exact rfl | assumption); (case U => k_updF); (case be => assumption); (case mc => k_mem); (case kb => omega); (case n0 => decide); (case n1 => decide); (case dp => k_room); (case un => k_units)); intro r'z t'z h'z tk'z o'z F'z N'z be'z lo'z hi'z; (rw [ten8] at hi'z); (try dsimp only at N'z); (try k_sweep)))
  k_with "call ref" => ((k_here; (with_reducible show wpAny _ _ (call (Value.ref 306) _) _ _ _); k_dflt (refine' valueU ?B ?F ?X ?N ?T ?hk ?U ?be ?mc ?kb  ?dp ?un ?_; (case B => k_asm); (case F => k_asm); (case X => k_asm); (case N => k_asm); (case T => k_asm); (case hk => first | exact rfl | assumption); (case U => k_updF); (case be => assumption); (case mc => k_mem); (case kb => omega); (case dp => k_room); (case un => k_units)); intro D'z v'z t1'z t2'z o'z h'z tk'z F'z N'z be'z l1z v1'z v2'z; (try dsimp only at N'z); (try dsimp only at l1z); (try k_lt l1z); (try k_sweep)))
  k_with "call ref" => ((k_here; (with_reducible show wpAny _ _ (call (Value.ref 313) _) _ _ _); k_dflt (refine' lineU ?B ?F ?X ?N ?T ?hk ?U ?be ?mc ?kb ?q0 ?q1 ?dp ?un ?_; (case B => k_asm); (case F => k_asm); (case X => k_asm); (case N => k_asm); (case T => k_asm); (case hk => first | exact rfl | assumption); (case U => k_updF); (case be => assumption); (case mc => k_mem); (case kb => omega); (case q0 => omega); (case q1 => omega); (case dp => k_room); (case un => k_units)); intro R'z mv'z wd'z o'z k'z vs'z us'z ms'z km'z ku'z h'z tk'z F'z N'z be'z kk'z l1z l2z l3z i1'z i2'z i3'z i4'z; (try dsimp only at N'z); (try dsimp only at l1z); (try dsimp only at l2z); (try dsimp only at l3z); (try k_lt l1z); (try k_lt l2z); (try k_lt l3z); (try k_sweep)))
  k_with "call ref" => ((k_here; (with_reducible show wpAny _ _ (call (Value.ref 171) _) _ _ _); k_dflt (refine' report0 ?B ?F ?X ?N ?T ?hk ?p1 ?p2 ?p3 ?p4 ?p5 ?a1 ?a2 ?a3 ?a4 ?a5 ?a6 ?a7 ?i1 ?i2 ?i3 ?v1 ?v2 ?d1 ?d2 ?n1 ?n2 ?dp ?un ?_; (case B => k_asm); (case F => k_asm); (case X => k_asm); (case N => k_asm); (case T => k_asm); (case hk => first | exact rfl | assumption); (case p1 => assumption); (case p2 => assumption); (case p3 => k_mem); (case p4 => k_mem); (case p5 => assumption); (case a1 => k_mem); (case a2 => k_mem); (case a3 => k_mem); (case a4 => k_get); (case a5 => k_get); (case a6 => k_get); (case a7 => k_get); (case i1 => first | assumption | exact .nil); (case i2 => first | assumption | exact Nat.le_of_ble_eq_true rfl); (case i3 => first | assumption | (intro xz hxz; exact nomatch hxz)); (case v1 => omega); (case v2 => omega); (case d1 => omega); (case d2 => omega); (case n1 => omega); (case n2 => omega); (case dp => k_room); (case un => k_units)); intro t'z h'z tk'z F'z N'z; (try k_sweep)))
  k_with "call ref" => ((k_here; (with_reducible show wpAny _ _ (call (Value.ref 292) _) _ _ _); k_dflt (refine' lines0 ?B ?F ?X ?N ?T ?hk ?p1 ?p2 ?p3 ?p4 ?p5 ?a1 ?a2 ?a3 ?d1 ?d2 ?n1 ?n2 ?dp ?un ?_; (case B => k_asm); (case F => k_asm); (case X => k_asm); (case N => k_asm); (case T => k_asm); (case hk => first | exact rfl | assumption); (case p1 => assumption); (case p2 => assumption); (case p3 => k_mem); (case p4 => k_mem); (case p5 => assumption); (case a1 => k_mem); (case a2 => assumption); (case a3 => walk_at "itsok"); (case d1 => omega); (case d2 => omega); (case n1 => omega); (case n2 => omega); (case dp => k_room); (case un => k_units)); intro R'z us'z k'z h'z tk'z F'z N'z i2'z; (try k_sweep)))
  k_with "call type:range" => ((k_here; k_dflt (first
  | (refine' range1_rows ?F ?N ?_; (case F => k_asm); (case N => k_asm))
  | (refine' range2_rows ?F ?N ?_; (case F => k_asm); (case N => k_asm))); intro h'z tk'z t1'z t2'z t3'z hR'z F'z N'z hK'z))
  k_with "getAttr ref" => ((k_here; (with_reducible show wpAny _ _ (getAttr (Value.ref _) (PySem.Str.ofString "files") _) _ _ _); k_dflt (refine' get_own ?k1 ?k2 ?k3 ?k4 ?k5 ?k6 ?k7 ?k8 ?k9 ?_; (case k1 => k_asm); (case k2 => k_asm); (case k3 => k_inst); (case k4 => k_is); (case k5 => k_is); (case k6 => k_is); (case k7 => k_is); (case k8 => assumption); (case k9 => rfl); k_whole)))
  k_with "binaryOp Add str str" => ((k_here; (with_reducible show wpAny _ _ (binaryOp Operator.Add (Value.str _ _) (Value.str _ _)) _ _ _); (refine' add_at ?a ?b ?_; (case a => k_extra "len9"); (case b => k_extra "len9")); intro _ _))
  k_with "len9" => (exact Nat.le_trans (by k_extra "len8") (by decide +kernel))
  k_with "len8" => (first
  | ((with_reducible show PySem.Str.length (_ ++ _) ≤ _); exact app_add (by k_extra "len8") (by k_extra "len8"))
  | ((with_reducible refine tS_len' ?_); omega)
  | ((with_reducible show (PySem.Str.ofString _).length ≤ _); exact Nat.le_refl _)
  | (with_reducible exact promoL_len _)
  | (with_reducible exact sqT_le _ _)
  | (with_reducible exact item_le _ _)
  | (with_reducible exact moveT_len _ _)
  | ((with_reducible refine scoreT_len ?_ ?_); (focus omega); (focus omega))
  | ((with_reducible refine tS_len ?_); omega))
  k_with "len8" => (((with_reducible refine join_len _ ?_ ?_); (focus exact moves_len _ _); (focus rw [List.length_map]; assumption)))
  k_with "pyIter ref" => (((with_reducible show wpAny _ _ (pyIter _) (fun it s₂ => LoopAtV _ _ _ _ _ (Str.ofString "place") _ _ _ it s₂) _ _); refine Stop.mk' ?_))
  k_with "exec For Name Call cons nil" => (refine Stop.mk' ?_)
  k_with "exec If" => (((with_reducible show wpAny _ _ (exec (Stmt.If (Expr.Compare (Expr.Name (Str.ofString "words") _) _ _ _) _ _ _) _) _ _ _); (fail_if_success (with_reducible show wpAny _ _ _ (Meet1 _ _ _ _ _ _ _) _ _)); refine Stop.mk' ?_))
  k_with "compareOp NotEq ref ref" => ((k_here; (with_reducible show wpAny _ _ (compareOp CmpOp.NotEq (Value.ref _) (Value.ref _)) _ _ _); k_dflt (refine' ne_strsK (us := []) (ms := []) ?N ?a ?b ?i ?j ?u ?o1 ?o2 ?_; (case N => k_asm); (case a => k_mem); (case b => k_mem); (case i => assumption); (case j => exact .nil); (case u => k_units); (case o1 => exact ok_moves _ _); (case o2 => (intro yz hyz; exact (nomatch hyz))))))
  k_with "call builtin:str.join" => ((k_here; k_dflt (refine' join_w ?N ?m ?i ?b ?c ?_; (case N => k_asm); (case m => k_mem); (case i => assumption); (case b => exact fun y hy => Nat.le_trans (moves_len _ _ y hy) (by decide)); (case c => (rw [List.length_map]; omega))); intro _ _))
  k_with "mend1" => ((k_dflt (refine' meet_end ?F ?N ?hs ?hx ?hy ?e; (case F => k_asm); (case N => k_asm); (case hs => (intro pz hpz; first | (with_reducible exact hpz) | (with_reducible exact List.mem_cons_of_mem _ hpz))); (case hx => rfl); (case hy => (intro yz hy; first | (with_reducible rfl) | exact if_neg hy)); (case e => exact due_nil' (by with_reducible assumption)))))
  k_with "mend2" => ((k_dflt (refine' meet_end ?F ?N ?hs ?hx ?hy ?e; (case F => k_asm); (case N => k_asm); (case hs => (intro pz hpz; first | (with_reducible exact hpz) | (with_reducible exact List.mem_cons_of_mem _ hpz))); (case hx => rfl); (case hy => (intro yz hy; first | (with_reducible rfl) | exact if_neg hy)); (case e => exact due_cons' (by with_reducible assumption)))))
  k_with "itsok" => ((refine ItOk.all (by assumption) ?_; intro pz hpz; k_ownIn))
  k_with "compareOp Eq ref ref" => ((k_here; (with_reducible show wpAny _ _ (compareOp CmpOp.Eq (Value.ref _) (Value.ref _)) _ _ _); k_dflt (refine' eq_strsT ?N ?a ?b ?i ?j ?u ?o1 ?_; (case N => k_asm); (case a => k_mem); (case b => k_mem); (case i => assumption); (case j => assumption); (case u => k_units); (case o1 => exact ok_rowsT _ _ _ _))))
  k_with "eval IfExp" => (((fail_if_success (with_reducible show wpAny _ _ _ (MeetV _ _ _ _ _) _ _)); k_here; k_dflt (refine' meetV ?F ?N ?g1 ?g2; (case F => k_asm); (case N => k_asm)); (case' g2 => (intro x'z t'z h'z tk'z F'z N'z; (try dsimp only)))))
  k_with "vend" => ((k_dflt (refine' meetV_end ?F ?N ?hs; (case F => k_asm); (case N => k_asm); (case hs => (intro pz hpz; first | (with_reducible exact hpz) | (with_reducible exact List.mem_cons_of_mem _ hpz))))))
  k_with "call builtin:str.join" => ((k_here; k_dflt (refine' join_row ?N ?m ?h1 ?h2 ?hn ?p1 ?p2 ?v1 ?v2 ?d1 ?d2 ?n1 ?n2 ?_; (case N => k_asm); (case m => k_mem); (case h1 => kct_strs); (case h2 => assumption); (case hn => assumption); (case p1 => omega); (case p2 => omega); (case v1 => assumption); (case v2 => assumption); (case d1 => assumption); (case d2 => omega); (case n1 => assumption); (case n2 => omega)); intro _ _))
  k_with "pend" => ((k_dflt (refine' rp_end ?F ?N ?hn1 ?hn2 ?hn3 ?hn4 ?hoI ?T1 ?T2 ?T3 ?T4 ?l1 ?l2 ?l3 ?l4 ?e0 ?e1 ?e2 ?e3 ?e4 ?e5 ?e6 ?e7 ?a1 ?a2 ?a3 ?a4 ?a5 ?be ?a7 ?i1 ?i2 ?i3 ?v1 ?v2 ?h0 ?h1 ?h2 ?h3 ?h4 ?h5 ?ok; (case F => k_asm); (case N => k_asm); (case hn1 => assumption); (case hn2 => assumption); (case hn3 => assumption); (case hn4 => assumption); (case hoI => assumption); (case e0 => k_mem); (case e1 => k_mem); (case e2 => k_mem); (case e3 => k_mem); (case e4 => k_mem); (case e5 => k_mem); (case e6 => k_mem); (case e7 => intro pz hpz; k_ownIn); (case T1 => k_ne); (case T2 => k_ne); (case T3 => k_ne); (case T4 => k_ne); (case l1 => k_ne); (case l2 => k_ne); (case l3 => k_ne); (case l4 => k_ne); (case a1 => assumption); (case a2 => assumption); (case a3 => assumption); (case a4 => assumption); (case a5 => assumption); (case be => assumption); (case a7 => omega); (case i1 => assumption); (case i2 => assumption); (case i3 => assumption); (case v1 => assumption); (case v2 => assumption); (case h0 => rfl); (case h1 => rfl); (case h2 => rfl); (case h3 => rfl); (case h4 => rfl); (case h5 => rfl); (case ok => rfl))))
  k_with "subscriptTail" => ((k_here; (with_reducible show wpAny _ _ (subscriptTail _ _ (Value.ref _) (Value.int 0 _)) _ _ _); k_dflt (refine' item_first ?N ?m ?i ?d ?_; (case N => k_asm); (case m => k_mem); (case i => assumption); (case d => with_reducible assumption)); intro _ _))
  k_with "binaryOp Add ref ref" => ((k_here; (with_reducible show wpAny _ _ (binaryOp Operator.Add (Value.ref _) (Value.ref _)) _ _ _); k_dflt (refine' add_row (its := [_, _, _, _, _, _, _, _, _, _]) ?F ?N ?a ?b ?i ?n ?z ?_; (case F => k_asm); (case N => k_asm); (case a => k_mem); (case b => k_mem); (case i => assumption); (case n => assumption); (case z => exact Nat.le_of_ble_eq_true rfl)); intro D'z h'z F'z N'z l1z; (try k_lt l1z); (try k_sweep)))
  k_with "addlen" => ((simp only [List.length_cons, List.length_nil]; omega))
  revert X; k_fill; intro X
  refine wpAny_call ?_
  k_dflt ktr_enter
  k_steps
  unfold Stop
  k_dflt (refine' due_if ?F1 ?N1 ?hd1 ?hi1 ?g1 ?g2; (case F1 => k_asm); (case N1 => k_asm); (case hd1 => rfl); (case hi1 => assumption))
  (case g1 =>
    k_steps
    · walk_at "mend1"
    · walk_at "mend2")
  (case g2 =>
    intro h' tk' t' F' N'
    (try dsimp only at F')
    (try dsimp only)
    (try k_fold)
    k_steps
    · exact absurd (show (_ != _) = true from by assumption) (by simp)
    unfold Stop
    k_dflt (refine' For_invVF ?FA rfl rfl ?_; (case FA => k_asm))
    k_steps
    unfold Stop
    k_dflt (refine' rp_loopW (f := f) (own := own) ?hh2 ?hr2 ?z02 ?z12 ?F2 ?N2 ?e12 ?e22 ?e32 ?e42 ?e52 ?be2 ?off2 ?w12 ?w22 ?w32 ?w42 ?w52 ?h02 ?h12 ?h22 ?h32 ?h42 ?h52 ?turn2 ?done2)
    (case hh2 => exact rfl)
    (case hr2 => assumption)
    (case z02 => assumption)
    (case z12 => assumption)
    (case F2 => k_asm)
    (case N2 => k_asm)
    (case h02 => rfl)
    (case h12 => rfl)
    (case h22 => rfl)
    (case h32 => rfl)
    (case h42 => rfl)
    (case h52 => rfl)
    (case be2 => assumption)
    (case e12 => k_mem)
    (case e22 => k_mem)
    (case e32 => k_mem)
    (case e42 => k_mem)
    (case e52 => (intro p hp; k_ownIn))
    (case w12 => k_ne)
    (case w22 => k_ne)
    (case w32 => k_ne)
    (case w42 => k_ne)
    (case w52 => k_ne)
    (case off2 =>
      intro p hp q hq
      simp only [List.mem_cons, List.not_mem_nil, or_false] at hq
      rcases hq with rfl | rfl | rfl
      · exact hoff p hp _ (.head _)
      · revert p; k_all
      · revert p; k_all)
    (case turn2 =>
      intro w1 w2 w3 w4 w5 i' t' u' h' tk' I' oI' ob' k' its' us' ku' kf' own' hi' hn1' hn2' hn3' hn4' hoI' a1' a2' a3' a4' a5' a6' a7' a8' F' N'
      have hg2 := a1' _ hg
      have hgd2 := a1' _ hgd
      (try (dsimp only at F' N'))
      (try dsimp only)
      (try k_fold)
      k_steps
      · walk_at "pend"
      · walk_at "vend"
      · walk_at "vend")
    (case done2 =>
      intro u' h' tk' ob' k' its' us' ku' kf' own' a1' a2' a3' a4' a5' a6' a7' F' N'
      have hg2 := a2' _ hg
      have hgd2 := a2' _ hgd
      (try (dsimp only at F' N'))
      (try dsimp only)
      (try k_fold)
      k_steps
      refine ret ob' k' _ _ (by assumption) (fun p hp => ?_) (by assumption) (by omega)
      have N9 := (show News h₀ L _ (_ :: _ :: _ :: (b, ob') :: (c, oc) :: own') from by assumption)
      rcases List.mem_cons.mp hp with rfl | hp
      · exact N9 _ (.tail _ (.tail _ (.tail _ (.head _))))
      rcases List.mem_cons.mp hp with rfl | hp
      · exact N9 _ (.tail _ (.tail _ (.tail _ (.tail _ (.head _)))))
      · exact N9 _ (.tail _ (.tail _ (.tail _ (.tail _ (.tail _ (a2' p hp))))))))
end
end
section
noncomputable def pinF (ps : List (Str × Value)) (u : Str → Option Value) (y : Str) : Option Value := ps.foldr (fun p r => if y = p.1 then some p.2 else r) (u y)
theorem pinF_eq {m : Str → Option Value} : ∀ {ps : List (Str × Value)}, (∀ p ∈ ps, m p.1 = some p.2) → ∀ y, pinF ps m y = m y
  | [], _, _ => rfl
  | p :: r, h, y => by
    show (if y = p.1 then some p.2 else pinF r m y) = m y
    split
    · rename_i e; rw [e, h p (.head _)]
    · exact pinF_eq (fun q hq => h q (.tail _ hq)) y
def JG (cs : List (Str × Value)) (vs : Nat → Tok → List (Str × Value)) (S : Nat → List (Addr × Obj) → Prop) (i : Nat) (m : Str → Option Value) (nx : List (Addr × Obj)) : Prop :=
  (∀ p ∈ cs, m p.1 = some p.2) ∧ (∃ t, ∀ p ∈ vs i t, m p.1 = some p.2) ∧ S i nx
section
variable {prog : Program} {w : World} {A : Around} {E : Value → Shared → Prop} {s : Shared} {env : Env} {h₀ : Heap} {x : Str} {body : List Stmt} {Q : Flow → Shared → Prop}
theorem iter_rangeS {r : Addr} {a₀ b₀ c₀ : Int} {t₀ u₀ v₀ : Tok} {n : Nat} {m₀ : Str → Option Value} {news nx₀ : List (Addr × Obj)}
    (J : Nat → (Str → Option Value) → List (Addr × Obj) → Prop)
    (hh : A.handled = none) (hr : IsRange s.heap r a₀ b₀ c₀ t₀ u₀ v₀) (hsmall : Builtin.Range.small a₀ b₀ c₀ = true) (hn : Builtin.Range.rangeSize a₀ b₀ c₀ = (n : Int)) (F : Fr h₀ env.locals s.heap m₀) (N : News h₀ env.locals s.heap news) (hsub : ∀ p ∈ nx₀, p ∈ news) (hJ : J 0 m₀ nx₀)
    (turn : ∀ i t m₁ nx h tk I oI, i < n → (∀ p ∈ nx, p.1 ≠ I) → J i m₁ nx → Fr h₀ env.locals h (fun y => if y = x then some (.int (a₀ + (i : Int) * c₀) t) else m₁ y) → News h₀ env.locals h ((I, oI) :: nx) →
      wpAny (model prog w) A (execs body env) (PostJ h₀ env.locals (J (i + 1)) I oI { s with heap := h, toks := tk } Q) E { s with heap := h, toks := tk })
    (done : ∀ m₁ nx h tk, J n m₁ nx → Fr h₀ env.locals h m₁ → News h₀ env.locals h nx → Q .next { s with heap := h, toks := tk }) :
    wpAny (model prog w) A (pyIter (.ref r)) (fun it s₂ => LoopAtV prog w A h₀ env x body Q E it s₂) E s := by
  refine wpAny_pyIter_range hr hsmall ?_
  have W : Walks prog w A s.heap.objs.size [s.heap.objs.size] [s.heap.objs.size] n (fun i v => i < n ∧ ∃ t, v = .int (a₀ + i * c₀) t)
      (fun i h => IsRangeIter h s.heap.objs.size (a₀ + (i : Nat) * c₀) ((n : Int) - (i : Nat)) c₀) := (Walks.range hh _ a₀ c₀ n).bound
  refine loopJ J W ?_ (next_is_new F) (fun i h hi => ⟨_, hi⟩) (fun b hb hne => absurd (List.mem_singleton.mp hb) hne) ?_ (by show IsRangeIter _ _ _ _ _; rw [hn]; simpa using Heap.get?_push_size _ rfl) (F.push _) (fun p hp => ⟨Heap.get?_push_of_some _ (N p (hsub p hp)).1, (N p (hsub p hp)).2⟩) hJ ?_ ?_
  · intro hm
    exact absurd F.ns.lt ((List.mem_singleton.mp hm) ▸ Nat.lt_irrefl _)
  · intro p hp hI
    exact absurd (Heap.lt_size (N p (hsub p hp)).1) (hI ▸ Nat.lt_irrefl _)
  · rintro i v m₁ nx h tk oI hin ⟨_, t, rfl⟩ ho hJ F₁ N₁
    exact turn i t m₁ nx h tk _ oI hin ho hJ F₁ N₁
  · exact done
theorem range_pins {r : Addr} {a₀ b₀ c₀ : Int} {t₀ u₀ v₀ tp ta tb tc td : Tok} (n : Nat) {m₀ : Str → Option Value} {news nx₀ : List (Addr × Obj)} (cs : Tok → Tok → Tok → Tok → List (Str × Value)) (vs : Nat → Tok → List (Str × Value)) (S : Nat → List (Addr × Obj) → Prop)
    (hh : A.handled = none) (hr : IsRange s.heap r a₀ b₀ c₀ t₀ u₀ v₀) (hsmall : Builtin.Range.small a₀ b₀ c₀ = true) (hn : Builtin.Range.rangeSize a₀ b₀ c₀ = (n : Int)) (F : Fr h₀ env.locals s.heap m₀) (N : News h₀ env.locals s.heap news) (hsub : ∀ p ∈ nx₀, p ∈ news) (hc : ∀ p ∈ cs ta tb tc td, m₀ p.1 = some p.2) (hv : ∀ p ∈ vs 0 tp, m₀ p.1 = some p.2) (hS : S 0 nx₀)
    (turn : ∀ i t tp (u : Str → Option Value) nx h tk I oI, i < n → (∀ p ∈ nx, p.1 ≠ I) → S i nx → Fr h₀ env.locals h (fun y => if y = x then some (.int (a₀ + (i : Int) * c₀) t) else pinF (vs i tp) (pinF (cs ta tb tc td) u) y) → News h₀ env.locals h ((I, oI) :: nx) →
      wpAny (model prog w) A (execs body env) (PostJ h₀ env.locals (JG (cs ta tb tc td) vs S (i + 1)) I oI { s with heap := h, toks := tk } Q) E { s with heap := h, toks := tk })
    (done : ∀ tp (u : Str → Option Value) nx h tk, S n nx → Fr h₀ env.locals h (fun y => pinF (vs n tp) (pinF (cs ta tb tc td) u) y) → News h₀ env.locals h nx → Q .next { s with heap := h, toks := tk }) :
    wpAny (model prog w) A (pyIter (.ref r)) (fun it s₂ => LoopAtV prog w A h₀ env x body Q E it s₂) E s := by
  have eq : ∀ {m : Str → Option Value} {i : Nat} {t : Tok}, (∀ p ∈ cs ta tb tc td, m p.1 = some p.2) → (∀ p ∈ vs i t, m p.1 = some p.2) → ∀ y, pinF (vs i t) (pinF (cs ta tb tc td) m) y = m y := fun {m i t} h1 h2 y => by
    have e : pinF (cs ta tb tc td) m = m := funext (pinF_eq h1)
    rw [e, pinF_eq h2]
  refine iter_rangeS (n := n) (JG (cs ta tb tc td) vs S) hh hr hsmall hn F N hsub ⟨hc, ⟨tp, hv⟩, hS⟩ ?_ ?_
  · rintro i t m₁ nx h tk I oI hi ho ⟨hc, ⟨tp, hp⟩, hS⟩ F₁ N₁
    have e : (fun y => if y = x then some (Value.int (a₀ + (i : Int) * c₀) t) else m₁ y) = fun y => if y = x then some (.int (a₀ + (i : Int) * c₀) t) else pinF (vs i tp) (pinF (cs ta tb tc td) m₁) y := by
      funext y; rw [eq hc hp]
    rw [e] at F₁
    exact turn i t tp m₁ nx h tk I oI hi ho hS F₁ N₁
  · rintro m₁ nx h tk ⟨hc, ⟨tp, hp⟩, hS⟩ F₁ N₁
    have e : m₁ = fun y => pinF (vs n tp) (pinF (cs ta tb tc td) m₁) y := by
      funext y; rw [eq hc hp]
    rw [e] at F₁
    exact done tp m₁ nx h tk hS F₁ N₁
end
theorem pins_end {cs : List (Str × Value)} {vs : Nat → Tok → List (Str × Value)} {S : Nat → List (Addr × Obj) → Prop} {h₀ h' : Heap} {L I : Addr} {m' : Str → Option Value} {big : List (Addr × Obj)} {oI : Obj} {i tk : Nat} {tp : Tok} {s₁ : Shared} {Q : Flow → Shared → Prop} (nx : List (Addr × Obj))
    (F : Fr h₀ L h' m') (N : News h₀ L h' big) (e0 : (I, oI) ∈ big) (e1 : ∀ p ∈ nx, p ∈ big) (hne : ∀ p ∈ nx, p.1 ≠ I) (hc : ∀ p ∈ cs, m' p.1 = some p.2) (hp : ∀ p ∈ vs (i + 1) tp, m' p.1 = some p.2) (hS : S (i + 1) nx) :
    PostJ h₀ L (JG cs vs S (i + 1)) I oI s₁ Q .next { s₁ with heap := h', toks := tk } :=
  ⟨h', tk, m', nx, rfl, F, fun p hp => (List.mem_cons.mp hp).elim (fun e => e ▸ N _ e0) fun h => N p (e1 p h), hne, hc, ⟨tp, hp⟩, hS⟩
/-- a list of ints at wl in the ledger -/
def SInts (wl : Addr) (own : List (Addr × Obj)) (g : Nat → List Int) (i : Nat) (nx : List (Addr × Obj)) : Prop :=
  ∃ us k, nx = (wl, W.listOf us.toArray k) :: own ∧ IntsAre us (g i)
theorem sints_end {wl I : Addr} {own big : List (Addr × Obj)} {g : Nat → List Int} {cs : List (Str × Value)} {vs : Nat → Tok → List (Str × Value)} {h₀ h' : Heap} {L : Addr} {m' : Str → Option Value} {oI : Obj} {i tk k : Nat} {us : List Value} {y : Int} {t tp : Tok} {s₁ : Shared} {Q : Flow → Shared → Prop}
    (F : Fr h₀ L h' m') (N : News h₀ L h' big) (e0 : (I, oI) ∈ big) (e1 : (wl, W.listOf (us.toArray.push (.int y t)) k) ∈ big) (e2 : ∀ p ∈ own, p ∈ big) (h1 : @Ne Nat wl I) (h2 : ∀ p ∈ own, p.1 ≠ I) (hus : IntsAre us (g i)) (hg : g (i + 1) = g i ++ [y])
    (hc : ∀ p ∈ cs, m' p.1 = some p.2) (hp : ∀ p ∈ vs (i + 1) tp, m' p.1 = some p.2) :
    PostJ h₀ L (JG cs vs (SInts wl own g) (i + 1)) I oI s₁ Q .next { s₁ with heap := h', toks := tk } := by
  rw [List.push_toArray] at e1
  refine pins_end ((wl, W.listOf (us ++ [Value.int y t]).toArray k) :: own) F N e0 ?_ ?_ hc hp ⟨us ++ [Value.int y t], k, rfl, by rw [hg]; exact intsAre_snoc hus⟩
  · intro p hp
    rcases List.mem_cons.mp hp with rfl | hp
    · exact e1
    · exact e2 p hp
  · intro p hp
    rcases List.mem_cons.mp hp with rfl | hp
    · exact h1
    · exact h2 p hp
theorem mem_swap {α : Type} {a b p : α} {l : List α} (h : p ∈ a :: b :: l) : p ∈ b :: a :: l := by
  simp only [List.mem_cons] at h ⊢
  rcases h with h | h | h
  · exact .inr (.inl h)
  · exact .inl h
  · exact .inr (.inr h)
end
section
noncomputable def rowM (f : Int) : Int := 1 * 2 ^ f.toNat - 1
noncomputable def rm1 (f r : Int) : Int := rowM f * 2 ^ (r * f).toNat
noncomputable def colM (f : Int) : Nat → Int
  | 0 => 0
  | i + 1 => Builtin.bitOr (colM f i) (1 * 2 ^ ((0 + (i : Int) * 1) * f).toNat)
noncomputable def fm1 (f r : Int) : Int := colM f 4 * 2 ^ r.toNat
noncomputable def rmT (f : Int) (i : Nat) : List Int := (List.range i).map fun (j : Nat) => rm1 f (0 + (j : Int) * 1)
noncomputable def fmT (f : Int) (i : Nat) : List Int := (List.range i).map fun (j : Nat) => fm1 f (0 + (j : Int) * 1)
theorem cases6 {f : Int} (h1 : 3 ≤ f) (h2 : f ≤ 8) {P : Int → Prop} (h3 : P 3) (h4 : P 4) (h5 : P 5) (h6 : P 6) (h7 : P 7) (h8 : P 8) : P f := by
  have c : f = 3 ∨ f = 4 ∨ f = 5 ∨ f = 6 ∨ f = 7 ∨ f = 8 := by omega
  rcases c with rfl | rfl | rfl | rfl | rfl | rfl <;> assumption
theorem rowM_lt {f : Int} (h1 : 3 ≤ f) (h2 : f ≤ 8) : (rowM f).natAbs < 2 ^ 64 :=
  cases6 h1 h2 (P := fun f => (rowM f).natAbs < 2 ^ 64) (by decide) (by decide) (by decide) (by decide) (by decide) (by decide)
theorem colM_lt {f : Int} (h1 : 3 ≤ f) (h2 : f ≤ 8) : (colM f 4).natAbs < 2 ^ 64 :=
  cases6 h1 h2 (P := fun f => (colM f 4).natAbs < 2 ^ 64) (by decide +kernel) (by decide +kernel) (by decide +kernel) (by decide +kernel) (by decide +kernel) (by decide +kernel)
theorem range_snoc {g : Nat → Int} {i : Nat} : (List.range (i + 1)).map g = (List.range i).map g ++ [g i] := by
  rw [List.range_succ, List.map_append]; rfl
theorem small_f {f : Int} (h1 : 0 ≤ f) (h2 : f ≤ 100) : Builtin.Range.small 0 f 1 = true := small_one (by decide) (by decide) (by omega) (by omega)
theorem size_f {f : Int} (h1 : 0 ≤ f) : Builtin.Range.rangeSize 0 f 1 = (f.toNat : Int) := by
  obtain ⟨n, rfl⟩ := Int.eq_ofNat_of_zero_le h1
  rw [rangeSize_nat, Int.toNat_natCast]; omega
section
set_option maxHeartbeats 4000000
theorem masks0 {w : World} {mean : ExcName → Option Value} {mg mb : Str → Option Value} {dp un : Nat} {gd : Option (List Code)} {cn : Str} {cs : Scope} {a : Addr} {ccd : Value} {cl : List (Str × Addr)} {outer : List Env} {A₀ : Around} {base h₀ : Heap} {L : Addr} {m : Str → Option Value} {news r1 own : List (Addr × Obj)} {s : Shared} {Q E : Value → Shared → Prop} {f : Int} {gx gdx fm rm : Addr} {es : List DictEntry} {n k1 k2 : Nat} {t1 t2 : Nat}
    (B : Below A₀ base outer h₀) (F : Fr h₀ L s.heap m) (X : (ktop.heap_1 w.params).In h₀) (N : News h₀ L s.heap news) (T : Top vw (looseW vw loose) mean mg mb h₀) (hk : cs.kind = .function) (h1 : 3 ≤ f) (h2 : f ≤ 8) (D1 : Del rm (W.listOf #[] k1) news r1) (D2 : Del fm (W.listOf #[] k2) r1 own)
    (hg : (gx, instObj 225 gdx) ∈ own) (hgd : (gdx, dictOf es n) ∈ own) (a1 : getL (Str.ofString "files") es = some (some (.int f t1))) (a2 : getL (Str.ofString "ranks") es = some (some (.int 4 t2))) (a3 : getL (Str.ofString "file_masks") es = some (some (.ref fm))) (a4 : getL (Str.ofString "rank_masks") es = some (some (.ref rm)))
    (hdp : dp + 5 < recursionLimit) (hun : un + 60 < cLine)
    (ret : ∀ us vs k k' h' tk', Fr h₀ L h' m → News h₀ L h' ((rm, W.listOf us.toArray k) :: (fm, W.listOf vs.toArray k') :: own) → IntsAre us (rmT f 4) → IntsAre vs (fmT f f.toNat) → Q .none { s with heap := h', toks := tk' }) :
    wpAny (model PySem.Challenge.rw_pf0096_01.row.prog w) (ktrTop dp un gd cn cs L a ccd cl outer) (call (.ref 243) [.ref gx]) Q E s := by
  k_with_none
  k_with "room0" => ((try simp only [depth_under_make, depth_under_kw, depth_in1, depth_deeper, depth_caller]); (try dsimp only [ktrTop]); (first | exact lq0 (by with_reducible assumption) | exact lq1 (by with_reducible assumption) (by rfl) | exact lq2 (by with_reducible assumption) (by rfl) | exact lq3 (by with_reducible assumption) (by rfl) | exact lq4 (by with_reducible assumption) (by rfl) | exact lq5 (by with_reducible assumption) (by rfl) | exact lq6 (by with_reducible assumption) (by rfl) | omega))
  k_with "units0" => ((try simp only [units_in1, units_deeper, Around.mark_units, units_caller]); (try dsimp only [ktrTop]); (first | exact lq0 (by with_reducible assumption) | exact lq1 (by with_reducible assumption) (by rfl) | exact lq2 (by with_reducible assumption) (by rfl) | exact lq3 (by with_reducible assumption) (by rfl) | exact lq4 (by with_reducible assumption) (by rfl) | exact lq5 (by with_reducible assumption) (by rfl) | exact lq6 (by with_reducible assumption) (by rfl) | omega))
  k_with "all0" => (first | assumption | exact allLt_ne (by assumption) | exact allLt_ne (And.right (by assumption)) | exact allLt_ne (And.right (And.right (by assumption))) | exact allLt_ne (And.right (And.right (And.right (by assumption)))) | exact allLt_ne (And.right (And.right (And.right (And.right (by assumption))))) | exact allLt_ne (And.right (And.right (And.right (And.right (And.right (by assumption)))))) | exact allLt_ne (And.right (And.right (And.right (And.right (And.right (And.right (by assumption))))))) | exact allLt_ne (And.right (And.right (And.right (And.right (And.right (And.right (And.right (by assumption)))))))) | exact allLt_ne (And.right (And.right (And.right (And.right (And.right (And.right (And.right (And.right (by assumption))))))))) | exact allLt_ne (And.right (And.right (And.right (And.right (And.right (And.right (And.right (And.right (And.right (by assumption)))))))))) | exact allLt_ne (And.right (And.right (And.right (And.right (And.right (And.right (And.right (And.right (And.right (And.right (by assumption))))))))))) | exact allLt_ne (And.right (And.right (And.right (And.right (And.right (And.right (And.right (And.right (And.right (And.right (And.right (by assumption)))))))))))) | exact allLt_ne (And.right (And.right (And.right (And.right (And.right (And.right (And.right (And.right (And.right (And.right (And.right (And.right (by assumption))))))))))))) | exact allLt_ne (And.right (And.right (And.right (And.right (And.right (And.right (And.right (And.right (And.right (And.right (And.right (And.right (And.right (by assumption)))))))))))))) | exact allLt_ne (And.right (And.right (And.right (And.right (And.right (And.right (And.right (And.right (And.right (And.right (And.right (And.right (And.right (And.right (by assumption))))))))))))))) | exact allLt_ne (And.right (And.right (And.right (And.right (And.right (And.right (And.right (And.right (And.right (And.right (And.right (And.right (And.right (And.right (And.right (by assumption)))))))))))))))) | exact allLt_ne (And.right (And.right (And.right (And.right (And.right (And.right (And.right (And.right (And.right (And.right (And.right (And.right (And.right (And.right (And.right (And.right (by assumption))))))))))))))))) | exact allLt_ne (And.right (And.right (And.right (And.right (And.right (And.right (And.right (And.right (And.right (And.right (And.right (And.right (And.right (And.right (And.right (And.right (And.right (by assumption)))))))))))))))))) | exact ltAll_ne (by assumption))
  k_with "cj" => (first | with_reducible exact And.left | (with_reducible refine cjR ?_; k_extra "cj"))
  k_with "ne0" => ((refine neN ?_; (try dsimp only); first | with_reducible assumption | exact Ne.symm (by with_reducible assumption) | exact Nat.ne_of_lt (by with_reducible assumption) | exact Nat.ne_of_gt (by with_reducible assumption) | exact neL (by with_reducible assumption) (by k_extra "cj") | exact neG (by with_reducible assumption) (by k_extra "cj") | exact neLT (by with_reducible assumption) (by with_reducible assumption) (by k_extra "cj") | exact neGT (by with_reducible assumption) (by with_reducible assumption) (by k_extra "cj")))
  k_with "steps0" => (repeat' (first | (k_unfold; (try dsimp only)) | (k_end; wrow_close) | (walk1; all_goals (try dsimp only)) | (dsimp only; walk1; all_goals (try dsimp only)) | (leave1; walk_say "STEP leave1"; try dsimp only) | fail "no step"))
  k_with "call type:range" => ((k_here; k_dflt (first
  | (refine' range1_rows ?F ?N ?_; (case F => k_asm); (case N => k_asm))
  | (refine' range2_rows ?F ?N ?_; (case F => k_asm); (case N => k_asm))); intro h'z tk'z t1'z t2'z t3'z hR'z F'z N'z hK'z))
  k_with "exec For Name Call cons nil" => ((k_here; k_dflt (refine' For_invVF ?F rfl rfl ?_; (case F => k_asm))))
  k_with "pyIter ref" => (refine Stop.mk' ?_)
  k_with "getAttr ref" => ((k_here; k_dflt (refine' get_own ?k1 ?k2 ?k3 ?k4 ?k5 ?k6 ?k7 ?k8 ?k9 ?_; (case k1 => k_asm); (case k2 => k_asm); (case k3 => k_inst); (case k4 => k_is); (case k5 => k_is); (case k6 => k_is); (case k7 => k_is); (case k8 => assumption); (case k9 => first | rfl | k_handed); k_whole)))
  k_with "binaryOp LShift int int" => ((k_here; (refine' lshift_int_small ?b1 ?b2 ?b3 ?_; (case b1 => omega); (case b2 => omega); (case b3 => first | decide | assumption))))
  k_with "pins9" => (((try dsimp only); first | exact List.forall_mem_nil _ | (refine List.forall_mem_cons.mpr ⟨rfl, ?_⟩; k_extra "pins9")))
  k_with "gend" => ((k_dflt (refine' sints_end ?F ?N ?e0 ?e1 ?e2 ?h1 ?h2 ?hus ?hg ?hc ?hp; (case F => k_asm); (case N => k_asm); (case e0 => k_mem); (case e1 => k_mem); (case e2 => intro pz hp; k_ownIn); (case h1 => assumption); (case h2 => assumption); (case hus => assumption); (case hg => exact range_snoc); (case hc => walk_at "pins9"); (case hp => walk_at "pins9"))))
  obtain ⟨m1, o1⟩ := D1.spec
  obtain ⟨m2, o2⟩ := D2.spec
  have hne : @Ne Nat fm rm := o1 _ (m2 _ (.head _))
  have off : OwnOff own [fm, rm] := by
    intro p hp q hq
    simp only [List.mem_cons, List.not_mem_nil, or_false] at hq
    rcases hq with rfl | rfl
    · exact o2 p hp
    · exact o1 p (m2 _ (.tail _ hp))
  have N0 : News h₀ L s.heap ((rm, W.listOf #[] k1) :: (fm, W.listOf #[] k2) :: own) := by
    intro p hp
    rcases List.mem_cons.mp hp with rfl | hp
    · exact N _ (m1 _ (.head _))
    · exact N _ (m1 _ (.tail _ (m2 _ hp)))
  clear N D1 D2 m1 m2 o1 o2
  revert X; k_fill; intro X
  refine wpAny_call ?_
  k_dflt ktr_enter
  k_steps
  unfold Stop
  k_dflt (refine' range_pins (nx₀ := (rm, W.listOf #[] k1) :: (fm, W.listOf #[] k2) :: own) 4 (tb := 0) (tc := 0) (td := 0) (fun tr _ _ _ => [(Str.ofString "geo", .ref gx), (Str.ofString "row", .int (rowM f) tr)]) (fun i t => [(Str.ofString "column", .int (colM f i) t)]) (SInts rm ((fm, W.listOf #[] k2) :: own) (rmT f)) ?hh ?hr ?hs ?hn ?F ?N (fun _ hp => hp) ?hc ?hp ⟨[], k1, rfl, .nil⟩ ?turn ?done)
  (case hh => exact rfl)
  (case hr => assumption)
  (case hs => decide)
  (case hn => decide)
  (case F => k_asm)
  (case N => k_asm)
  (case hc => walk_at "pins9")
  (case hp => walk_at "pins9")
  · intro i' t' tp' u' nx' h' tk' I' oI' hi' ho' hS' F' N'
    obtain ⟨us', k', rfl, hus'⟩ := hS'
    have q1 : us'.length < 10 := by rw [hus'.length]; simp [rmT]; omega
    have q2 : 0 ≤ (0 + (i' : Int) * 1) * f := Int.mul_nonneg (by omega) (by omega)
    have q3 : (0 + (i' : Int) * 1) * f ≤ 4 * f := Int.mul_le_mul_of_nonneg_right (by omega) (by omega)
    have q4 := rowM_lt h1 h2
    have q5 : @Ne Nat rm I' := ho' _ (.head _)
    have q6 : @Ne Nat fm I' := ho' _ (.tail _ (.head _))
    have q7 : ∀ p ∈ own, p.1 ≠ I' := fun p hp => ho' p (.tail _ (.tail _ hp))
    simp only [pinF, List.foldr] at F'
    (try (dsimp only at F' N'))
    (try dsimp only)
    (try k_fold)
    k_steps
    have q8 : ∀ p ∈ (fm, W.listOf #[] k2) :: own, p.1 ≠ I' := fun p hp => ho' p (.tail _ hp)
    walk_at "gend"
  · intro tp' u' nx' h' tk' hS' F' N'
    obtain ⟨us', k', rfl, hus'⟩ := hS'
    have q4 := colM_lt h1 h2
    simp only [pinF, List.foldr] at F'
    (try (dsimp only at F' N'))
    (try dsimp only)
    (try k_fold)
    k_steps
    unfold Stop
    k_dflt (refine' range_pins (nx₀ := (fm, W.listOf #[] k2) :: (rm, W.listOf us'.toArray k') :: own) f.toNat (ta := 0) (tb := 0) (tc := 0) (td := 0) (fun _ _ _ _ => [(Str.ofString "geo", .ref gx)]) (fun _ t => [(Str.ofString "column", .int (colM f 4) t)]) (SInts fm ((rm, W.listOf us'.toArray k') :: own) (fmT f)) ?hh2 ?hr2 (small_f (by omega) (by omega)) (size_f (by omega)) ?F2 ?N2 (fun _ hp => mem_swap hp) ?hc2 ?hp2 ⟨[], k2, rfl, .nil⟩ ?turn2 ?done2)
    (case hh2 => exact rfl)
    (case hr2 => assumption)
    (case F2 => k_asm)
    (case N2 => k_asm)
    (case hc2 => walk_at "pins9")
    (case hp2 => walk_at "pins9")
    · intro i' t' tp' u' nx' h' tk' I' oI' hi' ho' hS' F' N'
      obtain ⟨vs', k3', rfl, hvs'⟩ := hS'
      have q1 : vs'.length < 10 := by rw [hvs'.length]; simp [fmT]; omega
      have q5 : @Ne Nat fm I' := ho' _ (.head _)
      have q6 : @Ne Nat rm I' := ho' _ (.tail _ (.head _))
      have q7 : ∀ p ∈ own, p.1 ≠ I' := fun p hp => ho' p (.tail _ (.tail _ hp))
      simp only [pinF, List.foldr] at F'
      (try (dsimp only at F' N'))
      (try dsimp only)
      (try k_fold)
      k_steps
      have q8 : ∀ p ∈ (rm, W.listOf us'.toArray k') :: own, p.1 ≠ I' := fun p hp => ho' p (.tail _ hp)
      walk_at "gend"
    · intro tp2' u2' nx2' h2' tk2' hS2' F' N'
      obtain ⟨vs', k3', rfl, hvs'⟩ := hS2'
      simp only [pinF, List.foldr] at F'
      (try (dsimp only at F' N'))
      (try dsimp only)
      (try k_fold)
      k_steps
      exact ret us' vs' _ _ _ _ (by assumption) (fun p hp => (show News _ _ _ (_ :: _) from by assumption) p (mem_swap hp)) hus' hvs'
end
end
section
theorem rmT_len (f : Int) (i : Nat) : (rmT f i).length = i := by simp [rmT]
theorem fmT_len (f : Int) (i : Nat) : (fmT f i).length = i := by simp [fmT]
noncomputable def SF (d : Int) : Int := [0, 1, 0, -1, 1, 1, -1, -1].getD d.toNat 0
noncomputable def SR (d : Int) : Int := [1, 0, -1, 0, 1, -1, -1, 1].getD d.toNat 0
noncomputable def edge1 (f d : Int) : Int := if 0 < SF d then Builtin.bitOr 0 ((fmT f f.toNat).getD (f - 1).toNat 0) else if SF d < 0 then Builtin.bitOr 0 ((fmT f f.toNat).getD (Int.toNat 0) 0) else 0
noncomputable def edge2 (f d : Int) : Int := if 0 < SR d then Builtin.bitOr (edge1 f d) ((rmT f 4).getD (4 - 1 : Int).toNat 0) else if SR d < 0 then Builtin.bitOr (edge1 f d) ((rmT f 4).getD (Int.toNat 0) 0) else edge1 f d
noncomputable def fullM (f : Int) : Int := 1 * 2 ^ (f * 4).toNat - 1
noncomputable def innerT (f d : Int) : Int := Builtin.bitAnd (fullM f) (Builtin.bitNot (edge2 f d))
noncomputable def growT (d : Int) : Bool := decide (0 < SR d) || (d == 1)
noncomputable def okB (f d q : Nat) : Bool := (Builtin.bitAnd ((innerT f d).fdiv (2 ^ q)) 1 == 0) || (decide ((0 : Int) ≤ q + (SR d * f + SF d)) && decide ((q : Int) + (SR d * f + SF d) < f * 4))
theorem ok_all : ((List.range 6).all fun a => (List.range 8).all fun d => (List.range ((a + 3) * 4)).all fun q => okB (a + 3) d q) = true := by decide +kernel
theorem inner_ok {f d q : Int} (h1 : 3 ≤ f) (h2 : f ≤ 8) (d1 : 0 ≤ d) (d2 : d < 8) (q1 : 0 ≤ q) (q2 : q < f * 4) (h : Builtin.bitAnd ((innerT f d).fdiv (2 ^ q.toNat)) 1 ≠ 0) :
    0 ≤ q + (SR d * f + SF d) ∧ q + (SR d * f + SF d) < f * 4 := by
  obtain ⟨F, rfl⟩ := Int.eq_ofNat_of_zero_le (show 0 ≤ f by omega)
  obtain ⟨D, rfl⟩ := Int.eq_ofNat_of_zero_le d1
  obtain ⟨q, rfl⟩ := Int.eq_ofNat_of_zero_le q1
  have a := ok_all
  rw [List.all_eq_true] at a
  have b := a (F - 3) (List.mem_range.mpr (by omega))
  rw [List.all_eq_true] at b
  have c := b D (List.mem_range.mpr (by omega))
  rw [List.all_eq_true] at c
  have e : F - 3 + 3 = F := by omega
  rw [e] at c
  have g := c q (List.mem_range.mpr (by omega))
  unfold okB at g
  rw [Bool.or_eq_true, Bool.and_eq_true, decide_eq_true_eq, decide_eq_true_eq, beq_iff_eq] at g
  rw [Int.toNat_natCast] at h
  rcases g with g | g
  · exact absurd g h
  · exact g
section
set_option maxHeartbeats 4000000
theorem grow0 {w : World} {mean : ExcName → Option Value} {mg mb : Str → Option Value} {dp un : Nat} {gd : Option (List Code)} {cn : Str} {cs : Scope} {a : Addr} {ccd : Value} {cl : List (Str × Addr)} {outer : List Env} {A₀ : Around} {base h₀ : Heap} {L : Addr} {m : Str → Option Value} {news : List (Addr × Obj)} {s : Shared} {Q E : Value → Shared → Prop} {d : Int} {t : Nat}
    (B : Below A₀ base outer h₀) (F : Fr h₀ L s.heap m) (X : (ktop.heap_1 w.params).In h₀) (N : News h₀ L s.heap news) (T : Top vw (looseW vw loose) mean mg mb h₀) (hk : cs.kind = .function) (d1 : 0 ≤ d) (d2 : d < 8)
    (hdp : dp + 3 < recursionLimit) (hun : un + 30 < cLine)
    (ret : ∀ h' tk', Fr h₀ L h' m → News h₀ L h' news → Q (.bool (growT d)) { s with heap := h', toks := tk' }) :
    wpAny (model PySem.Challenge.rw_pf0096_01.row.prog w) (ktrTop dp un gd cn cs L a ccd cl outer) (call (.ref 236) [.int d t]) Q E s := by
  k_with_none
  k_with "room0" => ((try simp only [depth_under_make, depth_under_kw, depth_in1, depth_deeper, depth_caller]); (try dsimp only [ktrTop]); (first | exact lq0 (by with_reducible assumption) | exact lq1 (by with_reducible assumption) (by rfl) | exact lq2 (by with_reducible assumption) (by rfl) | exact lq3 (by with_reducible assumption) (by rfl) | exact lq4 (by with_reducible assumption) (by rfl) | exact lq5 (by with_reducible assumption) (by rfl) | exact lq6 (by with_reducible assumption) (by rfl) | omega))
  k_with "units0" => ((try simp only [units_in1, units_deeper, Around.mark_units, units_caller]); (try dsimp only [ktrTop]); (first | exact lq0 (by with_reducible assumption) | exact lq1 (by with_reducible assumption) (by rfl) | exact lq2 (by with_reducible assumption) (by rfl) | exact lq3 (by with_reducible assumption) (by rfl) | exact lq4 (by with_reducible assumption) (by rfl) | exact lq5 (by with_reducible assumption) (by rfl) | exact lq6 (by with_reducible assumption) (by rfl) | omega))
  k_with "all0" => (first | assumption | exact allLt_ne (by assumption) | exact allLt_ne (And.right (by assumption)) | exact allLt_ne (And.right (And.right (by assumption))) | exact allLt_ne (And.right (And.right (And.right (by assumption)))) | exact allLt_ne (And.right (And.right (And.right (And.right (by assumption))))) | exact allLt_ne (And.right (And.right (And.right (And.right (And.right (by assumption)))))) | exact allLt_ne (And.right (And.right (And.right (And.right (And.right (And.right (by assumption))))))) | exact allLt_ne (And.right (And.right (And.right (And.right (And.right (And.right (And.right (by assumption)))))))) | exact allLt_ne (And.right (And.right (And.right (And.right (And.right (And.right (And.right (And.right (by assumption))))))))) | exact allLt_ne (And.right (And.right (And.right (And.right (And.right (And.right (And.right (And.right (And.right (by assumption)))))))))) | exact allLt_ne (And.right (And.right (And.right (And.right (And.right (And.right (And.right (And.right (And.right (And.right (by assumption))))))))))) | exact allLt_ne (And.right (And.right (And.right (And.right (And.right (And.right (And.right (And.right (And.right (And.right (And.right (by assumption)))))))))))) | exact allLt_ne (And.right (And.right (And.right (And.right (And.right (And.right (And.right (And.right (And.right (And.right (And.right (And.right (by assumption))))))))))))) | exact allLt_ne (And.right (And.right (And.right (And.right (And.right (And.right (And.right (And.right (And.right (And.right (And.right (And.right (And.right (by assumption)))))))))))))) | exact allLt_ne (And.right (And.right (And.right (And.right (And.right (And.right (And.right (And.right (And.right (And.right (And.right (And.right (And.right (And.right (by assumption))))))))))))))) | exact allLt_ne (And.right (And.right (And.right (And.right (And.right (And.right (And.right (And.right (And.right (And.right (And.right (And.right (And.right (And.right (And.right (by assumption)))))))))))))))) | exact allLt_ne (And.right (And.right (And.right (And.right (And.right (And.right (And.right (And.right (And.right (And.right (And.right (And.right (And.right (And.right (And.right (And.right (by assumption))))))))))))))))) | exact allLt_ne (And.right (And.right (And.right (And.right (And.right (And.right (And.right (And.right (And.right (And.right (And.right (And.right (And.right (And.right (And.right (And.right (And.right (by assumption)))))))))))))))))) | exact ltAll_ne (by assumption))
  k_with "cj" => (first | with_reducible exact And.left | (with_reducible refine cjR ?_; k_extra "cj"))
  k_with "ne0" => ((refine neN ?_; (try dsimp only); first | with_reducible assumption | exact Ne.symm (by with_reducible assumption) | exact Nat.ne_of_lt (by with_reducible assumption) | exact Nat.ne_of_gt (by with_reducible assumption) | exact neL (by with_reducible assumption) (by k_extra "cj") | exact neG (by with_reducible assumption) (by k_extra "cj") | exact neLT (by with_reducible assumption) (by with_reducible assumption) (by k_extra "cj") | exact neGT (by with_reducible assumption) (by with_reducible assumption) (by k_extra "cj")))
  k_with "steps0" => (repeat' (first | (k_unfold; (try dsimp only)) | (k_end; wrow_close) | (walk1; all_goals (try dsimp only)) | (dsimp only; walk1; all_goals (try dsimp only)) | (leave1; walk_say "STEP leave1"; try dsimp only) | fail "no step"))
  k_with "getAttr ref" => ((k_here; k_dflt (refine' get_own ?k1 ?k2 ?k3 ?k4 ?k5 ?k6 ?k7 ?k8 ?k9 ?_; (case k1 => k_asm); (case k2 => k_asm); (case k3 => k_inst); (case k4 => k_is); (case k5 => k_is); (case k6 => k_is); (case k7 => k_is); (case k8 => assumption); (case k9 => first | rfl | k_handed); k_whole)))
  revert X; k_fill; intro X
  refine wpAny_call ?_
  k_dflt ktr_enter
  k_steps
  all_goals (
    refine cb_retB (fun _ => ret) ?_ (by assumption) (by assumption)
    unfold growT SR
    first | (rw [decide_eq_true (by assumption)]; rfl) | (rw [decide_eq_false (by assumption)]; rfl))
theorem inner0 {w : World} {mean : ExcName → Option Value} {mg mb : Str → Option Value} {dp un : Nat} {gd : Option (List Code)} {cn : Str} {cs : Scope} {a : Addr} {ccd : Value} {cl : List (Str × Addr)} {outer : List Env} {A₀ : Around} {base h₀ : Heap} {L : Addr} {m : Str → Option Value} {news : List (Addr × Obj)} {s : Shared} {Q E : Value → Shared → Prop} {f d : Int} {gx gdx fm rm : Addr} {es : List DictEntry} {n k1 k2 : Nat} {t t1 t2 t3 : Nat} {us vs : List Value}
    (B : Below A₀ base outer h₀) (F : Fr h₀ L s.heap m) (X : (ktop.heap_1 w.params).In h₀) (N : News h₀ L s.heap news) (T : Top vw (looseW vw loose) mean mg mb h₀) (hk : cs.kind = .function) (h1 : 3 ≤ f) (h2 : f ≤ 8) (d1 : 0 ≤ d) (d2 : d < 8)
    (hg : (gx, instObj 225 gdx) ∈ news) (hgd : (gdx, dictOf es n) ∈ news) (a1 : getL (Str.ofString "files") es = some (some (.int f t1))) (a2 : getL (Str.ofString "ranks") es = some (some (.int 4 t2))) (a3 : getL (Str.ofString "file_masks") es = some (some (.ref fm))) (a4 : getL (Str.ofString "rank_masks") es = some (some (.ref rm))) (a5 : getL (Str.ofString "full") es = some (some (.int (fullM f) t3)))
    (hm1 : (rm, W.listOf us.toArray k1) ∈ news) (hm2 : (fm, W.listOf vs.toArray k2) ∈ news) (i1 : IntsAre us (rmT f 4)) (i2 : IntsAre vs (fmT f f.toNat))
    (hdp : dp + 3 < recursionLimit) (hun : un + 30 < cLine)
    (ret : ∀ t' h' tk', Fr h₀ L h' m → News h₀ L h' news → Q (.int (innerT f d) t') { s with heap := h', toks := tk' }) :
    wpAny (model PySem.Challenge.rw_pf0096_01.row.prog w) (ktrTop dp un gd cn cs L a ccd cl outer) (call (.ref 250) [.ref gx, .int d t]) Q E s := by
  k_with_none
  k_with "room0" => ((try simp only [depth_under_make, depth_under_kw, depth_in1, depth_deeper, depth_caller]); (try dsimp only [ktrTop]); (first | exact lq0 (by with_reducible assumption) | exact lq1 (by with_reducible assumption) (by rfl) | exact lq2 (by with_reducible assumption) (by rfl) | exact lq3 (by with_reducible assumption) (by rfl) | exact lq4 (by with_reducible assumption) (by rfl) | exact lq5 (by with_reducible assumption) (by rfl) | exact lq6 (by with_reducible assumption) (by rfl) | omega))
  k_with "units0" => ((try simp only [units_in1, units_deeper, Around.mark_units, units_caller]); (try dsimp only [ktrTop]); (first | exact lq0 (by with_reducible assumption) | exact lq1 (by with_reducible assumption) (by rfl) | exact lq2 (by with_reducible assumption) (by rfl) | exact lq3 (by with_reducible assumption) (by rfl) | exact lq4 (by with_reducible assumption) (by rfl) | exact lq5 (by with_reducible assumption) (by rfl) | exact lq6 (by with_reducible assumption) (by rfl) | omega))
  k_with "all0" => (first | assumption | exact allLt_ne (by assumption) | exact allLt_ne (And.right (by assumption)) | exact allLt_ne (And.right (And.right (by assumption))) | exact allLt_ne (And.right (And.right (And.right (by assumption)))) | exact allLt_ne (And.right (And.right (And.right (And.right (by assumption))))) | exact allLt_ne (And.right (And.right (And.right (And.right (And.right (by assumption)))))) | exact allLt_ne (And.right (And.right (And.right (And.right (And.right (And.right (by assumption))))))) | exact allLt_ne (And.right (And.right (And.right (And.right (And.right (And.right (And.right (by assumption)))))))) | exact allLt_ne (And.right (And.right (And.right (And.right (And.right (And.right (And.right (And.right (by assumption))))))))) | exact allLt_ne (And.right (And.right (And.right (And.right (And.right (And.right (And.right (And.right (And.right (by assumption)))))))))) | exact allLt_ne (And.right (And.right (And.right (And.right (And.right (And.right (And.right (And.right (And.right (And.right (by assumption))))))))))) | exact allLt_ne (And.right (And.right (And.right (And.right (And.right (And.right (And.right (And.right (And.right (And.right (And.right (by assumption)))))))))))) | exact allLt_ne (And.right (And.right (And.right (And.right (And.right (And.right (And.right (And.right (And.right (And.right (And.right (And.right (by assumption))))))))))))) | exact allLt_ne (And.right (And.right (And.right (And.right (And.right (And.right (And.right (And.right (And.right (And.right (And.right (And.right (And.right (by assumption)))))))))))))) | exact allLt_ne (And.right (And.right (And.right (And.right (And.right (And.right (And.right (And.right (And.right (And.right (And.right (And.right (And.right (And.right (by assumption))))))))))))))) | exact allLt_ne (And.right (And.right (And.right (And.right (And.right (And.right (And.right (And.right (And.right (And.right (And.right (And.right (And.right (And.right (And.right (by assumption)))))))))))))))) | exact allLt_ne (And.right (And.right (And.right (And.right (And.right (And.right (And.right (And.right (And.right (And.right (And.right (And.right (And.right (And.right (And.right (And.right (by assumption))))))))))))))))) | exact allLt_ne (And.right (And.right (And.right (And.right (And.right (And.right (And.right (And.right (And.right (And.right (And.right (And.right (And.right (And.right (And.right (And.right (And.right (by assumption)))))))))))))))))) | exact ltAll_ne (by assumption))
  k_with "cj" => (first | with_reducible exact And.left | (with_reducible refine cjR ?_; k_extra "cj"))
  k_with "ne0" => ((refine neN ?_; (try dsimp only); first | with_reducible assumption | exact Ne.symm (by with_reducible assumption) | exact Nat.ne_of_lt (by with_reducible assumption) | exact Nat.ne_of_gt (by with_reducible assumption) | exact neL (by with_reducible assumption) (by k_extra "cj") | exact neG (by with_reducible assumption) (by k_extra "cj") | exact neLT (by with_reducible assumption) (by with_reducible assumption) (by k_extra "cj") | exact neGT (by with_reducible assumption) (by with_reducible assumption) (by k_extra "cj")))
  k_with "steps0" => (repeat' (first | (k_unfold; (try dsimp only)) | (k_end; wrow_close) | (walk1; all_goals (try dsimp only)) | (dsimp only; walk1; all_goals (try dsimp only)) | (leave1; walk_say "STEP leave1"; try dsimp only) | fail "no step"))
  k_with "getAttr ref" => ((k_here; k_dflt (refine' get_own ?k1 ?k2 ?k3 ?k4 ?k5 ?k6 ?k7 ?k8 ?k9 ?_; (case k1 => k_asm); (case k2 => k_asm); (case k3 => k_inst); (case k4 => k_is); (case k5 => k_is); (case k6 => k_is); (case k7 => k_is); (case k8 => assumption); (case k9 => first | rfl | k_handed); k_whole)))
  have e1 := rmT_len f 4
  have e2 := fmT_len f f.toNat
  revert X; k_fill; intro X
  refine wpAny_call ?_
  k_dflt ktr_enter
  k_steps
  all_goals (
    refine cb_retI ret ?_ (by assumption) (by assumption)
    unfold innerT edge2 edge1 SF SR
    simp only [*, if_true, if_false])
end
end
section
noncomputable def rangeO (a b c : Int) (t u v : Tok) : Obj := { cls := .type "range", data := .fields #[.int a t, .int b u, .int c v] }
section
variable {prog : Program} {w : World} {A : Around} {E : Value → Shared → Prop} {s : Shared} {h₀ : Heap} {L : Addr} {m : Str → Option Value} {news : List (Addr × Obj)} {Q : Value → Shared → Prop}
theorem range_new1 {n : Int} {t : Tok} (F : Fr h₀ L s.heap m) (N : News h₀ L s.heap news)
    (h : ∀ D h' tk t u v, Fr h₀ L h' m → News h₀ L h' ((D, rangeO 0 n 1 t u v) :: news) → (∀ p ∈ news, p.1 < D) → Q (.ref D) { s with heap := h', toks := tk }) :
    wpAny (model prog w) A (call (.type "range") [.int n t]) Q E s :=
  call_range_1 (h _ _ _ _ _ _ (F.push _) (N.push F _) fun p hp => Heap.lt_size (N p hp).1)
theorem range_new3 {a b c : Int} {t u v : Tok} (F : Fr h₀ L s.heap m) (N : News h₀ L s.heap news) (hc : c ≠ 0) (ha : c.natAbs < 1073741824)
    (h : ∀ D h', Fr h₀ L h' m → News h₀ L h' ((D, rangeO a b c t u v) :: news) → (∀ p ∈ news, p.1 < D) → Q (.ref D) { s with heap := h' }) :
    wpAny (model prog w) A (call (.type "range") [.int a t, .int b u, .int c v]) Q E s :=
  call_range_3 hc (h _ _ (F.push _) (N.push F _) fun p hp => Heap.lt_size (N p hp).1) (Or.inl (PyProof.noPylong_small ha))
theorem range_is {D : Addr} {a b c : Int} {t u v : Tok} (N : News h₀ L s.heap news) (hm : (D, rangeO a b c t u v) ∈ news) : IsRange s.heap D a b c t u v := (N _ hm).1
theorem flat_rep (t : Tok) : ∀ n : Nat, List.foldl (fun x1 x2 => x1 ++ x2) (#[] : Array Value) (List.replicate n #[Value.int 0 t]) = (List.replicate n (Value.int 0 t)).toArray := by
  have key : ∀ (n : Nat) (acc : List Value), List.foldl (fun x1 x2 => x1 ++ x2) acc.toArray (List.replicate n #[Value.int 0 t]) = (acc ++ List.replicate n (Value.int 0 t)).toArray := by
    intro n
    induction n with
    | zero => intro acc; simp
    | succ n ih =>
      intro acc
      rw [List.replicate_succ, List.foldl_cons]
      have e : acc.toArray ++ #[Value.int 0 t] = (acc ++ [Value.int 0 t]).toArray := by simp
      rw [e, ih, List.replicate_succ, List.append_assoc]
      rfl
  intro n
  have := key n []
  simpa using this
theorem ints_rep (t : Tok) : ∀ n : Nat, IntsAre (List.replicate n (Value.int 0 t)) (List.replicate n 0)
  | 0 => .nil
  | n + 1 => .cons 0 t (ints_rep t n)
theorem mul_zeros {l : Addr} {x : Int} {t u : Tok} {k : Nat} (F : Fr h₀ L s.heap m) (N : News h₀ L s.heap news) (hm : (l, W.listOf #[.int 0 t] k) ∈ news) (h0 : 0 ≤ x) (h1 : x ≤ 1000)
    (h : ∀ D h' us, Fr h₀ L h' m → News h₀ L h' ((D, W.listOf us.toArray 0) :: news) → IntsAre us (List.replicate x.toNat 0) → (∀ p ∈ news, p.1 < D) → Q (.ref D) { s with heap := h' }) :
    wpAny (model prog w) A (binaryOp .Mult (.ref l) (.int x u)) Q E s := by
  refine mul_list F N (N _ hm).1 (by omega) (by omega) (by simp; omega) fun h' F' N' => ?_
  rw [if_neg (by simp), flat_rep] at N'
  exact h _ h' _ F' N' (ints_rep t _) fun p hp => Heap.lt_size (N p hp).1
end
theorem isStr_inj {v : Value} {a b : Str} (h1 : v.isStr a = true) (h2 : v.isStr b = true) : a = b := by
  cases v with
  | str s t =>
    have e1 : (s == a) = true := h1
    have e2 : (s == b) = true := h2
    rw [← beq_iff_eq.mp e1, beq_iff_eq.mp e2]
  | _ => cases h1
theorem put_find {a b : Str} (hab : a ≠ b) (hsh : Int) (tk : Tok) (v : Value) : ∀ es : List DictEntry, ((putL a hsh (.str a tk) v es).find? (·.key.isStr b)).map (·.val) = (es.find? (·.key.isStr b)).map (·.val) ∧ (putL a hsh (.str a tk) v es).any (·.refKey) = es.any (·.refKey)
  | [] => by
    have e : Value.isStr (.str a tk) b = false := by
      show (a == b) = false
      exact beq_eq_false_iff_ne.mpr hab
    constructor
    · show (List.find? _ [_]).map _ = _
      rw [List.find?_cons, e]
    · rfl
  | e :: r => by
    obtain ⟨i1, i2⟩ := put_find hab hsh tk v r
    unfold putL
    split
    · rename_i ha
      have hb : e.key.isStr b = false := by
        cases h : e.key.isStr b with
        | false => rfl
        | true => exact absurd (isStr_inj ha h) hab
      constructor
      · rw [List.find?_cons, List.find?_cons]
        show Option.map _ (match e.key.isStr b with | true => _ | false => _) = Option.map _ (match e.key.isStr b with | true => _ | false => _)
        rw [hb]
      · rfl
    · constructor
      · rw [List.find?_cons, List.find?_cons]
        cases h : e.key.isStr b with
        | true => rfl
        | false => exact i1
      · rw [List.any_cons, List.any_cons, i2]
theorem getL_put {a b : Str} {hsh : Int} {tk : Tok} {v : Value} {es : List DictEntry} (hab : a ≠ b) : getL b (putL a hsh (.str a tk) v es) = getL b es := by
  obtain ⟨i1, i2⟩ := put_find hab hsh tk v es
  unfold getL
  rw [i2]
  cases h1 : (putL a hsh (.str a tk) v es).find? (·.key.isStr b) <;> cases h2 : es.find? (·.key.isStr b) <;> rw [h1, h2] at i1 <;> first | rfl | (cases i1; done) | skip
  · have := Option.some.inj i1
    simp [this]
theorem getL_put_self {a : Str} {hsh : Int} {tk : Tok} {v : Value} {es : List DictEntry} : getL a (putL a hsh (.str a tk) v es) = some (some v) := by
  have key : ∃ e, (putL a hsh (.str a tk) v es).find? (·.key.isStr a) = some e ∧ e.val = v := by
    induction es with
    | nil =>
      refine ⟨_, List.find?_cons_of_pos ?_, rfl⟩
      exact beq_iff_eq.mpr rfl
    | cons e r ih =>
      unfold putL
      split
      · rename_i ha
        exact ⟨_, List.find?_cons_of_pos ha, rfl⟩
      · rename_i ha
        obtain ⟨e', h1, h2⟩ := ih
        refine ⟨e', ?_, h2⟩
        rw [List.find?_cons]
        rw [Bool.not_eq_true] at ha
        rw [ha]; exact h1
  obtain ⟨e, h1, h2⟩ := key
  unfold getL
  rw [h1, ← h2]
theorem putL_len (a : Str) (hsh : Int) (key v : Value) : ∀ es : List DictEntry, (putL a hsh key v es).length ≤ es.length + 1
  | [] => Nat.le_refl _
  | e :: r => by
    unfold putL
    split
    · exact Nat.le_succ _
    · exact Nat.succ_le_succ (putL_len a hsh key v r)
end
section
def OrdOk (sz a b c : Int) : Prop := (a = 0 ∧ b = sz ∧ c = 1) ∨ (a = sz - 1 ∧ b = -1 ∧ c = -1)
theorem ord_div {sz : Int} : (sz - 1 - -1 - 1) / (- -1) + 1 = sz := by
  rw [show (- -1 : Int) = 1 from rfl, Int.ediv_one]; omega
theorem ord_small {sz a b c : Int} (h : OrdOk sz a b c) (h1 : 1 ≤ sz) (h2 : sz ≤ 100) : Builtin.Range.small a b c = true := by
  rcases h with ⟨rfl, rfl, rfl⟩ | ⟨rfl, rfl, rfl⟩
  · exact small_one (by decide) (by decide) (by omega) (by omega)
  · unfold Builtin.Range.small Builtin.Range.rangeSize
    simp only [Builtin.Range.rangeFitsLong, Bool.and_eq_true, Bool.or_eq_true, decide_eq_true_eq, beq_iff_eq]
    rw [if_neg (by decide), if_pos (by omega), ord_div]
    refine ⟨by omega, .inr (by decide)⟩
theorem ord_size {sz a b c : Int} (h : OrdOk sz a b c) (h1 : 1 ≤ sz) : Builtin.Range.rangeSize a b c = (sz.toNat : Int) := by
  rcases h with ⟨rfl, rfl, rfl⟩ | ⟨rfl, rfl, rfl⟩
  · unfold Builtin.Range.rangeSize
    rw [if_pos (by decide), if_pos (by omega)]
    omega
  · unfold Builtin.Range.rangeSize
    rw [if_neg (by decide), if_pos (by omega), ord_div]
    omega
theorem ord_sq {sz a b c : Int} (h : OrdOk sz a b c) {i : Nat} (hi : i < sz.toNat) : 0 ≤ a + (i : Int) * c ∧ a + (i : Int) * c < sz := by
  rcases h with ⟨rfl, rfl, rfl⟩ | ⟨rfl, rfl, rfl⟩ <;> omega
def S2 (ray king : Addr) (rest : List (Addr × Obj)) (sz : Nat) (_i : Nat) (nx : List (Addr × Obj)) : Prop :=
  ∃ rus krr kus kk rn kn, nx = (ray, W.listOf rus.toArray krr) :: (king, W.listOf kus.toArray kk) :: rest ∧ IntsAre rus rn ∧ rn.length = sz ∧ IntsAre kus kn ∧ kn.length = sz
section
variable {prog : Program} {w : World} {A : Around} {E : Value → Shared → Prop} {s : Shared} {env : Env} {h₀ : Heap} {x : Str} {body : List Stmt} {Q : Flow → Shared → Prop}
theorem ord_loop {r ray king : Addr} {sz a b c : Int} {t₀ u₀ v₀ ta tb tc td : Tok} {m₀ : Str → Option Value} {news rest : List (Addr × Obj)} (cs : Tok → Tok → Tok → Tok → List (Str × Value)) {rus kus : List Value} {rn kn : List Int} {krr kk : Nat}
    (hh : A.handled = none) (hr : IsRange s.heap r a b c t₀ u₀ v₀) (ho : OrdOk sz a b c) (z1 : 1 ≤ sz) (z2 : sz ≤ 100) (F : Fr h₀ env.locals s.heap m₀) (N : News h₀ env.locals s.heap news) (e1 : (ray, W.listOf rus.toArray krr) ∈ news) (e2 : (king, W.listOf kus.toArray kk) ∈ news) (e3 : ∀ p ∈ rest, p ∈ news)
    (i1 : IntsAre rus rn) (l1 : rn.length = sz.toNat) (i2 : IntsAre kus kn) (l2 : kn.length = sz.toNat) (hc : ∀ p ∈ cs ta tb tc td, m₀ p.1 = some p.2)
    (turn : ∀ (i : Nat) sq t (u : Str → Option Value) h tk I oI rus krr kus kk rn kn, 0 ≤ sq → sq < sz → @Ne Nat ray I → @Ne Nat king I → (∀ p ∈ rest, p.1 ≠ I) → IntsAre rus rn → rn.length = sz.toNat → IntsAre kus kn → kn.length = sz.toNat → Fr h₀ env.locals h (fun y => if y = x then some (.int sq t) else pinF (cs ta tb tc td) u y) → News h₀ env.locals h ((I, oI) :: (ray, W.listOf rus.toArray krr) :: (king, W.listOf kus.toArray kk) :: rest) →
      wpAny (model prog w) A (execs body env) (PostJ h₀ env.locals (JG (cs ta tb tc td) (fun _ _ => []) (S2 ray king rest sz.toNat) (i + 1)) I oI { s with heap := h, toks := tk } Q) E { s with heap := h, toks := tk })
    (done : ∀ (u : Str → Option Value) h tk rus krr kus kk rn kn, IntsAre rus rn → rn.length = sz.toNat → IntsAre kus kn → kn.length = sz.toNat → Fr h₀ env.locals h (fun y => pinF (cs ta tb tc td) u y) → News h₀ env.locals h ((ray, W.listOf rus.toArray krr) :: (king, W.listOf kus.toArray kk) :: rest) → Q .next { s with heap := h, toks := tk }) :
    wpAny (model prog w) A (pyIter (.ref r)) (fun it s₂ => LoopAtV prog w A h₀ env x body Q E it s₂) E s := by
  refine range_pins (nx₀ := (ray, W.listOf rus.toArray krr) :: (king, W.listOf kus.toArray kk) :: rest) (tp := 0) sz.toNat cs (fun _ _ => []) (S2 ray king rest sz.toNat) hh hr (ord_small ho z1 z2) (ord_size ho z1) F N ?_ hc (fun _ hp => nomatch hp) ⟨rus, krr, kus, kk, rn, kn, rfl, i1, l1, i2, l2⟩ ?_ ?_
  · intro p hp
    rcases List.mem_cons.mp hp with rfl | hp
    · exact e1
    rcases List.mem_cons.mp hp with rfl | hp
    · exact e2
    · exact e3 p hp
  · rintro i t tp u nx h tk I oI hi hne ⟨rus, krr, kus, kk, rn, kn, rfl, i1, l1, i2, l2⟩ F₁ N₁
    obtain ⟨q1, q2⟩ := ord_sq ho hi
    exact turn i _ t u h tk I oI rus krr kus kk rn kn q1 q2 (hne _ (.head _)) (hne _ (.tail _ (.head _))) (fun p hp => hne p (.tail _ (.tail _ hp))) i1 l1 i2 l2 F₁ N₁
  · rintro tp u nx h tk ⟨rus, krr, kus, kk, rn, kn, rfl, i1, l1, i2, l2⟩ F₁ N₁
    exact done u h tk rus krr kus kk rn kn i1 l1 i2 l2 F₁ N₁
end
theorem s2_end {ray king I : Addr} {rest big : List (Addr × Obj)} {cs : List (Str × Value)} {h₀ h' : Heap} {L : Addr} {m' : Str → Option Value} {oI : Obj} {sz i tk krr kk : Nat} {rus kus : List Value} {rn kn : List Int} {s₁ : Shared} {Q : Flow → Shared → Prop}
    (F : Fr h₀ L h' m') (N : News h₀ L h' big) (e0 : (I, oI) ∈ big) (e1 : (ray, W.listOf rus.toArray krr) ∈ big) (e2 : (king, W.listOf kus.toArray kk) ∈ big) (e3 : ∀ p ∈ rest, p ∈ big) (h1 : @Ne Nat ray I) (h2 : @Ne Nat king I) (h3 : ∀ p ∈ rest, p.1 ≠ I)
    (i1 : IntsAre rus rn) (l1 : rn.length = sz) (i2 : IntsAre kus kn) (l2 : kn.length = sz) (hc : ∀ p ∈ cs, m' p.1 = some p.2) :
    PostJ h₀ L (JG cs (fun _ _ => []) (S2 ray king rest sz) (i + 1)) I oI s₁ Q .next { s₁ with heap := h', toks := tk } := by
  refine pins_end (tp := 0) ((ray, W.listOf rus.toArray krr) :: (king, W.listOf kus.toArray kk) :: rest) F N e0 ?_ ?_ hc (fun _ hp => nomatch hp) ⟨rus, krr, kus, kk, rn, kn, rfl, i1, l1, i2, l2⟩
  · intro p hp
    rcases List.mem_cons.mp hp with rfl | hp
    · exact e1
    rcases List.mem_cons.mp hp with rfl | hp
    · exact e2
    · exact e3 p hp
  · intro p hp
    rcases List.mem_cons.mp hp with rfl | hp
    · exact h1
    rcases List.mem_cons.mp hp with rfl | hp
    · exact h2
    · exact h3 p hp
section
variable {M : Model} {A : Around} {E : Value → Shared → Prop} {s : Shared} {h₀ : Heap} {L : Addr} {news : List (Addr × Obj)} {m : Str → Option Value}
def MeetO (h₀ : Heap) (L : Addr) (sz : Int) (m : Str → Option Value) (news : List (Addr × Obj)) (s : Shared) (fl : Flow) (s' : Shared) : Prop :=
  fl = .next ∧ ∃ h' tk m' r a b c t u v, s' = { s with heap := h', toks := tk } ∧ Fr h₀ L h' m' ∧ News h₀ L h' news ∧ IsRange h' r a b c t u v ∧ OrdOk sz a b c ∧ m' (Str.ofString "order") = some (.ref r) ∧ ∀ y, y ≠ Str.ofString "order" → m' y = m y
theorem meetO {tree : Sem Flow} {Q : Flow → Shared → Prop} {sz : Int} {r : Addr} {t u v : Tok} (_F : Fr h₀ L s.heap m) (_N : News h₀ L s.heap news) (_h : (r, rangeO 0 sz 1 t u v) ∈ news) (_hm : m (Str.ofString "order") = some (.ref r)) (h1 : wpAny M A tree (MeetO h₀ L sz m news s) E s)
    (h2 : ∀ h' tk r a b c t u v, Fr h₀ L h' (fun y => if y = Str.ofString "order" then some (.ref r) else m y) → News h₀ L h' news → IsRange h' r a b c t u v → OrdOk sz a b c → Q .next { s with heap := h', toks := tk }) : wpAny M A tree Q E s := by
  refine wpAny_mono h1 (fun fl s' h => ?_) fun _ _ e => e
  obtain ⟨rfl, h', tk, m', r, a, b, c, t, u, v, rfl, F, N, hr, ho, hx, hy⟩ := h
  refine h2 h' tk r a b c t u v ?_ N hr ho
  have e : m' = fun y => if y = Str.ofString "order" then some (.ref r) else m y := by
    funext y
    by_cases h : y = Str.ofString "order"
    · rw [if_pos h, h, hx]
    · rw [if_neg h, hy y h]
  rw [e] at F; exact F
theorem meetO_end {sz a b c : Int} {t u v : Tok} {r : Addr} {h' : Heap} {m' : Str → Option Value} {tk : Nat} {big : List (Addr × Obj)} (F : Fr h₀ L h' m') (N : News h₀ L h' big) (hs : ∀ p ∈ news, p ∈ big) (hr : (r, rangeO a b c t u v) ∈ big) (ho : OrdOk sz a b c) (hx : m' (Str.ofString "order") = some (.ref r)) (hy : ∀ y, y ≠ Str.ofString "order" → m' y = m y) :
    MeetO h₀ L sz m news s .next { s with heap := h', toks := tk } :=
  ⟨rfl, h', tk, m', r, a, b, c, t, u, v, rfl, F, fun p hp => N p (hs p hp), (N _ hr).1, ho, hx, hy⟩
end
/-- the rays made so far -/
structure Ray where
  a : Addr
  us : List Value
  ns : List Int
  k : Nat
def RayOk (sz : Nat) (news : List (Addr × Obj)) (r : Ray) : Prop := (r.a, W.listOf r.us.toArray r.k) ∈ news ∧ IntsAre r.us r.ns ∧ r.ns.length = sz
theorem RayOk.mono {sz : Nat} {news news' : List (Addr × Obj)} {r : Ray} (h : RayOk sz news r) (hs : ∀ p ∈ news, p ∈ news') : RayOk sz news' r := ⟨hs _ h.1, h.2⟩
def S3 (king rays gdx : Addr) (od : Obj) (own : List (Addr × Obj)) (sz : Nat) (i : Nat) (nx : List (Addr × Obj)) : Prop :=
  ∃ (rs : List Ray) (kus : List Value) (kk : Nat) (kn : List Int) (kr : Nat) (own' : List (Addr × Obj)), nx = (king, W.listOf kus.toArray kk) :: (rays, W.listOf (rs.map fun r => Value.ref r.a).toArray kr) :: (gdx, od) :: own' ∧ rs.length = i ∧ (∀ r ∈ rs, RayOk sz own' r) ∧ IntsAre kus kn ∧ kn.length = sz ∧ (∀ p ∈ own, p ∈ own') ∧ OwnOff own' [king, rays, gdx] ∧ ∀ r ∈ rs, ∀ q ∈ own, q.1 < r.a
theorem s3_end {king rays gdx ray I : Addr} {od oI : Obj} {own own' big : List (Addr × Obj)} {cs : List (Str × Value)} {h₀ h' : Heap} {L : Addr} {m' : Str → Option Value} {sz i tk kk kr krr : Nat} {rs : List Ray} {kus rus : List Value} {kn rn : List Int} {s₁ : Shared} {Q : Flow → Shared → Prop}
    (F : Fr h₀ L h' m') (N : News h₀ L h' big) (e0 : (I, oI) ∈ big) (e1 : (king, W.listOf kus.toArray kk) ∈ big) (e2 : (rays, W.listOf ((rs.map fun r => Value.ref r.a).toArray.push (.ref ray)) kr) ∈ big) (e3 : (gdx, od) ∈ big) (e4 : (ray, W.listOf rus.toArray krr) ∈ big) (e5 : ∀ p ∈ own', p ∈ big)
    (n1 : @Ne Nat king I) (n2 : @Ne Nat rays I) (n3 : @Ne Nat gdx I) (n4 : @Ne Nat ray I) (n5 : ∀ p ∈ own', p.1 ≠ I) (w1 : @Ne Nat ray king) (w2 : @Ne Nat ray rays) (w3 : @Ne Nat ray gdx)
    (hl : rs.length = i) (hr : ∀ r ∈ rs, RayOk sz own' r) (i1 : IntsAre kus kn) (l1 : kn.length = sz) (i2 : IntsAre rus rn) (l2 : rn.length = sz) (hs : ∀ p ∈ own, p ∈ own') (off : OwnOff own' [king, rays, gdx]) (hlt : ∀ r ∈ rs, ∀ q ∈ own, q.1 < r.a) (wl : ∀ q ∈ own', q.1 < ray) (hc : ∀ p ∈ cs, m' p.1 = some p.2) :
    PostJ h₀ L (JG cs (fun _ _ => []) (S3 king rays gdx od own sz) (i + 1)) I oI s₁ Q .next { s₁ with heap := h', toks := tk } := by
  rw [List.push_toArray] at e2
  refine pins_end (tp := 0) ((king, W.listOf kus.toArray kk) :: (rays, W.listOf ((rs ++ [(⟨ray, rus, rn, krr⟩ : Ray)]).map fun r => Value.ref r.a).toArray kr) :: (gdx, od) :: (ray, W.listOf rus.toArray krr) :: own') F N e0 ?_ ?_ hc (fun _ hp => nomatch hp)
    ⟨rs ++ [⟨ray, rus, rn, krr⟩], kus, kk, kn, kr, (ray, W.listOf rus.toArray krr) :: own', rfl, by rw [List.length_append, hl]; rfl, ?_, i1, l1, fun p hp => .tail _ (hs p hp), ?_, ?_⟩
  · intro p hp
    simp only [List.mem_cons] at hp
    rcases hp with rfl | rfl | rfl | rfl | hp
    · exact e1
    · rw [List.map_append]; exact e2
    · exact e3
    · exact e4
    · exact e5 p hp
  · intro p hp
    simp only [List.mem_cons] at hp
    rcases hp with rfl | rfl | rfl | rfl | hp
    · exact n1
    · exact n2
    · exact n3
    · exact n4
    · exact n5 p hp
  · intro r hr'
    rcases List.mem_append.mp hr' with h | h
    · exact (hr r h).mono fun p hp => .tail _ hp
    · rw [List.mem_singleton.mp h]
      exact ⟨.head _, i2, l2⟩
  · intro p hp q hq
    rcases List.mem_cons.mp hp with rfl | hp
    · simp only [List.mem_cons, List.not_mem_nil, or_false] at hq
      rcases hq with rfl | rfl | rfl
      · exact w1
      · exact w2
      · exact w3
    · exact off p hp q hq
  · intro r hr' q hq
    rcases List.mem_append.mp hr' with h | h
    · exact hlt r h q hq
    · rw [List.mem_singleton.mp h]
      exact wl q (hs q hq)
end
section
section
variable {prog : Program} {w : World} {A : Around} {E : Value → Shared → Prop} {s : Shared} {env : Env} {h₀ : Heap} {body : List Stmt} {Q : Flow → Shared → Prop}
theorem rays_loop {r kx rl gx gdx : Addr} {t₀ u₀ v₀ : Tok} {m₀ : Str → Option Value} {news own : List (Addr × Obj)} {es : List DictEntry} {n sz kk kr : Nat} {kus : List Value} {kn : List Int}
    (hh : A.handled = none) (F : Fr h₀ env.locals s.heap m₀) (N : News h₀ env.locals s.heap news) (hr : (r, rangeO 0 8 1 t₀ u₀ v₀) ∈ news) (e3 : (gdx, dictOf es n) ∈ news) (hk : getL (Str.ofString "king") es = some (some (.ref kx))) (e1 : (kx, W.listOf kus.toArray kk) ∈ news) (e2 : (rl, W.listOf #[] kr) ∈ news) (e4 : ∀ p ∈ own, p ∈ news)
    (i1 : IntsAre kus kn) (l1 : kn.length = sz) (hc : m₀ (Str.ofString "geo") = some (.ref gx)) (o1 : ∀ p ∈ own, p.1 ≠ kx) (o2 : ∀ p ∈ own, p.1 ≠ rl) (o3 : ∀ p ∈ own, p.1 ≠ gdx)
    (turn : ∀ (i : Nat) t (u : Str → Option Value) h tk I oI kus kk kn kr rvs (rs : List Ray) own', i < 8 → @Ne Nat kx I → @Ne Nat rl I → @Ne Nat gdx I → (∀ p ∈ own', p.1 ≠ I) → rvs = (rs.map fun r => Value.ref r.a) → rvs.length < 10 → rs.length = i → (∀ r ∈ rs, RayOk sz own' r) → IntsAre kus kn → kn.length = sz → (∀ p ∈ own, p ∈ own') → (∀ p ∈ own', p.1 ≠ kx) → (∀ p ∈ own', p.1 ≠ rl) → (∀ p ∈ own', p.1 ≠ gdx) → (∀ r ∈ rs, ∀ q ∈ own, q.1 < r.a) →
      Fr h₀ env.locals h (fun y => if y = Str.ofString "d" then some (.int (i : Int) t) else if y = Str.ofString "geo" then some (.ref gx) else u y) → News h₀ env.locals h ((I, oI) :: (kx, W.listOf kus.toArray kk) :: (rl, W.listOf rvs.toArray kr) :: (gdx, dictOf es n) :: own') →
      wpAny (model prog w) A (execs body env) (PostJ h₀ env.locals (JG [(Str.ofString "geo", .ref gx)] (fun _ _ => []) (S3 kx rl gdx (dictOf es n) own sz) (i + 1)) I oI { s with heap := h, toks := tk } Q) E { s with heap := h, toks := tk })
    (done : ∀ (u : Str → Option Value) h tk kus kk kn kr (rs : List Ray) own', rs.length = 8 → (∀ r ∈ rs, RayOk sz own' r) → IntsAre kus kn → kn.length = sz → (∀ p ∈ own, p ∈ own') → OwnOff own' [kx, rl, gdx] → (∀ r ∈ rs, ∀ q ∈ own, q.1 < r.a) →
      Fr h₀ env.locals h (fun y => if y = Str.ofString "geo" then some (.ref gx) else u y) → News h₀ env.locals h ((kx, W.listOf kus.toArray kk) :: (rl, W.listOf (rs.map fun r => Value.ref r.a).toArray kr) :: (gdx, dictOf es n) :: own') → Q .next { s with heap := h, toks := tk }) :
    wpAny (model prog w) A (pyIter (.ref r)) (fun it s₂ => LoopAtV prog w A h₀ env (Str.ofString "d") body Q E it s₂) E s := by
  refine range_pins (nx₀ := (kx, W.listOf kus.toArray kk) :: (rl, W.listOf #[] kr) :: (gdx, dictOf es n) :: own) (tp := 0) (ta := 0) (tb := 0) (tc := 0) (td := 0) 8 (fun _ _ _ _ => [(Str.ofString "geo", .ref gx)]) (fun _ _ => []) (S3 kx rl gdx (dictOf es n) own sz) hh (range_is N hr) (by decide) (by decide) F N ?_ ?_ (fun _ hp => nomatch hp) ⟨[], kus, kk, kn, kr, own, rfl, rfl, (fun _ hp => nomatch hp), i1, l1, fun _ hp => hp, ?_, fun _ hp => nomatch hp⟩ ?_ ?_
  · intro p hp
    simp only [List.mem_cons] at hp
    rcases hp with rfl | rfl | rfl | hp
    · exact e1
    · exact e2
    · exact e3
    · exact e4 p hp
  · intro p hp
    rw [List.mem_singleton.mp hp]; exact hc
  · intro p hp q hq
    simp only [List.mem_cons, List.not_mem_nil, or_false] at hq
    rcases hq with rfl | rfl | rfl
    · exact o1 p hp
    · exact o2 p hp
    · exact o3 p hp
  · rintro i t tp u nx h tk I oI hi hne ⟨rs, kus, kk, kn, kr, own', rfl, hl, hok, i1, l1, hs, off, hlt⟩ F₁ N₁
    rw [show (0 + (i : Int) * 1) = (i : Int) from by omega] at F₁
    exact turn i t u h tk I oI kus kk kn kr _ rs own' hi (hne _ (.head _)) (hne _ (.tail _ (.head _))) (hne _ (.tail _ (.tail _ (.head _)))) (fun p hp => hne p (.tail _ (.tail _ (.tail _ hp)))) rfl (by rw [List.length_map]; omega) hl hok i1 l1 hs (fun p hp => off p hp _ (.head _)) (fun p hp => off p hp _ (.tail _ (.head _))) (fun p hp => off p hp _ (.tail _ (.tail _ (.head _)))) hlt F₁ N₁
  · rintro tp u nx h tk ⟨rs, kus, kk, kn, kr, own', rfl, hl, hok, i1, l1, hs, off, hlt⟩ F₁ N₁
    exact done u h tk kus kk kn kr rs own' hl hok i1 l1 hs off hlt F₁ N₁
end
theorem rays_end {king rays gdx ray I gx : Addr} {od oI : Obj} {own own' big : List (Addr × Obj)} {h₀ h' : Heap} {L : Addr} {m' : Str → Option Value} {sz i tk kk kr krr : Nat} {rs : List Ray} {rvs kus rus : List Value} {kn rn : List Int} {s₁ : Shared} {Q : Flow → Shared → Prop}
    (F : Fr h₀ L h' m') (N : News h₀ L h' big) (e0 : (I, oI) ∈ big) (e1 : (king, W.listOf kus.toArray kk) ∈ big) (e2 : (rays, W.listOf (rvs.toArray.push (.ref ray)) kr) ∈ big) (e3 : (gdx, od) ∈ big) (e4 : (ray, W.listOf rus.toArray krr) ∈ big) (e5 : ∀ p ∈ own', p ∈ big)
    (n1 : @Ne Nat king I) (n2 : @Ne Nat rays I) (n3 : @Ne Nat gdx I) (n4 : @Ne Nat ray I) (n5 : ∀ p ∈ own', p.1 ≠ I) (w1 : @Ne Nat ray king) (w2 : @Ne Nat ray rays) (w3 : @Ne Nat ray gdx) (hv : rvs = rs.map fun r => Value.ref r.a)
    (hl : rs.length = i) (hr : ∀ r ∈ rs, RayOk sz own' r) (i1 : IntsAre kus kn) (l1 : kn.length = sz) (i2 : IntsAre rus rn) (l2 : rn.length = sz) (hs : ∀ p ∈ own, p ∈ own') (o1 : ∀ p ∈ own', p.1 ≠ king) (o2 : ∀ p ∈ own', p.1 ≠ rays) (o3 : ∀ p ∈ own', p.1 ≠ gdx) (hlt : ∀ r ∈ rs, ∀ q ∈ own, q.1 < r.a) (wl : ∀ q ∈ own', q.1 < ray) (hc : m' (Str.ofString "geo") = some (.ref gx)) :
    PostJ h₀ L (JG [(Str.ofString "geo", .ref gx)] (fun _ _ => []) (S3 king rays gdx od own sz) (i + 1)) I oI s₁ Q .next { s₁ with heap := h', toks := tk } := by
  subst hv
  refine s3_end F N e0 e1 e2 e3 e4 e5 n1 n2 n3 n4 n5 w1 w2 w3 hl hr i1 l1 i2 l2 hs ?_ hlt wl ?_
  · intro p hp q hq
    simp only [List.mem_cons, List.not_mem_nil, or_false] at hq
    rcases hq with rfl | rfl | rfl
    · exact o1 p hp
    · exact o2 p hp
    · exact o3 p hp
  · intro p hp
    rw [List.mem_singleton.mp hp]; exact hc
section
variable {prog : Program} {w : World} {A : Around} {E : Value → Shared → Prop} {s : Shared} {env : Env} {h₀ : Heap} {body : List Stmt} {Q : Flow → Shared → Prop}
noncomputable def rcs (gx ray : Addr) (inn del : Int) (ti td _tc _te : Tok) : List (Str × Value) := [(Str.ofString "geo", .ref gx), (Str.ofString "ray", .ref ray), (Str.ofString "inner", .int inn ti), (Str.ofString "delta", .int del td)]
theorem ray_loop {r ray king rl gx gdx I₀ : Addr} {sz a b c inn del : Int} {t₀ u₀ v₀ ti td : Tok} {m₀ : Str → Option Value} {news own : List (Addr × Obj)} {rus kus rvs : List Value} {rn kn : List Int} {krr kk kr n : Nat} {es : List DictEntry} {oI₀ : Obj}
    (hh : A.handled = none) (hr : IsRange s.heap r a b c t₀ u₀ v₀) (ho : OrdOk sz a b c) (z1 : 1 ≤ sz) (z2 : sz ≤ 100) (F : Fr h₀ env.locals s.heap m₀) (N : News h₀ env.locals s.heap news)
    (c1 : m₀ (Str.ofString "geo") = some (.ref gx)) (c2 : m₀ (Str.ofString "ray") = some (.ref ray)) (c3 : m₀ (Str.ofString "inner") = some (.int inn ti)) (c4 : m₀ (Str.ofString "delta") = some (.int del td))
    (e3 : (gdx, dictOf es n) ∈ news) (hk : getL (Str.ofString "king") es = some (some (.ref king))) (hl : getL (Str.ofString "rays") es = some (some (.ref rl))) (e1 : (ray, W.listOf rus.toArray krr) ∈ news) (e2 : (king, W.listOf kus.toArray kk) ∈ news) (e4 : (rl, W.listOf rvs.toArray kr) ∈ news) (e5 : (I₀, oI₀) ∈ news) (e6 : ∀ p ∈ own, p ∈ news)
    (i1 : IntsAre rus rn) (l1 : rn.length = sz.toNat) (i2 : IntsAre kus kn) (l2 : kn.length = sz.toNat)
    (turn : ∀ (i : Nat) sq t (u : Str → Option Value) h tk I oI rus krr kus kk rn kn, 0 ≤ sq → sq < sz → @Ne Nat ray I → @Ne Nat king I → @Ne Nat I₀ I → @Ne Nat rl I → @Ne Nat gdx I → (∀ p ∈ own, p.1 ≠ I) → IntsAre rus rn → rn.length = sz.toNat → IntsAre kus kn → kn.length = sz.toNat → Fr h₀ env.locals h (fun y => if y = Str.ofString "square" then some (.int sq t) else if y = Str.ofString "geo" then some (.ref gx) else if y = Str.ofString "ray" then some (.ref ray) else if y = Str.ofString "inner" then some (.int inn ti) else if y = Str.ofString "delta" then some (.int del td) else u y) → News h₀ env.locals h ((I, oI) :: (ray, W.listOf rus.toArray krr) :: (king, W.listOf kus.toArray kk) :: (I₀, oI₀) :: (rl, W.listOf rvs.toArray kr) :: (gdx, dictOf es n) :: own) →
      wpAny (model prog w) A (execs body env) (PostJ h₀ env.locals (JG (rcs gx ray inn del ti td 0 0) (fun _ _ => []) (S2 ray king ((I₀, oI₀) :: (rl, W.listOf rvs.toArray kr) :: (gdx, dictOf es n) :: own) sz.toNat) (i + 1)) I oI { s with heap := h, toks := tk } Q) E { s with heap := h, toks := tk })
    (done : ∀ (u : Str → Option Value) h tk rus krr kus kk rn kn, IntsAre rus rn → rn.length = sz.toNat → IntsAre kus kn → kn.length = sz.toNat → Fr h₀ env.locals h (fun y => if y = Str.ofString "geo" then some (.ref gx) else if y = Str.ofString "ray" then some (.ref ray) else if y = Str.ofString "inner" then some (.int inn ti) else if y = Str.ofString "delta" then some (.int del td) else u y) → News h₀ env.locals h ((ray, W.listOf rus.toArray krr) :: (king, W.listOf kus.toArray kk) :: (I₀, oI₀) :: (rl, W.listOf rvs.toArray kr) :: (gdx, dictOf es n) :: own) → Q .next { s with heap := h, toks := tk }) :
    wpAny (model prog w) A (pyIter (.ref r)) (fun it s₂ => LoopAtV prog w A h₀ env (Str.ofString "square") body Q E it s₂) E s := by
  refine ord_loop (rest := (I₀, oI₀) :: (rl, W.listOf rvs.toArray kr) :: (gdx, dictOf es n) :: own) (ta := ti) (tb := td) (tc := 0) (td := 0) (rcs gx ray inn del) hh hr ho z1 z2 F N e1 e2 ?_ i1 l1 i2 l2 ?_ ?_ ?_
  · intro p hp
    simp only [List.mem_cons] at hp
    rcases hp with rfl | rfl | rfl | hp
    · exact e5
    · exact e4
    · exact e3
    · exact e6 p hp
  · intro p hp
    simp only [rcs, List.mem_cons, List.not_mem_nil, or_false] at hp
    rcases hp with rfl | rfl | rfl | rfl
    · exact c1
    · exact c2
    · exact c3
    · exact c4
  · rintro i sq t u h tk I oI rus krr kus kk rn kn q1 q2 n1 n2 n3 i1 l1 i2 l2 F₁ N₁
    exact turn i sq t u h tk I oI rus krr kus kk rn kn q1 q2 n1 n2 (n3 _ (.head _)) (n3 _ (.tail _ (.head _))) (n3 _ (.tail _ (.tail _ (.head _)))) (fun p hp => n3 p (.tail _ (.tail _ (.tail _ hp)))) i1 l1 i2 l2 F₁ N₁
  · rintro u h tk rus krr kus kk rn kn i1 l1 i2 l2 F₁ N₁
    exact done u h tk rus krr kus kk rn kn i1 l1 i2 l2 F₁ N₁
end
theorem ray_end {ray king I I₀ rl gx gdx : Addr} {own big : List (Addr × Obj)} {h₀ h' : Heap} {L : Addr} {m' : Str → Option Value} {oI oI₀ : Obj} {inn del : Int} {ti td : Tok} {sz i tk krr kk kr n : Nat} {rus kus rvs : List Value} {es : List DictEntry} {rn kn : List Int} {s₁ : Shared} {Q : Flow → Shared → Prop}
    (F : Fr h₀ L h' m') (N : News h₀ L h' big) (e0 : (I, oI) ∈ big) (e1 : (ray, W.listOf rus.toArray krr) ∈ big) (e2 : (king, W.listOf kus.toArray kk) ∈ big) (e3 : (I₀, oI₀) ∈ big) (e4 : (rl, W.listOf rvs.toArray kr) ∈ big) (e5 : (gdx, dictOf es n) ∈ big) (e6 : ∀ p ∈ own, p ∈ big) (h1 : @Ne Nat ray I) (h2 : @Ne Nat king I) (h3 : @Ne Nat I₀ I) (h4 : @Ne Nat rl I) (h5 : @Ne Nat gdx I) (h6 : ∀ p ∈ own, p.1 ≠ I)
    (i1 : IntsAre rus rn) (l1 : rn.length = sz) (i2 : IntsAre kus kn) (l2 : kn.length = sz)
    (c1 : m' (Str.ofString "geo") = some (.ref gx)) (c2 : m' (Str.ofString "ray") = some (.ref ray)) (c3 : m' (Str.ofString "inner") = some (.int inn ti)) (c4 : m' (Str.ofString "delta") = some (.int del td)) :
    PostJ h₀ L (JG (rcs gx ray inn del ti td 0 0) (fun _ _ => []) (S2 ray king ((I₀, oI₀) :: (rl, W.listOf rvs.toArray kr) :: (gdx, dictOf es n) :: own) sz) (i + 1)) I oI s₁ Q .next { s₁ with heap := h', toks := tk } := by
  refine s2_end F N e0 e1 e2 ?_ h1 h2 ?_ i1 l1 i2 l2 ?_
  · intro p hp
    simp only [List.mem_cons] at hp
    rcases hp with rfl | rfl | rfl | hp
    · exact e3
    · exact e4
    · exact e5
    · exact e6 p hp
  · intro p hp
    simp only [List.mem_cons] at hp
    rcases hp with rfl | rfl | rfl | hp
    · exact h3
    · exact h4
    · exact h5
    · exact h6 p hp
  · intro p hp
    simp only [rcs, List.mem_cons, List.not_mem_nil, or_false] at hp
    rcases hp with rfl | rfl | rfl | rfl
    · exact c1
    · exact c2
    · exact c3
    · exact c4
end
section
theorem allLt_all2 {d : Addr} : ∀ {l : List (Addr × Obj)}, AllLt d l → ∀ p ∈ l, p.1 < d
  | [], _, _, hp => (nomatch hp)
  | q :: r, h, p, hp => by
    rcases List.mem_cons.mp hp with rfl | hp
    · exact h.1
    · exact allLt_all2 h.2 p hp
theorem some_of {x : Str} {es : List DictEntry} {v : Option Value} (h : getL x es = some v) : (getL x es).isSome = true := by rw [h]; rfl
theorem getL_putk {a b : Str} {hsh : Int} {tk : Tok} {v : Value} {es : List DictEntry} {r : Option (Option Value)} (h : getL b es = r) (hab : a ≠ b) : getL b (putL a hsh (.str a tk) v es) = r := (getL_put hab).trans h
section
set_option maxHeartbeats 4000000
theorem rays0 {w : World} {mean : ExcName → Option Value} {mg mb : Str → Option Value} {dp un : Nat} {gd : Option (List Code)} {cn : Str} {cs : Scope} {a : Addr} {ccd : Value} {cl : List (Str × Addr)} {outer : List Env} {A₀ : Around} {base h₀ : Heap} {L : Addr} {m : Str → Option Value} {own : List (Addr × Obj)} {s : Shared} {Q E : Value → Shared → Prop} {f : Int} {gx gdx fm rm rl : Addr} {es : List DictEntry} {n k1 k2 kr : Nat} {t1 t2 t3 t4 : Nat} {us vs : List Value} {v0 : Option Value}
    (B : Below A₀ base outer h₀) (F : Fr h₀ L s.heap m) (X : (ktop.heap_1 w.params).In h₀) (N : News h₀ L s.heap ((gdx, dictOf es n) :: (rl, W.listOf #[] kr) :: own)) (T : Top vw (looseW vw loose) mean mg mb h₀) (hk : cs.kind = .function) (h1 : 3 ≤ f) (h2 : f ≤ 8)
    (hg : (gx, instObj 225 gdx) ∈ own) (a1 : getL (Str.ofString "files") es = some (some (.int f t1))) (a2 : getL (Str.ofString "ranks") es = some (some (.int 4 t2))) (a3 : getL (Str.ofString "file_masks") es = some (some (.ref fm))) (a4 : getL (Str.ofString "rank_masks") es = some (some (.ref rm))) (a5 : getL (Str.ofString "full") es = some (some (.int (fullM f) t3)))
    (a6 : getL (Str.ofString "size") es = some (some (.int (f * 4) t4))) (a7 : getL (Str.ofString "rays") es = some (some (.ref rl))) (a8 : getL (Str.ofString "king") es = some v0) (hlen : es.length ≤ 100)
    (hm1 : (rm, W.listOf us.toArray k1) ∈ own) (hm2 : (fm, W.listOf vs.toArray k2) ∈ own) (i1 : IntsAre us (rmT f 4)) (i2 : IntsAre vs (fmT f f.toNat))
    (o1 : ∀ p ∈ own, p.1 ≠ gdx) (o2 : ∀ p ∈ own, p.1 ≠ rl) (hne : @Ne Nat rl gdx)
    (hdp : dp + 9 < recursionLimit) (hun : un + 90 < cLine)
    (ret : ∀ kx kus kk kn kr' n' (rs : List Ray) own' hsh tk0 h' tk', rs.length = 8 → (∀ r ∈ rs, RayOk (f * 4).toNat own' r) → IntsAre kus kn → kn.length = (f * 4).toNat → (∀ p ∈ own, p ∈ own') → OwnOff own' [kx, rl, gdx] → (∀ r ∈ rs, ∀ q ∈ own, q.1 < r.a) → (∀ q ∈ own, q.1 < kx) → @Ne Nat kx rl → @Ne Nat kx gdx → Fr h₀ L h' m →
      News h₀ L h' ((kx, W.listOf kus.toArray kk) :: (rl, W.listOf (rs.map fun r => Value.ref r.a).toArray kr') :: (gdx, dictOf (putL (Str.ofString "king") hsh (.str (Str.ofString "king") tk0) (.ref kx) es) n') :: own') → Q .none { s with heap := h', toks := tk' }) :
    wpAny (model PySem.Challenge.rw_pf0096_01.row.prog w) (ktrTop dp un gd cn cs L a ccd cl outer) (call (.ref 257) [.ref gx]) Q E s := by
  k_with_none
  k_with "room0" => ((try simp only [depth_under_make, depth_under_kw, depth_in1, depth_deeper, depth_caller]); (try dsimp only [ktrTop]); (first | exact lq0 (by with_reducible assumption) | exact lq1 (by with_reducible assumption) (by rfl) | exact lq2 (by with_reducible assumption) (by rfl) | exact lq3 (by with_reducible assumption) (by rfl) | exact lq4 (by with_reducible assumption) (by rfl) | exact lq5 (by with_reducible assumption) (by rfl) | exact lq6 (by with_reducible assumption) (by rfl) | omega))
  k_with "units0" => ((try simp only [units_in1, units_deeper, Around.mark_units, units_caller]); (try dsimp only [ktrTop]); (first | exact lq0 (by with_reducible assumption) | exact lq1 (by with_reducible assumption) (by rfl) | exact lq2 (by with_reducible assumption) (by rfl) | exact lq3 (by with_reducible assumption) (by rfl) | exact lq4 (by with_reducible assumption) (by rfl) | exact lq5 (by with_reducible assumption) (by rfl) | exact lq6 (by with_reducible assumption) (by rfl) | omega))
  k_with "all0" => (first | assumption | exact allLt_ne (by assumption) | exact allLt_ne (And.right (by assumption)) | exact allLt_ne (And.right (And.right (by assumption))) | exact allLt_ne (And.right (And.right (And.right (by assumption)))) | exact allLt_ne (And.right (And.right (And.right (And.right (by assumption))))) | exact allLt_ne (And.right (And.right (And.right (And.right (And.right (by assumption)))))) | exact allLt_ne (And.right (And.right (And.right (And.right (And.right (And.right (by assumption))))))) | exact allLt_ne (And.right (And.right (And.right (And.right (And.right (And.right (And.right (by assumption)))))))) | exact allLt_ne (And.right (And.right (And.right (And.right (And.right (And.right (And.right (And.right (by assumption))))))))) | exact allLt_ne (And.right (And.right (And.right (And.right (And.right (And.right (And.right (And.right (And.right (by assumption)))))))))) | exact allLt_ne (And.right (And.right (And.right (And.right (And.right (And.right (And.right (And.right (And.right (And.right (by assumption))))))))))) | exact allLt_ne (And.right (And.right (And.right (And.right (And.right (And.right (And.right (And.right (And.right (And.right (And.right (by assumption)))))))))))) | exact allLt_ne (And.right (And.right (And.right (And.right (And.right (And.right (And.right (And.right (And.right (And.right (And.right (And.right (by assumption))))))))))))) | exact allLt_ne (And.right (And.right (And.right (And.right (And.right (And.right (And.right (And.right (And.right (And.right (And.right (And.right (And.right (by assumption)))))))))))))) | exact allLt_ne (And.right (And.right (And.right (And.right (And.right (And.right (And.right (And.right (And.right (And.right (And.right (And.right (And.right (And.right (by assumption))))))))))))))) | exact allLt_ne (And.right (And.right (And.right (And.right (And.right (And.right (And.right (And.right (And.right (And.right (And.right (And.right (And.right (And.right (And.right (by assumption)))))))))))))))) | exact allLt_ne (And.right (And.right (And.right (And.right (And.right (And.right (And.right (And.right (And.right (And.right (And.right (And.right (And.right (And.right (And.right (And.right (by assumption))))))))))))))))) | exact allLt_ne (And.right (And.right (And.right (And.right (And.right (And.right (And.right (And.right (And.right (And.right (And.right (And.right (And.right (And.right (And.right (And.right (And.right (by assumption)))))))))))))))))) | exact ltAll_ne (by assumption))
  k_with "cj" => (first | with_reducible exact And.left | (with_reducible refine cjR ?_; k_extra "cj"))
  k_with "ne0" => ((refine neN ?_; (try dsimp only); first | with_reducible assumption | exact Ne.symm (by with_reducible assumption) | exact Nat.ne_of_lt (by with_reducible assumption) | exact Nat.ne_of_gt (by with_reducible assumption) | exact neL (by with_reducible assumption) (by k_extra "cj") | exact neG (by with_reducible assumption) (by k_extra "cj") | exact neLT (by with_reducible assumption) (by with_reducible assumption) (by k_extra "cj") | exact neGT (by with_reducible assumption) (by with_reducible assumption) (by k_extra "cj")))
  k_with "steps0" => (repeat' (first | (k_unfold; (try dsimp only)) | (k_end; wrow_close) | (walk1; all_goals (try dsimp only)) | (dsimp only; walk1; all_goals (try dsimp only)) | (leave1; walk_say "STEP leave1"; try dsimp only) | fail "no step"))
  k_with "exec For Name Call cons nil" => ((k_here; k_dflt (refine' For_invVF ?F rfl rfl ?_; (case F => k_asm))))
  k_with "exec For Name Name cons nil" => ((k_here; k_dflt (refine' For_invVF ?F rfl rfl ?_; (case F => k_asm))))
  k_with "pyIter ref" => (refine Stop.mk' ?_)
  k_with "getAttr ref" => ((k_here; k_dflt (refine' get_own ?k1 ?k2 ?k3 ?k4 ?k5 ?k6 ?k7 ?k8 ?k9 ?_; (case k1 => k_asm); (case k2 => k_asm); (case k3 => k_inst); (case k4 => k_is); (case k5 => k_is); (case k6 => k_is); (case k7 => k_is); (case k8 => walk_at "gl9"); (case k9 => first | rfl | k_handed); k_whole)))
  k_with "setAttr ref" => ((k_here; k_dflt (refine' set_dict ?k1 ?k2 ?k3 ?k4 ?k5 ?k6 ?k7 ?k8 ?k9 ?k10 ?k11 ?k12 ?k13 ?_; (case k1 => k_asm); (case k2 => k_asm); (case k3 => k_asm); (case k4 => k_inst); (case k5 => exact rfl); (case k6 => k_is); (case k7 => k_is); (case k8 => k_is); (case k9 => k_is); (case k10 => exact some_of (by assumption)); (case k11 => exact rfl); (case k12 => k_upd); (case k13 => exact Nat.le_trans (putL_len _ _ _ _ _) (by omega)); k_whole; intro h'z F'z N'z; (try k_sweep))))
  k_with "binaryOp LShift int int" => ((k_here; (refine' lshift_int_small ?b1 ?b2 ?b3 ?_; (case b1 => omega); (case b2 => omega); (case b3 => first | decide | assumption))))
  k_with "binaryOp Mult ref int" => ((k_here; k_dflt (refine' mul_zeros ?F ?N ?m ?h0 ?h1 ?_; (case F => k_asm); (case N => k_asm); (case m => k_mem); (case h0 => omega); (case h1 => omega)); intro D'z h'z us'z F'z N'z i1'z l1z; (try k_lt l1z); (try k_sweep)))
  k_with "call type:range" => ((k_here; k_dflt (first
  | (refine' range_new1 ?F ?N ?_; (case F => k_asm); (case N => k_asm); intro D'z h'z tk'z t'z u'z v'z F'z N'z l1z; (try k_lt l1z); (try k_sweep))
  | (refine' range_new3 ?F ?N ?c ?a ?_; (case F => k_asm); (case N => k_asm); (case c => decide); (case a => omega); intro D'z h'z F'z N'z l1z; (try k_lt l1z); (try k_sweep)))))
  k_with "gl9" => (first | assumption | exact getL_put_self | exact getL_putk (by assumption) (by decide))
  k_with "call ref" => ((k_here; (with_reducible show wpAny _ _ (call (Value.ref 250) _) _ _ _); k_dflt (refine' inner0 ?B ?F ?X ?N ?T ?hk ?p1 ?p2 ?p3 ?p4 ?q1 ?q2 ?a1 ?a2 ?a3 ?a4 ?a5 ?m1 ?m2 ?i1 ?i2 ?dp ?un ?_; (case B => k_asm); (case F => k_asm); (case X => k_asm); (case N => k_asm); (case T => k_asm); (case hk => first | exact rfl | assumption); (case p1 => assumption); (case p2 => assumption); (case p3 => omega); (case p4 => omega); (case q1 => k_mem); (case q2 => k_mem); (case a1 => walk_at "gl9"); (case a2 => walk_at "gl9"); (case a3 => walk_at "gl9"); (case a4 => walk_at "gl9"); (case a5 => walk_at "gl9"); (case m1 => k_mem); (case m2 => k_mem); (case i1 => assumption); (case i2 => assumption); (case dp => k_room); (case un => k_units)); intro t'z h'z tk'z F'z N'z; (try k_sweep)))
  k_with "call ref" => ((k_here; (with_reducible show wpAny _ _ (call (Value.ref 236) _) _ _ _); k_dflt (refine' grow0 ?B ?F ?X ?N ?T ?hk ?p1 ?p2 ?dp ?un ?_; (case B => k_asm); (case F => k_asm); (case X => k_asm); (case N => k_asm); (case T => k_asm); (case hk => first | exact rfl | assumption); (case p1 => omega); (case p2 => omega); (case dp => k_room); (case un => k_units)); intro h'z tk'z F'z N'z; (try k_sweep)))
  k_with "oend" => ((k_dflt (refine' meetO_end ?F ?N ?hs ?hr ?ho ?hx ?hy; (case F => k_asm); (case N => k_asm); (case hs => (intro pz hpz; first | (with_reducible exact hpz) | (with_reducible exact List.mem_cons_of_mem _ hpz))); (case hx => rfl); (case hr => k_mem); (case ho => first | exact .inl ⟨rfl, rfl, rfl⟩ | exact .inr ⟨rfl, rfl, rfl⟩); (case hy => (intro yz hy; first | (with_reducible rfl) | exact if_neg hy)))))
  k_with "rend" => ((k_dflt (refine' ray_end ?F ?N ?e0 ?e1 ?e2 ?e3 ?e4 ?e5 ?e6 ?h1 ?h2 ?h3 ?h4 ?h5 ?h6 ?i1 ?l1 ?i2 ?l2 ?c1 ?c2 ?c3 ?c4; (case F => k_asm); (case N => k_asm); (case e0 => k_mem); (case e1 => k_mem); (case e2 => k_mem); (case e3 => k_mem); (case e4 => k_mem); (case e5 => k_mem); (case e6 => (intro pz hpz; k_ownIn)); (case h1 => assumption); (case h2 => assumption); (case h3 => assumption); (case h4 => assumption); (case h5 => assumption); (case h6 => assumption); (case i1 => assumption); (case l1 => first | assumption | (simp only [List.length_set]; assumption)); (case i2 => assumption); (case l2 => first | assumption | (simp only [List.length_set]; assumption)); (case c1 => rfl); (case c2 => rfl); (case c3 => rfl); (case c4 => rfl))))
  k_with "lt9" => (first | assumption | exact allLt_all2 (by assumption) | exact allLt_all2 (And.right (by assumption)) | exact allLt_all2 (And.right (And.right (by assumption))) | exact allLt_all2 (And.right (And.right (And.right (by assumption)))) | exact allLt_all2 (And.right (And.right (And.right (And.right (by assumption))))) | exact allLt_all2 (And.right (And.right (And.right (And.right (And.right (by assumption)))))) | exact allLt_all2 (And.right (And.right (And.right (And.right (And.right (And.right (by assumption))))))) | exact allLt_all2 (And.right (And.right (And.right (And.right (And.right (And.right (And.right (by assumption)))))))) | exact allLt_all2 (And.right (And.right (And.right (And.right (And.right (And.right (And.right (And.right (by assumption))))))))) | exact allLt_all2 (And.right (And.right (And.right (And.right (And.right (And.right (And.right (And.right (And.right (by assumption)))))))))))
  k_with "qend" => ((k_dflt (refine' rays_end ?F ?N ?e0 ?e1 ?e2 ?e3 ?e4 ?e5 ?n1 ?n2 ?n3 ?n4 ?n5 ?w1 ?w2 ?w3 ?hv ?hl ?hr ?i1 ?l1 ?i2 ?l2 ?hs ?o1 ?o2 ?o3 ?hlt ?wl ?hc; (case F => k_asm); (case N => k_asm); (case e0 => k_mem); (case e1 => k_mem); (case e2 => k_mem); (case e3 => k_mem); (case e4 => k_mem); (case n1 => assumption); (case n2 => assumption); (case n3 => assumption); (case n4 => k_ne); (case w1 => k_ne); (case w2 => k_ne); (case w3 => k_ne); (case hv => assumption); (case hl => assumption); (case hr => assumption); (case n5 => assumption); (case e5 => (intro pz hpz; k_ownIn)); (case i1 => assumption); (case l1 => assumption); (case i2 => assumption); (case l2 => assumption); (case hs => assumption); (case o1 => assumption); (case o2 => assumption); (case o3 => assumption); (case hlt => assumption); (case wl => walk_at "lt9"); (case hc => rfl))))
  k_with "exec If" => (((fail_if_success (with_reducible show wpAny _ _ _ (MeetO _ _ _ _ _ _) _ _)); (with_reducible show wpAny _ _ (exec (Stmt.If (Expr.Call _ _ _ _) _ _ _) _) _ _ _); refine Stop.mk' ?_))
  k_with "pins9" => (((try dsimp only); first | exact List.forall_mem_nil _ | (refine List.forall_mem_cons.mpr ⟨rfl, ?_⟩; k_extra "pins9")))
  revert X; k_fill; intro X
  refine wpAny_call ?_
  k_dflt ktr_enter
  k_steps
  unfold Stop
  k_dflt (refine' rays_loop (own := own) (sz := (f * 4).toNat) ?hh ?F ?N ?hr ?e3 ?hk ?e1 ?e2 ?e4 ?i1 ?l1 ?hc ?o1 ?o2 ?o3 ?turn ?done)
  (case hh => exact rfl)
  (case F => k_asm)
  (case N => k_asm)
  (case hr => k_mem)
  (case e3 => k_mem)
  (case hk => exact getL_put_self)
  (case e1 => k_mem)
  (case e2 => k_mem)
  (case e4 => intro p hp; k_ownIn)
  (case i1 => assumption)
  (case l1 => exact List.length_replicate)
  (case hc => rfl)
  (case o1 => k_all)
  (case o2 => assumption)
  (case o3 => assumption)
  (case turn =>
    intro i' t' u' h' tk' I' oI' kus' kk' kn' kr' rvs' rs' own' hi' hn1' hn2' hn3' hoI' hv' hvl' hrl' hr' i1' l1' hs' o1' o2' o3' hlt' F' N'
    have hg2 := hs' _ hg
    have hm12 := hs' _ hm1
    have hm22 := hs' _ hm2
    (try (dsimp only at F' N'))
    (try dsimp only)
    (try k_fold)
    k_steps
    unfold Stop
    k_dflt (refine' meetO ?F ?N ?h ?hm ?g1 ?g2)
    (case F => k_asm)
    (case N => k_asm)
    (case h => k_mem)
    (case hm => rfl)
    (case g1 =>
      k_steps
      all_goals walk_at "oend")
    (case g2 =>
      intro h' tk' r' a' b' c' t' u' v' F' N' hr' ho'
      (try dsimp only at F')
      (try dsimp only)
      (try k_fold)
      k_steps
      unfold Stop
      k_dflt (refine' ray_loop (own := own') (sz := f * 4) ?hh2 ?hr2 ?ho2 ?z12 ?z22 ?F2 ?N2 ?c12 ?c22 ?c32 ?c42 ?e32 ?hk2 ?hl2 ?e12 ?e22 ?e42 ?e52 ?e62 ?i12 ?l12 ?i22 ?l22 ?turn2 ?done2)
      (case hh2 => exact rfl)
      (case hr2 => assumption)
      (case ho2 => assumption)
      (case z12 => omega)
      (case z22 => omega)
      (case F2 => k_asm)
      (case N2 => k_asm)
      (case c12 => rfl)
      (case c22 => rfl)
      (case c32 => rfl)
      (case c42 => rfl)
      (case e32 => k_mem)
      (case hk2 => walk_at "gl9")
      (case hl2 => walk_at "gl9")
      (case e12 => k_mem)
      (case e22 => k_mem)
      (case e42 => k_mem)
      (case e52 => exact (show (I', oI') ∈ _ by k_mem))
      (case e62 => intro p hp; k_ownIn)
      (case i12 => assumption)
      (case l12 => exact List.length_replicate)
      (case i22 => assumption)
      (case l22 => assumption)
      (case turn2 =>
        intro i2' sq' t2' u2' h2' tk2' I2' oI2' rus' krr' kus2' kk2' rn' kn2' q1' q2' n1' n2' n3' n4' n5' n6' j1' j2' j3' j4' F' N'
        (try (dsimp only at F' N'))
        (try dsimp only)
        (try k_fold)
        have hok := inner_ok (d := i') (q := sq') h1 h2 (by omega) (by omega) q1' q2'
        simp only [SR, SF, ne_eq] at hok
        k_steps
        all_goals walk_at "rend")
      (case done2 =>
        intro u2' h2' tk2' rus' krr' kus2' kk2' rn' kn2' j1' j2' j3' j4' F' N'
        (try (dsimp only at F' N'))
        (try dsimp only)
        (try k_fold)
        k_steps
        all_goals walk_at "qend")))
  (case done =>
    intro u' h' tk' kus' kk' kn' kr' rs' own' j1' j2' j3' j4' hs' off' hlt' F' N'
    (try (dsimp only at F' N'))
    (try dsimp only)
    (try k_fold)
    k_steps
    exact ret _ kus' kk' kn' kr' _ rs' own' _ _ _ _ j1' j2' j3' j4' hs' off' hlt' (by walk_at "lt9") (neN (by omega)) (neN (by omega)) (by assumption) (by assumption))
end
end
section
/-- two lists that grow -/
def SP (p0 p1 : Addr) (own : List (Addr × Obj)) (i : Nat) (nx : List (Addr × Obj)) : Prop :=
  ∃ us k vs k', nx = (p0, W.listOf us k) :: (p1, W.listOf vs k') :: own ∧ us.size = i ∧ vs.size = i
theorem grow_end {p0 p1 I gx : Addr} {own big : List (Addr × Obj)} {h₀ h' : Heap} {L : Addr} {m' : Str → Option Value} {oI : Obj} {i tk k k' : Nat} {us vs : Array Value} {y z : Value} {s₁ : Shared} {Q : Flow → Shared → Prop}
    (F : Fr h₀ L h' m') (N : News h₀ L h' big) (e0 : (I, oI) ∈ big) (e1 : (p0, W.listOf (us.push y) k) ∈ big) (e2 : (p1, W.listOf (vs.push z) k') ∈ big) (e3 : ∀ p ∈ own, p ∈ big) (h1 : @Ne Nat p0 I) (h2 : @Ne Nat p1 I) (h3 : ∀ p ∈ own, p.1 ≠ I) (hu : us.size = i) (hv : vs.size = i) (hc : m' (Str.ofString "geo") = some (.ref gx)) :
    PostJ h₀ L (JG [(Str.ofString "geo", .ref gx)] (fun _ _ => []) (SP p0 p1 own) (i + 1)) I oI s₁ Q .next { s₁ with heap := h', toks := tk } := by
  refine pins_end (tp := 0) ((p0, W.listOf (us.push y) k) :: (p1, W.listOf (vs.push z) k') :: own) F N e0 ?_ ?_ ?_ (fun _ hp => nomatch hp) ⟨_, k, _, k', rfl, by rw [Array.size_push, hu], by rw [Array.size_push, hv]⟩
  · intro p hp
    rcases List.mem_cons.mp hp with rfl | hp
    · exact e1
    rcases List.mem_cons.mp hp with rfl | hp
    · exact e2
    · exact e3 p hp
  · intro p hp
    rcases List.mem_cons.mp hp with rfl | hp
    · exact h1
    rcases List.mem_cons.mp hp with rfl | hp
    · exact h2
    · exact h3 p hp
  · intro p hp
    rw [List.mem_singleton.mp hp]; exact hc
section
variable {prog : Program} {w : World} {A : Around} {E : Value → Shared → Prop} {s : Shared} {env : Env} {h₀ : Heap} {body : List Stmt} {Q : Flow → Shared → Prop}
theorem grow_loop {r p0 p1 gx : Addr} {sz : Int} {t₀ u₀ v₀ : Tok} {m₀ : Str → Option Value} {news own : List (Addr × Obj)} {k k' : Nat}
    (hh : A.handled = none) (F : Fr h₀ env.locals s.heap m₀) (N : News h₀ env.locals s.heap news) (hr : IsRange s.heap r 0 sz 1 t₀ u₀ v₀) (z0 : 0 ≤ sz) (z1 : sz ≤ 100) (e1 : (p0, W.listOf #[] k) ∈ news) (e2 : (p1, W.listOf #[] k') ∈ news) (e3 : ∀ p ∈ own, p ∈ news) (hc : m₀ (Str.ofString "geo") = some (.ref gx))
    (turn : ∀ (i : Nat) t (u : Str → Option Value) h tk I oI us k vs k', (i : Int) < sz → @Ne Nat p0 I → @Ne Nat p1 I → (∀ p ∈ own, p.1 ≠ I) → us.size = i → vs.size = i → us.size < 100 → vs.size < 100 →
      Fr h₀ env.locals h (fun y => if y = Str.ofString "square" then some (.int (i : Int) t) else if y = Str.ofString "geo" then some (.ref gx) else u y) → News h₀ env.locals h ((I, oI) :: (p0, W.listOf us k) :: (p1, W.listOf vs k') :: own) →
      wpAny (model prog w) A (execs body env) (PostJ h₀ env.locals (JG [(Str.ofString "geo", .ref gx)] (fun _ _ => []) (SP p0 p1 own) (i + 1)) I oI { s with heap := h, toks := tk } Q) E { s with heap := h, toks := tk })
    (done : ∀ (u : Str → Option Value) h tk, Fr h₀ env.locals h (fun y => if y = Str.ofString "geo" then some (.ref gx) else u y) → News h₀ env.locals h own → Q .next { s with heap := h, toks := tk }) :
    wpAny (model prog w) A (pyIter (.ref r)) (fun it s₂ => LoopAtV prog w A h₀ env (Str.ofString "square") body Q E it s₂) E s := by
  refine range_pins (nx₀ := (p0, W.listOf #[] k) :: (p1, W.listOf #[] k') :: own) (tp := 0) (ta := 0) (tb := 0) (tc := 0) (td := 0) sz.toNat (fun _ _ _ _ => [(Str.ofString "geo", .ref gx)]) (fun _ _ => []) (SP p0 p1 own) hh hr (small_f z0 z1) (size_f z0) F N ?_ ?_ (fun _ hp => nomatch hp) ⟨_, k, _, k', rfl, rfl, rfl⟩ ?_ ?_
  · intro p hp
    simp only [List.mem_cons] at hp
    rcases hp with rfl | rfl | hp
    · exact e1
    · exact e2
    · exact e3 p hp
  · intro p hp
    rw [List.mem_singleton.mp hp]; exact hc
  · rintro i t tp u nx h tk I oI hi hne ⟨us, k, vs, k', rfl, hu, hv⟩ F₁ N₁
    rw [show (0 + (i : Int) * 1) = (i : Int) from by omega] at F₁
    exact turn i t u h tk I oI us k vs k' (by omega) (hne _ (.head _)) (hne _ (.tail _ (.head _))) (fun p hp => hne p (.tail _ (.tail _ hp))) hu hv (by omega) (by omega) F₁ N₁
  · rintro tp u nx h tk ⟨us, k, vs, k', rfl, hu, hv⟩ F₁ N₁
    exact done u h tk F₁ fun p hp => N₁ p (.tail _ (.tail _ hp))
end
section
variable {prog : Program} {w : World} {A : Around} {E : Value → Shared → Prop} {s : Shared} {h₀ : Heap} {L : Addr} {news : List (Addr × Obj)}
theorem sub_ref {value slice : PySem.Expr} {l : Addr} {vs : List Value} {n : Nat} {i : Int} {u : Tok} {v : Value} {Q : Value → Shared → Prop} (N : News h₀ L s.heap news) (hm : (l, W.listOf vs.toArray n) ∈ news) (h0 : 0 ≤ i) (hhi : i < 2 ^ 63) (hx : vs[i.toNat]? = some v) (h : Q v s)
    (hs : subscripted slice false (.ref l) (.int i u) = operate [.ref l, .int i u] (getItem (.ref l) (.int i u)) := by with_unfolding_all rfl) :
    wpAny (model prog w) A (subscriptTail value slice (.ref l) (.int i u)) Q E s :=
  have hl : s.heap.IsList l vs.toArray := PySem.IsL.isList (n := n) (N _ hm).1
  tail_any hl.typeIs slot_list_getitem.lookup (wpAny_getItem_list hl h0 hhi (by simpa using hx) h) hs
end
end
section
theorem eight {α : Type} {l : List α} (h : l.length = 8) : ∃ a b c d e f g i, l = [a, b, c, d, e, f, g, i] := by
  match l, h with
  | [a, b, c, d, e, f, g, i], _ => exact ⟨a, b, c, d, e, f, g, i, rfl⟩
noncomputable def Ray.ent (r : Ray) : Addr × Obj := (r.a, W.listOf r.us.toArray r.k)
section
set_option maxHeartbeats 4000000
theorem pawns0 {w : World} {mean : ExcName → Option Value} {mg mb : Str → Option Value} {dp un : Nat} {gd : Option (List Code)} {cn : Str} {cs : Scope} {a : Addr} {ccd : Value} {cl : List (Str × Addr)} {outer : List Env} {A₀ : Around} {base h₀ : Heap} {L : Addr} {m : Str → Option Value} {own o1 o2 big : List (Addr × Obj)} {s : Shared} {Q E : Value → Shared → Prop} {f : Int} {gx gdx pw p0 p1 kx rl : Addr} {es : List DictEntry} {n k0 k1 kp kk kr : Nat} {t1 : Nat} {kus : List Value} {kn : List Int} {rs : List Ray}
    (B : Below A₀ base outer h₀) (F : Fr h₀ L s.heap m) (X : (ktop.heap_1 w.params).In h₀) (N : News h₀ L s.heap ((kx, W.listOf kus.toArray kk) :: (rl, W.listOf (rs.map fun r => Value.ref r.a).toArray kr) :: (gdx, dictOf es n) :: big)) (T : Top vw (looseW vw loose) mean mg mb h₀) (hk : cs.kind = .function) (h1 : 3 ≤ f) (h2 : f ≤ 8)
    (hsub : ∀ p ∈ own, p ∈ big) (D1 : Del p0 (W.listOf #[] k0) own o1) (D2 : Del p1 (W.listOf #[] k1) o1 o2) (hg : (gx, instObj 225 gdx) ∈ o2) (hpw : (pw, W.listOf #[.ref p0, .ref p1] kp) ∈ o2)
    (a1 : getL (Str.ofString "size") es = some (some (.int (f * 4) t1))) (a2 : getL (Str.ofString "pawn") es = some (some (.ref pw))) (a3 : getL (Str.ofString "king") es = some (some (.ref kx))) (a4 : getL (Str.ofString "rays") es = some (some (.ref rl)))
    (hrl : rs.length = 8) (hok : ∀ r ∈ rs, RayOk (f * 4).toNat big r) (hlt : ∀ r ∈ rs, ∀ q ∈ own, q.1 < r.a) (hkx : ∀ q ∈ own, q.1 < kx) (ik : IntsAre kus kn) (lk : kn.length = (f * 4).toNat)
    (w1 : ∀ q ∈ own, q.1 ≠ rl) (w2 : ∀ q ∈ own, q.1 ≠ gdx) 
    (hdp : dp + 9 < recursionLimit) (hun : un + 90 < cLine)
    (ret : ∀ h' tk', Fr h₀ L h' m → News h₀ L h' ((gdx, dictOf es n) :: o2) → Q .none { s with heap := h', toks := tk' }) :
    wpAny (model PySem.Challenge.rw_pf0096_01.row.prog w) (ktrTop dp un gd cn cs L a ccd cl outer) (call (.ref 264) [.ref gx]) Q E s := by
  k_with_none
  k_with "room0" => ((try simp only [depth_under_make, depth_under_kw, depth_in1, depth_deeper, depth_caller]); (try dsimp only [ktrTop]); (first | exact lq0 (by with_reducible assumption) | exact lq1 (by with_reducible assumption) (by rfl) | exact lq2 (by with_reducible assumption) (by rfl) | exact lq3 (by with_reducible assumption) (by rfl) | exact lq4 (by with_reducible assumption) (by rfl) | exact lq5 (by with_reducible assumption) (by rfl) | exact lq6 (by with_reducible assumption) (by rfl) | omega))
  k_with "units0" => ((try simp only [units_in1, units_deeper, Around.mark_units, units_caller]); (try dsimp only [ktrTop]); (first | exact lq0 (by with_reducible assumption) | exact lq1 (by with_reducible assumption) (by rfl) | exact lq2 (by with_reducible assumption) (by rfl) | exact lq3 (by with_reducible assumption) (by rfl) | exact lq4 (by with_reducible assumption) (by rfl) | exact lq5 (by with_reducible assumption) (by rfl) | exact lq6 (by with_reducible assumption) (by rfl) | omega))
  k_with "all0" => (first | assumption | exact allLt_ne (by assumption) | exact allLt_ne (And.right (by assumption)) | exact allLt_ne (And.right (And.right (by assumption))) | exact allLt_ne (And.right (And.right (And.right (by assumption)))) | exact allLt_ne (And.right (And.right (And.right (And.right (by assumption))))) | exact allLt_ne (And.right (And.right (And.right (And.right (And.right (by assumption)))))) | exact allLt_ne (And.right (And.right (And.right (And.right (And.right (And.right (by assumption))))))) | exact allLt_ne (And.right (And.right (And.right (And.right (And.right (And.right (And.right (by assumption)))))))) | exact allLt_ne (And.right (And.right (And.right (And.right (And.right (And.right (And.right (And.right (by assumption))))))))) | exact allLt_ne (And.right (And.right (And.right (And.right (And.right (And.right (And.right (And.right (And.right (by assumption)))))))))) | exact allLt_ne (And.right (And.right (And.right (And.right (And.right (And.right (And.right (And.right (And.right (And.right (by assumption))))))))))) | exact allLt_ne (And.right (And.right (And.right (And.right (And.right (And.right (And.right (And.right (And.right (And.right (And.right (by assumption)))))))))))) | exact allLt_ne (And.right (And.right (And.right (And.right (And.right (And.right (And.right (And.right (And.right (And.right (And.right (And.right (by assumption))))))))))))) | exact allLt_ne (And.right (And.right (And.right (And.right (And.right (And.right (And.right (And.right (And.right (And.right (And.right (And.right (And.right (by assumption)))))))))))))) | exact allLt_ne (And.right (And.right (And.right (And.right (And.right (And.right (And.right (And.right (And.right (And.right (And.right (And.right (And.right (And.right (by assumption))))))))))))))) | exact allLt_ne (And.right (And.right (And.right (And.right (And.right (And.right (And.right (And.right (And.right (And.right (And.right (And.right (And.right (And.right (And.right (by assumption)))))))))))))))) | exact allLt_ne (And.right (And.right (And.right (And.right (And.right (And.right (And.right (And.right (And.right (And.right (And.right (And.right (And.right (And.right (And.right (And.right (by assumption))))))))))))))))) | exact allLt_ne (And.right (And.right (And.right (And.right (And.right (And.right (And.right (And.right (And.right (And.right (And.right (And.right (And.right (And.right (And.right (And.right (And.right (by assumption)))))))))))))))))) | exact ltAll_ne (by assumption))
  k_with "cj" => (first | with_reducible exact And.left | (with_reducible refine cjR ?_; k_extra "cj"))
  k_with "ne0" => ((refine neN ?_; (try dsimp only); first | with_reducible assumption | exact Ne.symm (by with_reducible assumption) | exact Nat.ne_of_lt (by with_reducible assumption) | exact Nat.ne_of_gt (by with_reducible assumption) | exact neL (by with_reducible assumption) (by k_extra "cj") | exact neG (by with_reducible assumption) (by k_extra "cj") | exact neLT (by with_reducible assumption) (by with_reducible assumption) (by k_extra "cj") | exact neGT (by with_reducible assumption) (by with_reducible assumption) (by k_extra "cj")))
  k_with "steps0" => (repeat' (first | (k_unfold; (try dsimp only)) | (k_end; wrow_close) | (walk1; all_goals (try dsimp only)) | (dsimp only; walk1; all_goals (try dsimp only)) | (leave1; walk_say "STEP leave1"; try dsimp only) | fail "no step"))
  k_with "call type:range" => ((k_here; k_dflt (first
  | (refine' range1_rows ?F ?N ?_; (case F => k_asm); (case N => k_asm))
  | (refine' range2_rows ?F ?N ?_; (case F => k_asm); (case N => k_asm))); intro h'z tk'z t1'z t2'z t3'z hR'z F'z N'z hK'z))
  k_with "exec For Name Call cons nil" => ((k_here; k_dflt (refine' For_invVF ?F rfl rfl ?_; (case F => k_asm))))
  k_with "pyIter ref" => (refine Stop.mk' ?_)
  k_with "getAttr ref" => ((k_here; k_dflt (refine' get_own ?k1 ?k2 ?k3 ?k4 ?k5 ?k6 ?k7 ?k8 ?k9 ?_; (case k1 => k_asm); (case k2 => k_asm); (case k3 => k_inst); (case k4 => k_is); (case k5 => k_is); (case k6 => k_is); (case k7 => k_is); (case k8 => assumption); (case k9 => first | rfl | k_handed); k_whole)))
  k_with "subscriptTail" => ((k_here; (with_reducible show wpAny _ _ (subscriptTail _ _ (Value.ref _) (Value.int _ _)) _ _ _); k_dflt (refine' sub_ref ?N ?m ?a ?b ?x ?_; (case N => k_asm); (case m => k_mem); (case a => decide); (case b => decide); (case x => rfl))))
  k_with "call builtin:list.append" => ((k_here; (with_reducible show wpAny _ _ (call (Value.builtin _) [Value.ref _, _]) _ _ _); k_dflt (refine' append_K ?k1 ?k2 ?k3 ?_ ?z; (case k1 => k_asm); (case k2 => k_asm); (case k3 => k_upd); (case z => (rw [sizeLine_eq]; omega)); k_whole); intro h'z F'z N'z; (try k_sweep)))
  k_with "pend9" => ((k_dflt (refine' grow_end ?F ?N ?e0 ?e1 ?e2 ?e3 ?h1 ?h2 ?h3 ?hu ?hv ?hc; (case F => k_asm); (case N => k_asm); (case e0 => k_mem); (case e1 => k_mem); (case e2 => k_mem); (case e3 => (intro pz hpz; k_ownIn)); (case h1 => assumption); (case h2 => assumption); (case h3 => assumption); (case hu => assumption); (case hv => assumption); (case hc => rfl))))
  obtain ⟨m1, d1⟩ := D1.spec
  obtain ⟨m2, d2⟩ := D2.spec
  have hm0 : (p0, W.listOf #[] k0) ∈ own := m1 _ (.head _)
  have hm1 : (p1, W.listOf #[] k1) ∈ own := m1 _ (.tail _ (m2 _ (.head _)))
  have hs2 : ∀ p ∈ o2, p ∈ own := fun p hp => m1 _ (.tail _ (m2 _ (.tail _ hp)))
  have hne : @Ne Nat p1 p0 := d1 _ (m2 _ (.head _))
  obtain ⟨r0, r1, r2, r3, r4, r5, r6, r7, rfl⟩ := eight hrl
  have N0 : News h₀ L s.heap ((p0, W.listOf #[] k0) :: (p1, W.listOf #[] k1) :: (kx, W.listOf kus.toArray kk) :: (rl, W.listOf #[.ref r0.a, .ref r1.a, .ref r2.a, .ref r3.a, .ref r4.a, .ref r5.a, .ref r6.a, .ref r7.a] kr) :: (gdx, dictOf es n) :: (r4.a, W.listOf r4.us.toArray r4.k) :: (r5.a, W.listOf r5.us.toArray r5.k) :: (r6.a, W.listOf r6.us.toArray r6.k) :: (r7.a, W.listOf r7.us.toArray r7.k) :: o2) := by
    intro p hp
    simp only [List.mem_cons] at hp
    rcases hp with rfl | rfl | rfl | rfl | rfl | rfl | rfl | rfl | rfl | hp
    · exact N _ (.tail _ (.tail _ (.tail _ (hsub _ hm0))))
    · exact N _ (.tail _ (.tail _ (.tail _ (hsub _ hm1))))
    · exact N _ (.head _)
    · exact N _ (.tail _ (.head _))
    · exact N _ (.tail _ (.tail _ (.head _)))
    · exact N _ (.tail _ (.tail _ (.tail _ (hok r4 (by simp)).1)))
    · exact N _ (.tail _ (.tail _ (.tail _ (hok r5 (by simp)).1)))
    · exact N _ (.tail _ (.tail _ (.tail _ (hok r6 (by simp)).1)))
    · exact N _ (.tail _ (.tail _ (.tail _ (hok r7 (by simp)).1)))
    · exact N _ (.tail _ (.tail _ (.tail _ (hsub _ (hs2 _ hp)))))
  have i4 := (hok r4 (by simp)).2
  have i5 := (hok r5 (by simp)).2
  have i6 := (hok r6 (by simp)).2
  have i7 := (hok r7 (by simp)).2
  obtain ⟨i4, l4⟩ := i4
  obtain ⟨i5, l5⟩ := i5
  obtain ⟨i6, l6⟩ := i6
  obtain ⟨i7, l7⟩ := i7
  have c0 : @LT.lt Nat _ p0 kx := hkx _ hm0
  have c1 : @LT.lt Nat _ p1 kx := hkx _ hm1
  have c2 : @Ne Nat p0 rl := w1 _ hm0
  have c3 : @Ne Nat p1 rl := w1 _ hm1
  have c4 : @Ne Nat p0 gdx := w2 _ hm0
  have c5 : @Ne Nat p1 gdx := w2 _ hm1
  have c6 : @LT.lt Nat _ p0 r4.a := hlt r4 (by simp) _ hm0
  have c7 : @LT.lt Nat _ p1 r4.a := hlt r4 (by simp) _ hm1
  have c8 : @LT.lt Nat _ p0 r5.a := hlt r5 (by simp) _ hm0
  have c9 : @LT.lt Nat _ p1 r5.a := hlt r5 (by simp) _ hm1
  have c10 : @LT.lt Nat _ p0 r6.a := hlt r6 (by simp) _ hm0
  have c11 : @LT.lt Nat _ p1 r6.a := hlt r6 (by simp) _ hm1
  have c12 : @LT.lt Nat _ p0 r7.a := hlt r7 (by simp) _ hm0
  have c13 : @LT.lt Nat _ p1 r7.a := hlt r7 (by simp) _ hm1
  have d1' : ∀ p ∈ o2, p.1 ≠ p0 := fun p hp => d1 p (m2 _ (.tail _ hp))
  clear N D1 D2 m1 m2 d1 hok hlt hkx w1 w2 hsub
  revert X; k_fill; intro X
  refine wpAny_call ?_
  k_dflt ktr_enter
  k_steps
  unfold Stop
  k_dflt (refine' grow_loop (p0 := p0) (p1 := p1) (own := (kx, W.listOf kus.toArray kk) :: (rl, W.listOf #[.ref r0.a, .ref r1.a, .ref r2.a, .ref r3.a, .ref r4.a, .ref r5.a, .ref r6.a, .ref r7.a] kr) :: (gdx, dictOf es n) :: (r4.a, W.listOf r4.us.toArray r4.k) :: (r5.a, W.listOf r5.us.toArray r5.k) :: (r6.a, W.listOf r6.us.toArray r6.k) :: (r7.a, W.listOf r7.us.toArray r7.k) :: o2) ?hh ?F ?N ?hr ?z0 ?z1 ?e1 ?e2 ?e3 ?hc ?turn ?done)
  (case hh => exact rfl)
  (case F => k_asm)
  (case N => k_asm)
  (case hr => assumption)
  (case z0 => omega)
  (case z1 => omega)
  (case e1 => k_mem)
  (case e2 => k_mem)
  (case e3 => intro p hp; k_ownIn)
  (case hc => rfl)
  (case turn =>
    intro i' t' u' h' tk' I' oI' us' k' vs' k2' hi' n1' n2' n3' hu' hv' hu2' hv2' F' N'
    have n4' : ∀ p ∈ o2, p.1 ≠ I' := fun p hp => n3' p (.tail _ (.tail _ (.tail _ (.tail _ (.tail _ (.tail _ (.tail _ hp)))))))
    (try (dsimp only at F' N'))
    (try dsimp only)
    (try k_fold)
    k_steps
    walk_at "pend9")
  (case done =>
    intro u' h' tk' F' N'
    (try (dsimp only at F' N'))
    (try dsimp only)
    (try k_fold)
    k_steps
    refine ret _ _ (by assumption) fun p hp => (show News h₀ L _ (_ :: _ :: _ :: _) from by assumption) p ?_
    rcases List.mem_cons.mp hp with rfl | hp
    · exact .tail _ (.tail _ (.head _))
    · exact .tail _ (.tail _ (.tail _ (.tail _ (.tail _ (.tail _ (.tail _ hp))))))) 
end
end
section
noncomputable def nfT (f : Int) : Int := Builtin.bitAnd (fullM f) (Builtin.bitNot ((fmT f f.toNat).getD (Int.toNat 0) 0))
noncomputable def nlT (f : Int) : Int := Builtin.bitAnd (fullM f) (Builtin.bitNot ((fmT f f.toNat).getD (f - 1).toNat 0))
noncomputable def nf2T (f : Int) : Int := Builtin.bitAnd (nfT f) (Builtin.bitNot ((fmT f f.toNat).getD (Int.toNat 1) 0))
noncomputable def nl2T (f : Int) : Int := Builtin.bitAnd (nlT f) (Builtin.bitNot ((fmT f f.toNat).getD (f - 2).toNat 0))
noncomputable def nearT (f q : Int) : Int := Builtin.bitOr (Builtin.bitAnd (1 * 2 ^ q.toNat * 2 ^ Int.toNat 1) (nfT f)) (Builtin.bitAnd (((1 : Int) * 2 ^ q.toNat).fdiv (2 ^ Int.toNat 1)) (nlT f))
noncomputable def farT (f q : Int) : Int := Builtin.bitOr (Builtin.bitAnd (1 * 2 ^ q.toNat * 2 ^ Int.toNat 2) (nf2T f)) (Builtin.bitAnd (((1 : Int) * 2 ^ q.toNat).fdiv (2 ^ Int.toNat 2)) (nl2T f))
noncomputable def sm64 (x : Int) : Bool := decide (x.natAbs < 2 ^ 64)
theorem near_all : ((List.range 6).all fun a => (List.range ((a + 3) * 4)).all fun q => sm64 (1 * 2 ^ q) && sm64 (nearT (a + 3 : Nat) q) && sm64 (farT (a + 3 : Nat) q)) = true := by decide +kernel
theorem near_ok {f q : Int} (h1 : 3 ≤ f) (h2 : f ≤ 8) (q1 : 0 ≤ q) (q2 : q < f * 4) : (1 * 2 ^ q.toNat : Int).natAbs < 2 ^ 64 ∧ (nearT f q).natAbs < 2 ^ 64 ∧ (farT f q).natAbs < 2 ^ 64 := by
  obtain ⟨F, rfl⟩ := Int.eq_ofNat_of_zero_le (show 0 ≤ f by omega)
  obtain ⟨q, rfl⟩ := Int.eq_ofNat_of_zero_le q1
  have a := near_all
  rw [List.all_eq_true] at a
  have b := a (F - 3) (List.mem_range.mpr (by omega))
  rw [List.all_eq_true] at b
  have e : F - 3 + 3 = F := by omega
  rw [e] at b
  have g := b q (List.mem_range.mpr (by omega))
  rw [Bool.and_eq_true, Bool.and_eq_true] at g
  obtain ⟨⟨g1, g2⟩, g3⟩ := g
  exact ⟨of_decide_eq_true g1, of_decide_eq_true g2, of_decide_eq_true g3⟩
def SK (p0 : Addr) (own : List (Addr × Obj)) (i : Nat) (nx : List (Addr × Obj)) : Prop := ∃ us k, nx = (p0, W.listOf us k) :: own ∧ us.size = i
noncomputable def kcs (gx : Addr) (f a b c d : Int) (t1 t2 t3 t4 t5 : Tok) : List (Str × Value) := [(Str.ofString "geo", .ref gx), (Str.ofString "files", .int f t1), (Str.ofString "not_first", .int a t2), (Str.ofString "not_last", .int b t3), (Str.ofString "not_first_two", .int c t4), (Str.ofString "not_last_two", .int d t5)]
section
variable {prog : Program} {w : World} {A : Around} {E : Value → Shared → Prop} {s : Shared} {env : Env} {h₀ : Heap} {body : List Stmt} {Q : Flow → Shared → Prop}
theorem kn_loop {r p0 gx : Addr} {f a b c d sz : Int} {t1 t2 t3 t4 t5 : Tok} {t₀ u₀ v₀ : Tok} {m₀ : Str → Option Value} {news own : List (Addr × Obj)} {k : Nat}
    (hh : A.handled = none) (F : Fr h₀ env.locals s.heap m₀) (N : News h₀ env.locals s.heap news) (hr : IsRange s.heap r 0 sz 1 t₀ u₀ v₀) (z0 : 0 ≤ sz) (z1 : sz ≤ 100) (e1 : (p0, W.listOf #[] k) ∈ news) (e3 : ∀ p ∈ own, p ∈ news)
    (c1 : m₀ (Str.ofString "geo") = some (.ref gx)) (c2 : m₀ (Str.ofString "files") = some (.int f t1)) (c3 : m₀ (Str.ofString "not_first") = some (.int a t2)) (c4 : m₀ (Str.ofString "not_last") = some (.int b t3)) (c5 : m₀ (Str.ofString "not_first_two") = some (.int c t4)) (c6 : m₀ (Str.ofString "not_last_two") = some (.int d t5))
    (turn : ∀ (i : Nat) sq t (u : Str → Option Value) h tk I oI us k, 0 ≤ sq → sq < sz → @Ne Nat p0 I → (∀ p ∈ own, p.1 ≠ I) → us.size = i → us.size < 100 →
      Fr h₀ env.locals h (fun y => if y = Str.ofString "square" then some (.int sq t) else if y = Str.ofString "geo" then some (.ref gx) else if y = Str.ofString "files" then some (.int f t1) else if y = Str.ofString "not_first" then some (.int a t2) else if y = Str.ofString "not_last" then some (.int b t3) else if y = Str.ofString "not_first_two" then some (.int c t4) else if y = Str.ofString "not_last_two" then some (.int d t5) else u y) → News h₀ env.locals h ((I, oI) :: (p0, W.listOf us k) :: own) →
      wpAny (model prog w) A (execs body env) (PostJ h₀ env.locals (JG (kcs gx f a b c d t1 t2 t3 t4 t5) (fun _ _ => []) (SK p0 own) (i + 1)) I oI { s with heap := h, toks := tk } Q) E { s with heap := h, toks := tk })
    (done : ∀ m₁ h tk, Fr h₀ env.locals h m₁ → News h₀ env.locals h own → Q .next { s with heap := h, toks := tk }) :
    wpAny (model prog w) A (pyIter (.ref r)) (fun it s₂ => LoopAtV prog w A h₀ env (Str.ofString "square") body Q E it s₂) E s := by
  refine range_pins (nx₀ := (p0, W.listOf #[] k) :: own) (tp := 0) (ta := 0) (tb := 0) (tc := 0) (td := 0) sz.toNat (fun _ _ _ _ => kcs gx f a b c d t1 t2 t3 t4 t5) (fun _ _ => []) (SK p0 own) hh hr (small_f z0 z1) (size_f z0) F N ?_ ?_ (fun _ hp => nomatch hp) ⟨_, k, rfl, rfl⟩ ?_ ?_
  · intro p hp
    simp only [List.mem_cons] at hp
    rcases hp with rfl | hp
    · exact e1
    · exact e3 p hp
  · intro p hp
    simp only [kcs, List.mem_cons, List.not_mem_nil, or_false] at hp
    rcases hp with rfl | rfl | rfl | rfl | rfl | rfl
    · exact c1
    · exact c2
    · exact c3
    · exact c4
    · exact c5
    · exact c6
  · rintro i t tp u nx h tk I oI hi hne ⟨us, k, rfl, hu⟩ F₁ N₁
    exact turn i _ t u h tk I oI us k (by omega) (by omega) (hne _ (.head _)) (fun p hp => hne p (.tail _ hp)) hu (by omega) F₁ N₁
  · rintro tp u nx h tk ⟨us, k, rfl, hu⟩ F₁ N₁
    exact done _ h tk F₁ fun p hp => N₁ p (.tail _ hp)
end
theorem kn_end {p0 I gx : Addr} {f a b c d : Int} {t1 t2 t3 t4 t5 : Tok} {own big : List (Addr × Obj)} {h₀ h' : Heap} {L : Addr} {m' : Str → Option Value} {oI : Obj} {i tk k : Nat} {us : Array Value} {y : Value} {s₁ : Shared} {Q : Flow → Shared → Prop}
    (F : Fr h₀ L h' m') (N : News h₀ L h' big) (e0 : (I, oI) ∈ big) (e1 : (p0, W.listOf (us.push y) k) ∈ big) (e3 : ∀ p ∈ own, p ∈ big) (h1 : @Ne Nat p0 I) (h3 : ∀ p ∈ own, p.1 ≠ I) (hu : us.size = i)
    (c1 : m' (Str.ofString "geo") = some (.ref gx)) (c2 : m' (Str.ofString "files") = some (.int f t1)) (c3 : m' (Str.ofString "not_first") = some (.int a t2)) (c4 : m' (Str.ofString "not_last") = some (.int b t3)) (c5 : m' (Str.ofString "not_first_two") = some (.int c t4)) (c6 : m' (Str.ofString "not_last_two") = some (.int d t5)) :
    PostJ h₀ L (JG (kcs gx f a b c d t1 t2 t3 t4 t5) (fun _ _ => []) (SK p0 own) (i + 1)) I oI s₁ Q .next { s₁ with heap := h', toks := tk } := by
  refine pins_end (tp := 0) ((p0, W.listOf (us.push y) k) :: own) F N e0 ?_ ?_ ?_ (fun _ hp => nomatch hp) ⟨_, k, rfl, by rw [Array.size_push, hu]⟩
  · intro p hp
    rcases List.mem_cons.mp hp with rfl | hp
    · exact e1
    · exact e3 p hp
  · intro p hp
    rcases List.mem_cons.mp hp with rfl | hp
    · exact h1
    · exact h3 p hp
  · intro p hp
    simp only [kcs, List.mem_cons, List.not_mem_nil, or_false] at hp
    rcases hp with rfl | rfl | rfl | rfl | rfl | rfl
    · exact c1
    · exact c2
    · exact c3
    · exact c4
    · exact c5
    · exact c6
end
section
section
set_option maxHeartbeats 4000000
theorem knights0 {w : World} {mean : ExcName → Option Value} {mg mb : Str → Option Value} {dp un : Nat} {gd : Option (List Code)} {cn : Str} {cs : Scope} {a : Addr} {ccd : Value} {cl : List (Str × Addr)} {outer : List Env} {A₀ : Around} {base h₀ : Heap} {L : Addr} {m : Str → Option Value} {news own : List (Addr × Obj)} {s : Shared} {Q E : Value → Shared → Prop} {f : Int} {gx gdx kl fm : Addr} {es : List DictEntry} {n k0 k2 : Nat} {t1 t2 t3 : Nat} {vs : List Value}
    (B : Below A₀ base outer h₀) (F : Fr h₀ L s.heap m) (X : (ktop.heap_1 w.params).In h₀) (N : News h₀ L s.heap news) (T : Top vw (looseW vw loose) mean mg mb h₀) (hk : cs.kind = .function) (h1 : 3 ≤ f) (h2 : f ≤ 8)
    (D1 : Del kl (W.listOf #[] k0) news own) (hg : (gx, instObj 225 gdx) ∈ own) (hgd : (gdx, dictOf es n) ∈ own) (hm : (fm, W.listOf vs.toArray k2) ∈ own) (i2 : IntsAre vs (fmT f f.toNat))
    (a1 : getL (Str.ofString "files") es = some (some (.int f t1))) (a2 : getL (Str.ofString "size") es = some (some (.int (f * 4) t2))) (a3 : getL (Str.ofString "full") es = some (some (.int (fullM f) t3))) (a4 : getL (Str.ofString "file_masks") es = some (some (.ref fm))) (a5 : getL (Str.ofString "knight") es = some (some (.ref kl)))
    (hdp : dp + 9 < recursionLimit) (hun : un + 90 < cLine)
    (ret : ∀ h' tk', Fr h₀ L h' m → News h₀ L h' own → Q .none { s with heap := h', toks := tk' }) :
    wpAny (model PySem.Challenge.rw_pf0096_01.row.prog w) (ktrTop dp un gd cn cs L a ccd cl outer) (call (.ref 271) [.ref gx]) Q E s := by
  k_with_none
  k_with "room0" => ((try simp only [depth_under_make, depth_under_kw, depth_in1, depth_deeper, depth_caller]); (try dsimp only [ktrTop]); (first | exact lq0 (by with_reducible assumption) | exact lq1 (by with_reducible assumption) (by rfl) | exact lq2 (by with_reducible assumption) (by rfl) | exact lq3 (by with_reducible assumption) (by rfl) | exact lq4 (by with_reducible assumption) (by rfl) | exact lq5 (by with_reducible assumption) (by rfl) | exact lq6 (by with_reducible assumption) (by rfl) | omega))
  k_with "units0" => ((try simp only [units_in1, units_deeper, Around.mark_units, units_caller]); (try dsimp only [ktrTop]); (first | exact lq0 (by with_reducible assumption) | exact lq1 (by with_reducible assumption) (by rfl) | exact lq2 (by with_reducible assumption) (by rfl) | exact lq3 (by with_reducible assumption) (by rfl) | exact lq4 (by with_reducible assumption) (by rfl) | exact lq5 (by with_reducible assumption) (by rfl) | exact lq6 (by with_reducible assumption) (by rfl) | omega))
  k_with "all0" => (first | assumption | exact allLt_ne (by assumption) | exact allLt_ne (And.right (by assumption)) | exact allLt_ne (And.right (And.right (by assumption))) | exact allLt_ne (And.right (And.right (And.right (by assumption)))) | exact allLt_ne (And.right (And.right (And.right (And.right (by assumption))))) | exact allLt_ne (And.right (And.right (And.right (And.right (And.right (by assumption)))))) | exact allLt_ne (And.right (And.right (And.right (And.right (And.right (And.right (by assumption))))))) | exact allLt_ne (And.right (And.right (And.right (And.right (And.right (And.right (And.right (by assumption)))))))) | exact allLt_ne (And.right (And.right (And.right (And.right (And.right (And.right (And.right (And.right (by assumption))))))))) | exact allLt_ne (And.right (And.right (And.right (And.right (And.right (And.right (And.right (And.right (And.right (by assumption)))))))))) | exact allLt_ne (And.right (And.right (And.right (And.right (And.right (And.right (And.right (And.right (And.right (And.right (by assumption))))))))))) | exact allLt_ne (And.right (And.right (And.right (And.right (And.right (And.right (And.right (And.right (And.right (And.right (And.right (by assumption)))))))))))) | exact allLt_ne (And.right (And.right (And.right (And.right (And.right (And.right (And.right (And.right (And.right (And.right (And.right (And.right (by assumption))))))))))))) | exact allLt_ne (And.right (And.right (And.right (And.right (And.right (And.right (And.right (And.right (And.right (And.right (And.right (And.right (And.right (by assumption)))))))))))))) | exact allLt_ne (And.right (And.right (And.right (And.right (And.right (And.right (And.right (And.right (And.right (And.right (And.right (And.right (And.right (And.right (by assumption))))))))))))))) | exact allLt_ne (And.right (And.right (And.right (And.right (And.right (And.right (And.right (And.right (And.right (And.right (And.right (And.right (And.right (And.right (And.right (by assumption)))))))))))))))) | exact allLt_ne (And.right (And.right (And.right (And.right (And.right (And.right (And.right (And.right (And.right (And.right (And.right (And.right (And.right (And.right (And.right (And.right (by assumption))))))))))))))))) | exact allLt_ne (And.right (And.right (And.right (And.right (And.right (And.right (And.right (And.right (And.right (And.right (And.right (And.right (And.right (And.right (And.right (And.right (And.right (by assumption)))))))))))))))))) | exact ltAll_ne (by assumption))
  k_with "cj" => (first | with_reducible exact And.left | (with_reducible refine cjR ?_; k_extra "cj"))
  k_with "ne0" => ((refine neN ?_; (try dsimp only); first | with_reducible assumption | exact Ne.symm (by with_reducible assumption) | exact Nat.ne_of_lt (by with_reducible assumption) | exact Nat.ne_of_gt (by with_reducible assumption) | exact neL (by with_reducible assumption) (by k_extra "cj") | exact neG (by with_reducible assumption) (by k_extra "cj") | exact neLT (by with_reducible assumption) (by with_reducible assumption) (by k_extra "cj") | exact neGT (by with_reducible assumption) (by with_reducible assumption) (by k_extra "cj")))
  k_with "steps0" => (repeat' (first | (k_unfold; (try dsimp only)) | (k_end; wrow_close) | (walk1; all_goals (try dsimp only)) | (dsimp only; walk1; all_goals (try dsimp only)) | (leave1; walk_say "STEP leave1"; try dsimp only) | fail "no step"))
  k_with "call type:range" => ((k_here; k_dflt (first
  | (refine' range1_rows ?F ?N ?_; (case F => k_asm); (case N => k_asm))
  | (refine' range2_rows ?F ?N ?_; (case F => k_asm); (case N => k_asm))); intro h'z tk'z t1'z t2'z t3'z hR'z F'z N'z hK'z))
  k_with "exec For Name Call cons nil" => ((k_here; k_dflt (refine' For_invVF ?F rfl rfl ?_; (case F => k_asm))))
  k_with "pyIter ref" => (refine Stop.mk' ?_)
  k_with "getAttr ref" => ((k_here; k_dflt (refine' get_own ?k1 ?k2 ?k3 ?k4 ?k5 ?k6 ?k7 ?k8 ?k9 ?_; (case k1 => k_asm); (case k2 => k_asm); (case k3 => k_inst); (case k4 => k_is); (case k5 => k_is); (case k6 => k_is); (case k7 => k_is); (case k8 => assumption); (case k9 => first | rfl | k_handed); k_whole)))
  k_with "binaryOp LShift int int" => ((k_here; (refine' lshift_int_small ?b1 ?b2 ?b3 ?_; (case b1 => omega); (case b2 => omega); (case b3 => first | decide | assumption))))
  k_with "binaryOp RShift int int" => ((k_here; (refine' rshift_int ?b1 ?_; (case b1 => omega))))
  k_with "call builtin:list.append" => ((k_here; (with_reducible show wpAny _ _ (call (Value.builtin _) [Value.ref _, _]) _ _ _); k_dflt (refine' append_K ?k1 ?k2 ?k3 ?_ ?z; (case k1 => k_asm); (case k2 => k_asm); (case k3 => k_upd); (case z => (rw [sizeLine_eq]; omega)); k_whole); intro h'z F'z N'z; (try k_sweep)))
  k_with "kend9" => ((k_dflt (refine' kn_end ?F ?N ?e0 ?e1 ?e3 ?h1 ?h3 ?hu ?c1 ?c2 ?c3 ?c4 ?c5 ?c6; (case F => k_asm); (case N => k_asm); (case e0 => k_mem); (case e1 => k_mem); (case e3 => (intro pz hpz; k_ownIn)); (case h1 => assumption); (case h3 => assumption); (case hu => assumption); (case c1 => rfl); (case c2 => rfl); (case c3 => rfl); (case c4 => rfl); (case c5 => rfl); (case c6 => rfl))))
  obtain ⟨m1, d1⟩ := D1.spec
  have N0 : News h₀ L s.heap ((kl, W.listOf #[] k0) :: own) := fun p hp => N p (m1 p hp)
  have e2 := fmT_len f f.toNat
  clear N D1 m1
  revert X; k_fill; intro X
  refine wpAny_call ?_
  k_dflt ktr_enter
  k_steps
  unfold Stop
  k_dflt (refine' kn_loop (p0 := kl) (own := own) ?hh ?F ?N ?hr ?z0 ?z1 ?e1 ?e3 ?c1 ?c2 ?c3 ?c4 ?c5 ?c6 ?turn ?done)
  (case hh => exact rfl)
  (case F => k_asm)
  (case N => k_asm)
  (case hr => assumption)
  (case z0 => omega)
  (case z1 => omega)
  (case e1 => k_mem)
  (case e3 => intro p hp; k_ownIn)
  (case c1 => rfl)
  (case c2 => rfl)
  (case c3 => rfl)
  (case c4 => rfl)
  (case c5 => rfl)
  (case c6 => rfl)
  (case turn =>
    intro i' sq' t' u' h' tk' I' oI' us' k' q1' q2' n1' n2' hu' hu2' F' N'
    obtain ⟨g1', g2', g3'⟩ := near_ok h1 h2 q1' q2'
    dsimp only [nearT, nfT, nlT] at g2'
    dsimp only [farT, nf2T, nl2T, nfT, nlT] at g3'
    (try (dsimp only at F' N'))
    (try dsimp only)
    (try k_fold)
    k_steps
    all_goals walk_at "kend9")
  (case done =>
    intro m' h' tk' F' N'
    (try (dsimp only at F' N'))
    (try dsimp only)
    (try k_fold)
    k_steps
    exact ret _ _ (by assumption) (by assumption))
end
end
section
noncomputable def ccs (gx : Addr) (a : Int) (t1 : Tok) : List (Str × Value) := [(Str.ofString "geo", .ref gx), (Str.ofString "start", .int a t1)]
section
variable {prog : Program} {w : World} {A : Around} {E : Value → Shared → Prop} {s : Shared} {env : Env} {h₀ : Heap} {body : List Stmt} {Q : Flow → Shared → Prop}
theorem ca_loop {r p0 gx : Addr} {a sz : Int} {t1 : Tok} {t₀ u₀ v₀ : Tok} {m₀ : Str → Option Value} {news own : List (Addr × Obj)} {k : Nat}
    (hh : A.handled = none) (F : Fr h₀ env.locals s.heap m₀) (N : News h₀ env.locals s.heap news) (hr : IsRange s.heap r 0 sz 1 t₀ u₀ v₀) (z0 : 0 ≤ sz) (z1 : sz ≤ 100) (e1 : (p0, W.listOf #[] k) ∈ news) (e3 : ∀ p ∈ own, p ∈ news)
    (c1 : m₀ (Str.ofString "geo") = some (.ref gx)) (c2 : m₀ (Str.ofString "start") = some (.int a t1))
    (turn : ∀ (i : Nat) sq t (u : Str → Option Value) h tk I oI us k, 0 ≤ sq → sq < sz → @Ne Nat p0 I → (∀ p ∈ own, p.1 ≠ I) → us.size = i → us.size < 100 →
      Fr h₀ env.locals h (fun y => if y = Str.ofString "index" then some (.int sq t) else if y = Str.ofString "geo" then some (.ref gx) else if y = Str.ofString "start" then some (.int a t1) else u y) → News h₀ env.locals h ((I, oI) :: (p0, W.listOf us k) :: own) →
      wpAny (model prog w) A (execs body env) (PostJ h₀ env.locals (JG (ccs gx a t1) (fun _ _ => []) (SK p0 own) (i + 1)) I oI { s with heap := h, toks := tk } Q) E { s with heap := h, toks := tk })
    (done : ∀ m₁ h tk, Fr h₀ env.locals h m₁ → News h₀ env.locals h own → Q .next { s with heap := h, toks := tk }) :
    wpAny (model prog w) A (pyIter (.ref r)) (fun it s₂ => LoopAtV prog w A h₀ env (Str.ofString "index") body Q E it s₂) E s := by
  refine range_pins (nx₀ := (p0, W.listOf #[] k) :: own) (tp := 0) (ta := 0) (tb := 0) (tc := 0) (td := 0) sz.toNat (fun _ _ _ _ => ccs gx a t1) (fun _ _ => []) (SK p0 own) hh hr (small_f z0 z1) (size_f z0) F N ?_ ?_ (fun _ hp => nomatch hp) ⟨_, k, rfl, rfl⟩ ?_ ?_
  · intro p hp
    simp only [List.mem_cons] at hp
    rcases hp with rfl | hp
    · exact e1
    · exact e3 p hp
  · intro p hp
    simp only [ccs, List.mem_cons, List.not_mem_nil, or_false] at hp
    rcases hp with rfl | rfl
    · exact c1
    · exact c2
  · rintro i t tp u nx h tk I oI hi hne ⟨us, k, rfl, hu⟩ F₁ N₁
    exact turn i _ t u h tk I oI us k (by omega) (by omega) (hne _ (.head _)) (fun p hp => hne p (.tail _ hp)) hu (by omega) F₁ N₁
  · rintro tp u nx h tk ⟨us, k, rfl, hu⟩ F₁ N₁
    exact done _ h tk F₁ fun p hp => N₁ p (.tail _ hp)
end
theorem ca_end {p0 I gx : Addr} {a : Int} {t1 : Tok} {own big : List (Addr × Obj)} {h₀ h' : Heap} {L : Addr} {m' : Str → Option Value} {oI : Obj} {i tk k : Nat} {us : Array Value} {y : Value} {s₁ : Shared} {Q : Flow → Shared → Prop}
    (F : Fr h₀ L h' m') (N : News h₀ L h' big) (e0 : (I, oI) ∈ big) (e1 : (p0, W.listOf (us.push y) k) ∈ big) (e3 : ∀ p ∈ own, p ∈ big) (h1 : @Ne Nat p0 I) (h3 : ∀ p ∈ own, p.1 ≠ I) (hu : us.size = i)
    (c1 : m' (Str.ofString "geo") = some (.ref gx)) (c2 : m' (Str.ofString "start") = some (.int a t1)) :
    PostJ h₀ L (JG (ccs gx a t1) (fun _ _ => []) (SK p0 own) (i + 1)) I oI s₁ Q .next { s₁ with heap := h', toks := tk } := by
  refine pins_end (tp := 0) ((p0, W.listOf (us.push y) k) :: own) F N e0 ?_ ?_ ?_ (fun _ hp => nomatch hp) ⟨_, k, rfl, by rw [Array.size_push, hu]⟩
  · intro p hp
    rcases List.mem_cons.mp hp with rfl | hp
    · exact e1
    · exact e3 p hp
  · intro p hp
    rcases List.mem_cons.mp hp with rfl | hp
    · exact h1
    · exact h3 p hp
  · intro p hp
    simp only [ccs, List.mem_cons, List.not_mem_nil, or_false] at hp
    rcases hp with rfl | rfl
    · exact c1
    · exact c2
end
section
section
set_option maxHeartbeats 4000000
theorem castles0 {w : World} {mean : ExcName → Option Value} {mg mb : Str → Option Value} {dp un : Nat} {gd : Option (List Code)} {cn : Str} {cs : Scope} {a : Addr} {ccd : Value} {cl : List (Str × Addr)} {outer : List Env} {A₀ : Around} {base h₀ : Heap} {L : Addr} {m : Str → Option Value} {news r1 own : List (Addr × Obj)} {s : Shared} {Q E : Value → Shared → Prop} {f : Int} {gx gdx cx : Addr} {es : List DictEntry} {n k0 : Nat} {t1 t2 t3 : Nat} {v0 : Option Value}
    (B : Below A₀ base outer h₀) (F : Fr h₀ L s.heap m) (X : (ktop.heap_1 w.params).In h₀) (N : News h₀ L s.heap news) (T : Top vw (looseW vw loose) mean mg mb h₀) (hk : cs.kind = .function) (h1 : 3 ≤ f) (h2 : f ≤ 8)
    (D1 : Del gdx (dictOf es n) news r1) (D2 : Del cx (W.listOf #[] k0) r1 own) (hg : (gx, instObj 225 gdx) ∈ own) (hlen : es.length ≤ 100)
    (a1 : getL (Str.ofString "files") es = some (some (.int f t1))) (a2 : getL (Str.ofString "ranks") es = some (some (.int 4 t2))) (a3 : getL (Str.ofString "size") es = some (some (.int (f * 4) t3))) (a4 : getL (Str.ofString "has_castling") es = some (some (.bool false))) (a5 : getL (Str.ofString "castles") es = some (some (.ref cx))) (a6 : getL (Str.ofString "rights_lost") es = some v0)
    (hdp : dp + 9 < recursionLimit) (hun : un + 90 < cLine)
    (ret : ∀ es' n' t h' tk', Fr h₀ L h' m → News h₀ L h' ((gdx, dictOf es' n') :: own) → getL (Str.ofString "files") es' = some (some (.int f t)) → Q .none { s with heap := h', toks := tk' }) :
    wpAny (model PySem.Challenge.rw_pf0096_01.row.prog w) (ktrTop dp un gd cn cs L a ccd cl outer) (call (.ref 278) [.ref gx]) Q E s := by
  k_with_none
  k_with "room0" => ((try simp only [depth_under_make, depth_under_kw, depth_in1, depth_deeper, depth_caller]); (try dsimp only [ktrTop]); (first | exact lq0 (by with_reducible assumption) | exact lq1 (by with_reducible assumption) (by rfl) | exact lq2 (by with_reducible assumption) (by rfl) | exact lq3 (by with_reducible assumption) (by rfl) | exact lq4 (by with_reducible assumption) (by rfl) | exact lq5 (by with_reducible assumption) (by rfl) | exact lq6 (by with_reducible assumption) (by rfl) | omega))
  k_with "units0" => ((try simp only [units_in1, units_deeper, Around.mark_units, units_caller]); (try dsimp only [ktrTop]); (first | exact lq0 (by with_reducible assumption) | exact lq1 (by with_reducible assumption) (by rfl) | exact lq2 (by with_reducible assumption) (by rfl) | exact lq3 (by with_reducible assumption) (by rfl) | exact lq4 (by with_reducible assumption) (by rfl) | exact lq5 (by with_reducible assumption) (by rfl) | exact lq6 (by with_reducible assumption) (by rfl) | omega))
  k_with "all0" => (first | assumption | exact allLt_ne (by assumption) | exact allLt_ne (And.right (by assumption)) | exact allLt_ne (And.right (And.right (by assumption))) | exact allLt_ne (And.right (And.right (And.right (by assumption)))) | exact allLt_ne (And.right (And.right (And.right (And.right (by assumption))))) | exact allLt_ne (And.right (And.right (And.right (And.right (And.right (by assumption)))))) | exact allLt_ne (And.right (And.right (And.right (And.right (And.right (And.right (by assumption))))))) | exact allLt_ne (And.right (And.right (And.right (And.right (And.right (And.right (And.right (by assumption)))))))) | exact allLt_ne (And.right (And.right (And.right (And.right (And.right (And.right (And.right (And.right (by assumption))))))))) | exact allLt_ne (And.right (And.right (And.right (And.right (And.right (And.right (And.right (And.right (And.right (by assumption)))))))))) | exact allLt_ne (And.right (And.right (And.right (And.right (And.right (And.right (And.right (And.right (And.right (And.right (by assumption))))))))))) | exact allLt_ne (And.right (And.right (And.right (And.right (And.right (And.right (And.right (And.right (And.right (And.right (And.right (by assumption)))))))))))) | exact allLt_ne (And.right (And.right (And.right (And.right (And.right (And.right (And.right (And.right (And.right (And.right (And.right (And.right (by assumption))))))))))))) | exact allLt_ne (And.right (And.right (And.right (And.right (And.right (And.right (And.right (And.right (And.right (And.right (And.right (And.right (And.right (by assumption)))))))))))))) | exact allLt_ne (And.right (And.right (And.right (And.right (And.right (And.right (And.right (And.right (And.right (And.right (And.right (And.right (And.right (And.right (by assumption))))))))))))))) | exact allLt_ne (And.right (And.right (And.right (And.right (And.right (And.right (And.right (And.right (And.right (And.right (And.right (And.right (And.right (And.right (And.right (by assumption)))))))))))))))) | exact allLt_ne (And.right (And.right (And.right (And.right (And.right (And.right (And.right (And.right (And.right (And.right (And.right (And.right (And.right (And.right (And.right (And.right (by assumption))))))))))))))))) | exact allLt_ne (And.right (And.right (And.right (And.right (And.right (And.right (And.right (And.right (And.right (And.right (And.right (And.right (And.right (And.right (And.right (And.right (And.right (by assumption)))))))))))))))))) | exact ltAll_ne (by assumption))
  k_with "cj" => (first | with_reducible exact And.left | (with_reducible refine cjR ?_; k_extra "cj"))
  k_with "ne0" => ((refine neN ?_; (try dsimp only); first | with_reducible assumption | exact Ne.symm (by with_reducible assumption) | exact Nat.ne_of_lt (by with_reducible assumption) | exact Nat.ne_of_gt (by with_reducible assumption) | exact neL (by with_reducible assumption) (by k_extra "cj") | exact neG (by with_reducible assumption) (by k_extra "cj") | exact neLT (by with_reducible assumption) (by with_reducible assumption) (by k_extra "cj") | exact neGT (by with_reducible assumption) (by with_reducible assumption) (by k_extra "cj")))
  k_with "steps0" => (repeat' (first | (k_unfold; (try dsimp only)) | (k_end; wrow_close) | (walk1; all_goals (try dsimp only)) | (dsimp only; walk1; all_goals (try dsimp only)) | (leave1; walk_say "STEP leave1"; try dsimp only) | fail "no step"))
  k_with "call type:range" => ((k_here; k_dflt (first
  | (refine' range1_rows ?F ?N ?_; (case F => k_asm); (case N => k_asm))
  | (refine' range2_rows ?F ?N ?_; (case F => k_asm); (case N => k_asm))); intro h'z tk'z t1'z t2'z t3'z hR'z F'z N'z hK'z))
  k_with "exec For Name Call cons nil" => ((k_here; k_dflt (refine' For_invVF ?F rfl rfl ?_; (case F => k_asm))))
  k_with "pyIter ref" => (refine Stop.mk' ?_)
  k_with "call builtin:list.append" => ((k_here; (with_reducible show wpAny _ _ (call (Value.builtin _) [Value.ref _, _]) _ _ _); k_dflt (refine' append_K ?k1 ?k2 ?k3 ?_ ?z; (case k1 => k_asm); (case k2 => k_asm); (case k3 => k_upd); (case z => (rw [sizeLine_eq]; omega)); k_whole); intro h'z F'z N'z; (try k_sweep)))
  k_with "cend9" => ((k_dflt (refine' ca_end ?F ?N ?e0 ?e1 ?e3 ?h1 ?h3 ?hu ?c1 ?c2; (case F => k_asm); (case N => k_asm); (case e0 => k_mem); (case e1 => k_mem); (case e3 => (refine List.forall_mem_cons.mpr ⟨?_, ?_⟩; (focus k_mem); (intro pz hpz; k_ownIn))); (case h1 => assumption); (case h3 => assumption); (case hu => assumption); (case c1 => rfl); (case c2 => rfl))))
  k_with "gl9" => (first | assumption | exact getL_put_self | exact getL_putk (by assumption) (by decide))
  k_with "getAttr ref" => ((k_here; k_dflt (refine' get_own ?k1 ?k2 ?k3 ?k4 ?k5 ?k6 ?k7 ?k8 ?k9 ?_; (case k1 => k_asm); (case k2 => k_asm); (case k3 => k_inst); (case k4 => k_is); (case k5 => k_is); (case k6 => k_is); (case k7 => k_is); (case k8 => walk_at "gl9"); (case k9 => first | rfl | k_handed); k_whole)))
  k_with "setAttr ref" => ((k_here; k_dflt (refine' set_dict ?k1 ?k2 ?k3 ?k4 ?k5 ?k6 ?k7 ?k8 ?k9 ?k10 ?k11 ?k12 ?k13 ?_; (case k1 => k_asm); (case k2 => k_asm); (case k3 => k_asm); (case k4 => k_inst); (case k5 => exact rfl); (case k6 => k_is); (case k7 => k_is); (case k8 => k_is); (case k9 => k_is); (case k10 => exact some_of (by assumption)); (case k11 => exact rfl); (case k12 => k_upd); (case k13 => exact Nat.le_trans (putL_len _ _ _ _ _) (by omega)); k_whole; intro h'z F'z N'z; (try k_sweep))))
  k_with "binaryOp Mult ref int" => ((k_here; k_dflt (refine' mul_zeros ?F ?N ?m ?h0 ?h1 ?_; (case F => k_asm); (case N => k_asm); (case m => k_mem); (case h0 => omega); (case h1 => omega)); intro D'z h'z us'z F'z N'z i1'z l1z; (try k_lt l1z); (try k_sweep)))
  obtain ⟨m1, d1⟩ := D1.spec
  obtain ⟨m2, d2⟩ := D2.spec
  have hne : @Ne Nat cx gdx := d1 _ (m2 _ (.head _))
  have d3 : ∀ p ∈ own, p.1 ≠ gdx := fun p hp => d1 p (m2 _ (.tail _ hp))
  have N0 : News h₀ L s.heap ((gdx, dictOf es n) :: (cx, W.listOf #[] k0) :: own) := by
    intro p hp
    rcases List.mem_cons.mp hp with rfl | hp
    · exact N _ (m1 _ (.head _))
    · exact N _ (m1 _ (.tail _ (m2 _ hp)))
  clear N D1 D2 m1 m2 d1
  revert X; k_fill; intro X
  refine wpAny_call ?_
  k_dflt ktr_enter
  k_steps
  unfold Stop
  k_dflt (refine' ca_loop (p0 := cx) (own := (gdx, dictOf _ _) :: own) ?hh ?F ?N ?hr ?z0 ?z1 ?e1 ?e3 ?c1 ?c2 ?turn ?done)
  (case hh => exact rfl)
  (case F => k_asm)
  (case N => k_asm)
  (case hr => assumption)
  (case z0 => omega)
  (case z1 => omega)
  (case e1 => k_mem)
  (case e3 => (refine List.forall_mem_cons.mpr ⟨?_, ?_⟩; (focus k_mem); (intro p hp; k_ownIn)))
  (case c1 => rfl)
  (case c2 => rfl)
  (case turn =>
    intro i' sq' t' u' h' tk' I' oI' us' k' q1' q2' n1' n2' hu' hu2' F' N'
    have n3' : @Ne Nat gdx I' := n2' _ (.head _)
    have n4' : ∀ p ∈ own, p.1 ≠ I' := fun p hp => n2' p (.tail _ hp)
    (try (dsimp only at F' N'))
    (try dsimp only)
    (try k_fold)
    k_steps
    all_goals walk_at "cend9")
  (case done =>
    intro m' h' tk' F' N'
    (try (dsimp only at F' N'))
    (try dsimp only)
    (try k_fold)
    k_steps
    exact ret _ _ _ _ _ (by assumption) (by assumption) (getL_putk a1 (by decide)))
end
end
section
theorem raysD {w : World} {mean : ExcName → Option Value} {mg mb : Str → Option Value} {dp un : Nat} {gd : Option (List Code)} {cn : Str} {cs : Scope} {a : Addr} {ccd : Value} {cl : List (Str × Addr)} {outer : List Env} {A₀ : Around} {base h₀ : Heap} {L : Addr} {m : Str → Option Value} {news r1 own : List (Addr × Obj)} {s : Shared} {Q E : Value → Shared → Prop} {f : Int} {gx gdx fm rm rl : Addr} {es : List DictEntry} {n k1 k2 kr : Nat} {t1 t2 t3 t4 : Nat} {us vs : List Value} {v0 : Option Value}
    (B : Below A₀ base outer h₀) (F : Fr h₀ L s.heap m) (X : (ktop.heap_1 w.params).In h₀) (N : News h₀ L s.heap news) (T : Top vw (looseW vw loose) mean mg mb h₀) (hk : cs.kind = .function) (h1 : 3 ≤ f) (h2 : f ≤ 8)
    (D1 : Del gdx (dictOf es n) news r1) (D2 : Del rl (W.listOf #[] kr) r1 own)
    (hg : (gx, instObj 225 gdx) ∈ own) (a1 : getL (Str.ofString "files") es = some (some (.int f t1))) (a2 : getL (Str.ofString "ranks") es = some (some (.int 4 t2))) (a3 : getL (Str.ofString "file_masks") es = some (some (.ref fm))) (a4 : getL (Str.ofString "rank_masks") es = some (some (.ref rm))) (a5 : getL (Str.ofString "full") es = some (some (.int (fullM f) t3)))
    (a6 : getL (Str.ofString "size") es = some (some (.int (f * 4) t4))) (a7 : getL (Str.ofString "rays") es = some (some (.ref rl))) (a8 : getL (Str.ofString "king") es = some v0) (hlen : es.length ≤ 100)
    (hm1 : (rm, W.listOf us.toArray k1) ∈ own) (hm2 : (fm, W.listOf vs.toArray k2) ∈ own) (i1 : IntsAre us (rmT f 4)) (i2 : IntsAre vs (fmT f f.toNat))
    (hdp : dp + 9 < recursionLimit) (hun : un + 90 < cLine)
    (ret : ∀ kx kus kk kn kr' n' (rs : List Ray) own' hsh tk0 h' tk', rs.length = 8 → (∀ r ∈ rs, RayOk (f * 4).toNat own' r) → IntsAre kus kn → kn.length = (f * 4).toNat → (∀ p ∈ own, p ∈ own') → (∀ r ∈ rs, ∀ q ∈ own, q.1 < r.a) → (∀ q ∈ own, q.1 < kx) → (∀ q ∈ own, q.1 ≠ rl) → (∀ q ∈ own, q.1 ≠ gdx) → Fr h₀ L h' m →
      News h₀ L h' ((kx, W.listOf kus.toArray kk) :: (rl, W.listOf (rs.map fun r => Value.ref r.a).toArray kr') :: (gdx, dictOf (putL (Str.ofString "king") hsh (.str (Str.ofString "king") tk0) (.ref kx) es) n') :: own') → Q .none { s with heap := h', toks := tk' }) :
    wpAny (model PySem.Challenge.rw_pf0096_01.row.prog w) (ktrTop dp un gd cn cs L a ccd cl outer) (call (.ref 257) [.ref gx]) Q E s := by
  obtain ⟨m1, d1⟩ := D1.spec
  obtain ⟨m2, d2⟩ := D2.spec
  have o2 : ∀ p ∈ own, p.1 ≠ gdx := fun p hp => d1 p (m2 _ (.tail _ hp))
  refine rays0 (own := own) (n := n) (kr := kr) B F X ?_ T hk h1 h2 hg a1 a2 a3 a4 a5 a6 a7 a8 hlen hm1 hm2 i1 i2 o2 d2 (d1 _ (m2 _ (.head _))) hdp hun fun kx kus kk kn kr' n' rs own' hsh tk0 h' tk' j1 j2 j3 j4 j5 j6 j7 j8 _ _ F' N' => ret kx kus kk kn kr' n' rs own' hsh tk0 h' tk' j1 j2 j3 j4 j5 j7 j8 d2 o2 F' N'
  intro p hp
  rcases List.mem_cons.mp hp with rfl | hp
  · exact N _ (m1 _ (.head _))
  · exact N _ (m1 _ (.tail _ (m2 _ hp)))
theorem geo_out {h₀ h : Heap} {L gx gdx : Addr} {news : List (Addr × Obj)} {es : List DictEntry} {n : Nat} {a b c d e : Addr × Obj} (N : News h₀ L h ((gdx, dictOf es n) :: a :: b :: c :: d :: e :: (gx, instObj 225 gdx) :: news)) : News h₀ L h ((gdx, dictOf es n) :: (gx, instObj 225 gdx) :: news) := by
  intro p hp
  rcases List.mem_cons.mp hp with rfl | hp
  · exact N _ (.head _)
  rcases List.mem_cons.mp hp with rfl | hp
  · exact N _ (.tail _ (.tail _ (.tail _ (.tail _ (.tail _ (.tail _ (.head _)))))))
  · exact N _ (.tail _ (.tail _ (.tail _ (.tail _ (.tail _ (.tail _ (.tail _ hp)))))))
section
set_option maxHeartbeats 8000000
theorem geom0 {w : World} {mean : ExcName → Option Value} {mg mb : Str → Option Value} {dp un : Nat} {gd : Option (List Code)} {cn : Str} {cs : Scope} {a : Addr} {ccd : Value} {cl : List (Str × Addr)} {outer : List Env} {A₀ : Around} {base h₀ : Heap} {L : Addr} {m : Str → Option Value} {news : List (Addr × Obj)} {s : Shared} {Q E : Value → Shared → Prop} {f : Int} {t1 t2 : Nat}
    (B : Below A₀ base outer h₀) (F : Fr h₀ L s.heap m) (X : (ktop.heap_1 w.params).In h₀) (N : News h₀ L s.heap news) (T : Top vw (looseW vw loose) mean mg mb h₀) (hk : cs.kind = .function) (h1 : 3 ≤ f) (h2 : f ≤ 8)
    (hdp : dp + 20 < recursionLimit) (hun : un + 200 < cLine)
    (ret : ∀ gx gdx es n t h' tk', Fr h₀ L h' m → News h₀ L h' ((gdx, dictOf es n) :: (gx, instObj 225 gdx) :: news) → (∀ p ∈ news, p.1 < gx) → (∀ p ∈ news, p.1 < gdx) → getL (Str.ofString "files") es = some (some (.int f t)) → Q (.ref gx) { s with heap := h', toks := tk' }) :
    wpAny (model PySem.Challenge.rw_pf0096_01.row.prog w) (ktrTop dp un gd cn cs L a ccd cl outer) (call (.ref 285) [.int f t1, .int 4 t2, .bool false, .bool false]) Q E s := by
  k_with_none
  k_with "room0" => ((try simp only [depth_under_make, depth_under_kw, depth_in1, depth_deeper, depth_caller]); (try dsimp only [ktrTop]); (first | exact lq0 (by with_reducible assumption) | exact lq1 (by with_reducible assumption) (by rfl) | exact lq2 (by with_reducible assumption) (by rfl) | exact lq3 (by with_reducible assumption) (by rfl) | exact lq4 (by with_reducible assumption) (by rfl) | exact lq5 (by with_reducible assumption) (by rfl) | exact lq6 (by with_reducible assumption) (by rfl) | omega))
  k_with "units0" => ((try simp only [units_in1, units_deeper, Around.mark_units, units_caller]); (try dsimp only [ktrTop]); (first | exact lq0 (by with_reducible assumption) | exact lq1 (by with_reducible assumption) (by rfl) | exact lq2 (by with_reducible assumption) (by rfl) | exact lq3 (by with_reducible assumption) (by rfl) | exact lq4 (by with_reducible assumption) (by rfl) | exact lq5 (by with_reducible assumption) (by rfl) | exact lq6 (by with_reducible assumption) (by rfl) | omega))
  k_with "all0" => (first | assumption | exact allLt_ne (by assumption) | exact allLt_ne (And.right (by assumption)) | exact allLt_ne (And.right (And.right (by assumption))) | exact allLt_ne (And.right (And.right (And.right (by assumption)))) | exact allLt_ne (And.right (And.right (And.right (And.right (by assumption))))) | exact allLt_ne (And.right (And.right (And.right (And.right (And.right (by assumption)))))) | exact allLt_ne (And.right (And.right (And.right (And.right (And.right (And.right (by assumption))))))) | exact allLt_ne (And.right (And.right (And.right (And.right (And.right (And.right (And.right (by assumption)))))))) | exact allLt_ne (And.right (And.right (And.right (And.right (And.right (And.right (And.right (And.right (by assumption))))))))) | exact allLt_ne (And.right (And.right (And.right (And.right (And.right (And.right (And.right (And.right (And.right (by assumption)))))))))) | exact allLt_ne (And.right (And.right (And.right (And.right (And.right (And.right (And.right (And.right (And.right (And.right (by assumption))))))))))) | exact allLt_ne (And.right (And.right (And.right (And.right (And.right (And.right (And.right (And.right (And.right (And.right (And.right (by assumption)))))))))))) | exact allLt_ne (And.right (And.right (And.right (And.right (And.right (And.right (And.right (And.right (And.right (And.right (And.right (And.right (by assumption))))))))))))) | exact allLt_ne (And.right (And.right (And.right (And.right (And.right (And.right (And.right (And.right (And.right (And.right (And.right (And.right (And.right (by assumption)))))))))))))) | exact allLt_ne (And.right (And.right (And.right (And.right (And.right (And.right (And.right (And.right (And.right (And.right (And.right (And.right (And.right (And.right (by assumption))))))))))))))) | exact allLt_ne (And.right (And.right (And.right (And.right (And.right (And.right (And.right (And.right (And.right (And.right (And.right (And.right (And.right (And.right (And.right (by assumption)))))))))))))))) | exact allLt_ne (And.right (And.right (And.right (And.right (And.right (And.right (And.right (And.right (And.right (And.right (And.right (And.right (And.right (And.right (And.right (And.right (by assumption))))))))))))))))) | exact allLt_ne (And.right (And.right (And.right (And.right (And.right (And.right (And.right (And.right (And.right (And.right (And.right (And.right (And.right (And.right (And.right (And.right (And.right (by assumption)))))))))))))))))) | exact ltAll_ne (by assumption))
  k_with "cj" => (first | with_reducible exact And.left | (with_reducible refine cjR ?_; k_extra "cj"))
  k_with "ne0" => ((refine neN ?_; (try dsimp only); first | with_reducible assumption | exact Ne.symm (by with_reducible assumption) | exact Nat.ne_of_lt (by with_reducible assumption) | exact Nat.ne_of_gt (by with_reducible assumption) | exact neL (by with_reducible assumption) (by k_extra "cj") | exact neG (by with_reducible assumption) (by k_extra "cj") | exact neLT (by with_reducible assumption) (by with_reducible assumption) (by k_extra "cj") | exact neGT (by with_reducible assumption) (by with_reducible assumption) (by k_extra "cj")))
  k_with "steps0" => (repeat' (first | (k_unfold; (try dsimp only)) | (k_end; wrow_close) | (walk1; all_goals (try dsimp only)) | (dsimp only; walk1; all_goals (try dsimp only)) | (leave1; walk_say "STEP leave1"; try dsimp only) | fail "no step"))
  k_with "dt0" => ((refine' Del.head ?_; k_all))
  k_with "dt1" => (exact Del.tl (by k_extra "dt0") (by k_ne))
  k_with "dt2" => (exact Del.tl (by k_extra "dt1") (by k_ne))
  k_with "dt3" => (exact Del.tl (by k_extra "dt2") (by k_ne))
  k_with "dt4" => (exact Del.tl (by k_extra "dt3") (by k_ne))
  k_with "dt5" => (exact Del.tl (by k_extra "dt4") (by k_ne))
  k_with "dt6" => (exact Del.tl (by k_extra "dt5") (by k_ne))
  k_with "dt7" => (exact Del.tl (by k_extra "dt6") (by k_ne))
  k_with "dt8" => (exact Del.tl (by k_extra "dt7") (by k_ne))
  k_with "dt9" => (exact Del.tl (by k_extra "dt8") (by k_ne))
  k_with "dt10" => (exact Del.tl (by k_extra "dt9") (by k_ne))
  k_with "dt11" => (exact Del.tl (by k_extra "dt10") (by k_ne))
  k_with "dt12" => (exact Del.tl (by k_extra "dt11") (by k_ne))
  k_with "gg9" => (first | assumption | k_get | exact getL_put_self | exact getL_putk (by k_get) (by decide))
  k_with "call ref" => ((k_here; (with_reducible show wpAny _ _ (call (Value.ref 243) _) _ _ _); k_dflt (refine' masks0 ?B ?F ?X ?N ?T ?hk ?h1 ?h2 ?D1 ?D2 ?hg ?hgd ?a1 ?a2 ?a3 ?a4 ?dp ?un ?_; (case B => k_asm); (case F => k_asm); (case X => k_asm); (case N => k_asm); (case T => k_asm); (case hk => first | exact rfl | assumption); (case h1 => assumption); (case h2 => assumption); (case D1 => k_extra "dt8"); (case D2 => k_extra "dt8"); (case hg => k_mem); (case hgd => k_mem); (case a1 => k_extra "gg9"); (case a2 => k_extra "gg9"); (case a3 => k_extra "gg9"); (case a4 => k_extra "gg9"); (case dp => k_room); (case un => k_units)); intro us'z vs'z k1'z k2'z h'z tk'z F'z N'z i1'z i2'z; (try k_sweep)))
  k_with "call ref" => ((k_here; (with_reducible show wpAny _ _ (call (Value.ref 257) _) _ _ _); k_dflt (refine' raysD ?B ?F ?X ?N ?T ?hk ?h1 ?h2 ?D1 ?D2 ?hg ?a1 ?a2 ?a3 ?a4 ?a5 ?a6 ?a7 ?a8 ?hl ?m1 ?m2 ?i1 ?i2 ?dp ?un ?_; (case B => k_asm); (case F => k_asm); (case X => k_asm); (case N => k_asm); (case T => k_asm); (case hk => first | exact rfl | assumption); (case h1 => assumption); (case h2 => assumption); (case D1 => k_extra "dt11"); (case D2 => k_extra "dt9"); (case hg => k_mem); (case a1 => k_extra "gg9"); (case a2 => k_extra "gg9"); (case a3 => k_extra "gg9"); (case a4 => k_extra "gg9"); (case a5 => k_extra "gg9"); (case a6 => k_extra "gg9"); (case a7 => k_extra "gg9"); (case a8 => k_extra "gg9"); (case hl => exact Nat.le_of_ble_eq_true rfl); (case m1 => k_mem); (case m2 => k_mem); (case i1 => assumption); (case i2 => assumption); (case dp => k_room); (case un => k_units)); intro kx'z kus'z kk'z kn'z kr'z n'z rs'z own'z hsh'z tk0'z h'z tk'z j1'z j2'z j3'z j4'z j5'z j6'z j7'z j8'z j9'z F'z N'z; (try k_sweep)))
  k_with "call ref" => ((k_here; (with_reducible show wpAny _ _ (call (Value.ref 264) _) _ _ _); k_dflt (refine' pawns0 ?B ?F ?X ?N ?T ?hk ?h1 ?h2 ?hs ?D1 ?D2 ?hg ?hpw ?a1 ?a2 ?a3 ?a4 ?j1 ?j2 ?j3 ?j4 ?j5 ?j6 ?j7 ?j8 ?dp ?un ?_; (case B => k_asm); (case F => k_asm); (case X => k_asm); (case N => k_asm); (case T => k_asm); (case hk => first | exact rfl | assumption); (case h1 => assumption); (case h2 => assumption); (case hs => assumption); (case D1 => k_extra "dt6"); (case D2 => k_extra "dt5"); (case hg => k_mem); (case hpw => k_mem); (case a1 => k_extra "gg9"); (case a2 => k_extra "gg9"); (case a3 => k_extra "gg9"); (case a4 => k_extra "gg9"); (case j1 => assumption); (case j2 => assumption); (case j3 => assumption); (case j4 => assumption); (case j5 => assumption); (case j6 => assumption); (case j7 => assumption); (case j8 => assumption); (case dp => k_room); (case un => k_units)); intro h'z tk'z F'z N'z; (try k_sweep)))
  k_with "call ref" => ((k_here; (with_reducible show wpAny _ _ (call (Value.ref 271) _) _ _ _); k_dflt (refine' knights0 ?B ?F ?X ?N ?T ?hk ?h1 ?h2 ?D1 ?hg ?hgd ?hm ?i2 ?a1 ?a2 ?a3 ?a4 ?a5 ?dp ?un ?_; (case B => k_asm); (case F => k_asm); (case X => k_asm); (case N => k_asm); (case T => k_asm); (case hk => first | exact rfl | assumption); (case h1 => assumption); (case h2 => assumption); (case D1 => k_extra "dt6"); (case hg => k_mem); (case hgd => k_mem); (case a1 => k_extra "gg9"); (case a2 => k_extra "gg9"); (case a3 => k_extra "gg9"); (case a4 => k_extra "gg9"); (case a5 => k_extra "gg9"); (case hm => k_mem); (case i2 => assumption); (case dp => k_room); (case un => k_units)); intro h'z tk'z F'z N'z; (try k_sweep)))
  k_with "call ref" => ((k_here; (with_reducible show wpAny _ _ (call (Value.ref 278) _) _ _ _); k_dflt (refine' castles0 ?B ?F ?X ?N ?T ?hk ?h1 ?h2 ?D1 ?D2 ?hg ?hl ?a1 ?a2 ?a3 ?a4 ?a5 ?a6 ?dp ?un ?_; (case B => k_asm); (case F => k_asm); (case X => k_asm); (case N => k_asm); (case T => k_asm); (case hk => first | exact rfl | assumption); (case h1 => assumption); (case h2 => assumption); (case D1 => k_extra "dt0"); (case D2 => k_extra "dt3"); (case hg => k_mem); (case hl => exact Nat.le_trans (putL_len _ _ _ _ _) (Nat.le_of_ble_eq_true rfl)); (case a1 => k_extra "gg9"); (case a2 => k_extra "gg9"); (case a3 => k_extra "gg9"); (case a4 => k_extra "gg9"); (case a5 => k_extra "gg9"); (case a6 => k_extra "gg9"); (case dp => k_room); (case un => k_units)); intro es'z n'z t'z h'z tk'z F'z N'z e1'z; (try k_sweep)))
  revert X; k_fill; intro X
  refine wpAny_call ?_
  k_dflt ktr_enter
  k_steps
  refine ret _ _ _ _ _ _ _ (by assumption) (geo_out (by assumption)) ?_ (by assumption) (by assumption)
  intro p hp
  exact Nat.lt_trans ((show ∀ p ∈ news, p.1 < _ from by assumption) p hp) (by assumption)
end
end
section
theorem fmod_bd (x : Int) : 0 ≤ x.fmod (10 ^ Int.toNat 9) ∧ x.fmod (10 ^ Int.toNat 9) < 1000000000 := by
  have e : (10 ^ Int.toNat 9 : Int) = 1000000000 := by decide
  rw [e]
  exact ⟨Int.fmod_nonneg_of_pos _ (by decide), Int.fmod_lt_of_pos _ (by decide)⟩
theorem belt0 {w : World} {b c : Addr} {ob : Obj} {ys : List Value} {zs : List Int} {t t1 t2 : Tok} (hI : IntsAre ys ((zs.take 60).map fun k' => (if k' < 0 then -k' else k').fmod (10 ^ Int.toNat 9)))
    (hd' : ob.IsDictOf (PySem.strKind PySem.Challenge.rw_pf0096_01.row.prog w) (strPairs [(.str (Str.ofString "cells") t1, Value.ref c), (.str (Str.ofString "spot") t2, Value.int 0 t)])) (hne : @Ne Nat c b) : Belt w b c ob (LCg.lst ys) 0 :=
  ⟨hne, ⟨t, hd'⟩, ⟨ys, _, rfl, hI, fun x hx => by
    obtain ⟨y, _, rfl⟩ := List.mem_map.mp hx
    exact fmod_bd _, by rw [List.length_map, List.length_take]; omega⟩, by decide, by decide⟩
theorem reportsU {w : World} {mean : ExcName → Option Value} {mg mb : Str → Option Value} {dp un : Nat} {gd : Option (List Code)} {cn : Str} {cs : Scope} {a : Addr} {ccd : Value} {cl : List (Str × Addr)} {outer : List Env} {A₀ : Around} {base h₀ : Heap} {L : Addr} {m : Str → Option Value} {news : List (Addr × Obj)} {g : Obj → List (Addr × Obj)} {s : Shared} {Q E : Value → Shared → Prop} {f k : Int} {gx gdx b c : Addr} {ob oc : Obj} {es : List DictEntry} {n : Nat} {tf : Nat}
    (B : Below A₀ base outer h₀) (F : Fr h₀ L s.heap m) (X : (ktop.heap_1 w.params).In h₀) (N : News h₀ L s.heap news) (T : Top vw (looseW vw loose) mean mg mb h₀) (hk : cs.kind = .function) (h1 : 3 ≤ f) (h2 : f ≤ 8) (U : UpdF b ob news g) (hb : Belt w b c ob oc k) (hc : (c, oc) ∈ news) (hg : (gx, instObj 225 gdx) ∈ news) (hgd : (gdx, dictOf es n) ∈ news) (hfl : getL (Str.ofString "files") es = some (some (.int f tf)))
    (n1 : @Ne Nat gx b) (n2 : @Ne Nat gdx b) (hk1 : k ≤ 100) (hdp : dp + 30 < recursionLimit) (hun : un + 300 < cLine)
    (ret : ∀ o' k' h' tk', Fr h₀ L h' m → News h₀ L h' (g o') → Belt w b c o' oc k' → k' ≤ k + 100 → Q (.bool true) { s with heap := h', toks := tk' }) :
    wpAny (model PySem.Challenge.rw_pf0096_01.row.prog w) (ktrTop dp un gd cn cs L a ccd cl outer) (call (.ref 320) [.ref b, .ref gx]) Q E s := by
  obtain ⟨pre, post, e, hg', q1, q2⟩ := U.split
  subst e
  have N' : News h₀ L s.heap ((b, ob) :: (c, oc) :: (pre ++ post)) := by
    intro p hp
    simp only [List.mem_cons, List.mem_append] at hp
    rcases hp with rfl | rfl | hp | hp
    · exact N _ (List.mem_append_right _ (.head _))
    · exact N _ hc
    · exact N _ (List.mem_append_left _ hp)
    · exact N _ (List.mem_append_right _ (.tail _ hp))
  have out : ∀ {x : Addr} {o : Obj}, @Ne Nat x b → (x, o) ∈ pre ++ (b, ob) :: post → (x, o) ∈ pre ++ post := by
    intro x o hx hm
    rcases List.mem_append.mp hm with hm | hm
    · exact List.mem_append_left _ hm
    rcases List.mem_cons.mp hm with hm | hm
    · exact absurd (congrArg Prod.fst hm) hx
    · exact List.mem_append_right _ hm
  refine reports0 B F X N' T hk h1 h2 (out n1 hg) (out n2 hgd) hfl ?_ hb.ne hb hk1 hdp hun fun o' k' h' tk' F' N'' hb' hk' => ret o' k' h' tk' F' ?_ hb' hk'
  · intro p hp q hq
    rw [List.mem_singleton.mp hq]
    rcases List.mem_append.mp hp with hp | hp
    · exact q1 p hp
    · exact q2 p hp
  · rw [hg']
    intro p hp
    simp only [List.mem_cons, List.mem_append] at hp
    rcases hp with hp | rfl | hp
    · exact N'' _ (.tail _ (.tail _ (List.mem_append_left _ hp)))
    · exact N'' _ (.head _)
    · exact N'' _ (.tail _ (.tail _ (List.mem_append_right _ hp)))
theorem countsU {w : World} {mean : ExcName → Option Value} {mg mb : Str → Option Value} {dp un : Nat} {gd : Option (List Code)} {cn : Str} {cs : Scope} {a : Addr} {ccd : Value} {cl : List (Str × Addr)} {A₀ : Around} {h₀ : Heap} {L : Addr} {m : Str → Option Value} {news : List (Addr × Obj)} {g : Obj → List (Addr × Obj)} {s : Shared}
    {Q E : Value → Shared → Prop} {b c : Addr} {ob oc : Obj} {k : Int}
    (B : Below A₀ h₀ [] h₀) (F : Fr h₀ L s.heap m) (X : (ktop.heap_1 w.params).In h₀) (N : News h₀ L s.heap news)
    (T : Top vw (looseW vw loose) mean mg mb h₀) (hk : cs.kind = .function)
    (U : UpdF b ob news g) (hb : Belt w b c ob oc k) (hc : (c, oc) ∈ news) (hk1 : k ≤ 900)
    (hdp : dp + 10 < recursionLimit) (hun : un + 100 < cLine)
    (ret : ∀ h' tk', Fr h₀ L h' m → Q (.bool true) { s with heap := h', toks := tk' }) :
    wpAny (model PySem.Challenge.rw_pf0096_01.row.prog w) (ktrTop dp un gd cn cs L a ccd cl []) (call (.ref 327) [.ref b]) Q E s := by
  obtain ⟨pre, post, e, hg', q1, q2⟩ := U.split
  subst e
  have N' : News h₀ L s.heap ((b, ob) :: (c, oc) :: (pre ++ post)) := by
    intro p hp
    simp only [List.mem_cons, List.mem_append] at hp
    rcases hp with rfl | rfl | hp | hp
    · exact N _ (List.mem_append_right _ (.head _))
    · exact N _ hc
    · exact N _ (List.mem_append_left _ hp)
    · exact N _ (List.mem_append_right _ (.tail _ hp))
  refine counts0 B F X N' T hk ?_ hb.ne hb hk1 hdp hun ret
  intro p hp q hq
  rw [List.mem_singleton.mp hq]
  rcases List.mem_append.mp hp with hp | hp
  · exact q1 p hp
  · exact q2 p hp
end
section
section
theorem w1 : PySem.Challenge.rw_pf0096_01.Holds := by
  k_with_none
  k_with "room0" => ((try simp only [depth_under_make, depth_under_kw, depth_in1, depth_deeper, depth_caller]); (try dsimp only [ktrTop]); (first | exact lq0 (by with_reducible assumption) | exact lq1 (by with_reducible assumption) (by rfl) | exact lq2 (by with_reducible assumption) (by rfl) | exact lq3 (by with_reducible assumption) (by rfl) | exact lq4 (by with_reducible assumption) (by rfl) | exact lq5 (by with_reducible assumption) (by rfl) | exact lq6 (by with_reducible assumption) (by rfl) | omega))
  k_with "units0" => ((try simp only [units_in1, units_deeper, Around.mark_units, units_caller]); (try dsimp only [ktrTop]); (first | exact lq0 (by with_reducible assumption) | exact lq1 (by with_reducible assumption) (by rfl) | exact lq2 (by with_reducible assumption) (by rfl) | exact lq3 (by with_reducible assumption) (by rfl) | exact lq4 (by with_reducible assumption) (by rfl) | exact lq5 (by with_reducible assumption) (by rfl) | exact lq6 (by with_reducible assumption) (by rfl) | omega))
  k_with "all0" => (first | assumption | exact allLt_ne (by assumption) | exact allLt_ne (And.right (by assumption)) | exact allLt_ne (And.right (And.right (by assumption))) | exact allLt_ne (And.right (And.right (And.right (by assumption)))) | exact allLt_ne (And.right (And.right (And.right (And.right (by assumption))))) | exact allLt_ne (And.right (And.right (And.right (And.right (And.right (by assumption)))))) | exact allLt_ne (And.right (And.right (And.right (And.right (And.right (And.right (by assumption))))))) | exact allLt_ne (And.right (And.right (And.right (And.right (And.right (And.right (And.right (by assumption)))))))) | exact allLt_ne (And.right (And.right (And.right (And.right (And.right (And.right (And.right (And.right (by assumption))))))))) | exact allLt_ne (And.right (And.right (And.right (And.right (And.right (And.right (And.right (And.right (And.right (by assumption)))))))))) | exact allLt_ne (And.right (And.right (And.right (And.right (And.right (And.right (And.right (And.right (And.right (And.right (by assumption))))))))))) | exact allLt_ne (And.right (And.right (And.right (And.right (And.right (And.right (And.right (And.right (And.right (And.right (And.right (by assumption)))))))))))) | exact allLt_ne (And.right (And.right (And.right (And.right (And.right (And.right (And.right (And.right (And.right (And.right (And.right (And.right (by assumption))))))))))))) | exact allLt_ne (And.right (And.right (And.right (And.right (And.right (And.right (And.right (And.right (And.right (And.right (And.right (And.right (And.right (by assumption)))))))))))))) | exact allLt_ne (And.right (And.right (And.right (And.right (And.right (And.right (And.right (And.right (And.right (And.right (And.right (And.right (And.right (And.right (by assumption))))))))))))))) | exact allLt_ne (And.right (And.right (And.right (And.right (And.right (And.right (And.right (And.right (And.right (And.right (And.right (And.right (And.right (And.right (And.right (by assumption)))))))))))))))) | exact allLt_ne (And.right (And.right (And.right (And.right (And.right (And.right (And.right (And.right (And.right (And.right (And.right (And.right (And.right (And.right (And.right (And.right (by assumption))))))))))))))))) | exact allLt_ne (And.right (And.right (And.right (And.right (And.right (And.right (And.right (And.right (And.right (And.right (And.right (And.right (And.right (And.right (And.right (And.right (And.right (by assumption)))))))))))))))))) | exact ltAll_ne (by assumption))
  k_with "cj" => (first | with_reducible exact And.left | (with_reducible refine cjR ?_; k_extra "cj"))
  k_with "ne0" => ((refine neN ?_; (try dsimp only); first | with_reducible assumption | exact Ne.symm (by with_reducible assumption) | exact Nat.ne_of_lt (by with_reducible assumption) | exact Nat.ne_of_gt (by with_reducible assumption) | exact neL (by with_reducible assumption) (by k_extra "cj") | exact neG (by with_reducible assumption) (by k_extra "cj") | exact neLT (by with_reducible assumption) (by with_reducible assumption) (by k_extra "cj") | exact neGT (by with_reducible assumption) (by with_reducible assumption) (by k_extra "cj")))
  k_with "steps0" => (repeat' (first | (k_unfold; (try dsimp only)) | (k_end; wrow_close) | (walk1; all_goals (try dsimp only)) | (dsimp only; walk1; all_goals (try dsimp only)) | (leave1; walk_say "STEP leave1"; try dsimp only) | fail "no step"))
  k_with "call ref" => (((with_reducible show wpAny _ _ (call (Value.ref 299) _) _ _ _); refine Stop.mk' ?_))
  k_with "room9" => (((try simp only [depth_under_make, depth_under_kw, depth_in1, depth_deeper, depth_caller]); (try dsimp only [ktrTop]); first | omega | decide | (simp only [recursionLimit]; omega)))
  k_with "units9" => (((try simp only [units_in1, units_deeper, Around.mark_units, units_caller]); (try dsimp only [ktrTop]); first | omega | decide | (have hcL9 := cLine_is; omega)))
  k_with "call ref" => ((k_here; (with_reducible show wpAny _ _ (call (Value.ref 285) _) _ _ _); k_dflt (refine' geom0 ?B ?F ?X ?N ?T ?hk ?h1 ?h2 ?dp ?un ?_; (case B => k_asm); (case F => k_asm); (case X => k_asm); (case N => k_asm); (case T => k_asm); (case hk => first | exact rfl | assumption); (case h1 => omega); (case h2 => omega); (case dp => k_extra "room9"); (case un => k_extra "units9")); intro gx'z gdx'z es'z n'z t'z h'z tk'z F'z N'z l1z l2z e1'z; (try k_lt l1z); (try k_lt l2z); (try k_sweep)))
  k_with "call ref" => ((k_here; (with_reducible show wpAny _ _ (call (Value.ref 320) _) _ _ _); k_dflt (refine' reportsU ?B ?F ?X ?N ?T ?hk ?h1 ?h2 ?U ?be ?c ?hg ?hgd ?hf ?n1 ?n2 ?k1 ?dp ?un ?_; (case B => k_asm); (case F => k_asm); (case X => k_asm); (case N => k_asm); (case T => k_asm); (case hk => first | exact rfl | assumption); (case U => k_updF); (case be => assumption); (case c => k_mem); (case hg => k_mem); (case hgd => k_mem); (case hf => assumption); (case h1 => omega); (case h2 => omega); (case n1 => k_ne); (case n2 => k_ne); (case k1 => omega); (case dp => k_extra "room9"); (case un => k_extra "units9")); intro o'z k'z h'z tk'z F'z N'z be'z kk'z; (try dsimp only at N'z); (try k_sweep)))
  k_with "call ref" => ((k_here; (with_reducible show wpAny _ _ (call (Value.ref 327) _) _ _ _); k_dflt (refine' countsU ?B ?F ?X ?N ?T ?hk ?U ?be ?c ?k1 ?dp ?un ?_; (case B => k_asm); (case F => k_asm); (case X => k_asm); (case N => k_asm); (case T => k_asm); (case hk => first | exact rfl | assumption); (case U => k_updF); (case be => assumption); (case c => k_mem); (case k1 => omega); (case dp => k_extra "room9"); (case un => k_extra "units9")); intro h'z tk'z F'z; (try k_sweep)))
  w_on
  refine holds_law saidT fun said => ?_
  refine holds_open (r := rr) (d := ⟨_, _, _, _, _⟩) (q := vw) (loose := loose) (XP := XL vw lv) (YP := Hook.says (kHook ktop.heap_1 asK asK_eq)) (N := 5332) left (Hook.of (kHook ktop.heap_1 asK asK_eq)) (Hook.keeps (kHook ktop.heap_1 asK asK_eq)) (fun s e => xl_of s (Bool.and_eq_true_iff.mp e).1) XL.keeps (defT.trans (by rfl)) theDefT (by rfl) (fun s e => recFacts_of (Bool.and_eq_true_iff.mp e).2) (by rfl) said okT ⟨rfl, rfl, rfl, rfl, rfl, by decide +kernel⟩ ?hw ?hc
  (case hw => w_witness2)
  clear said
  w_strict k_go0
  (all_goals try k_fold)
  k_steps
  unfold Stop
  k_dflt (refine' pickU ?B ?F ?X ?N ?T ?hk ?U ?be ?mc ?kb ?n0 ?n1 ?dp ?un ?_)
  (case B => k_asm)
  (case F => k_asm)
  (case X => k_asm)
  (case N => k_asm)
  (case T => k_asm)
  (case hk => exact rfl)
  (case U => k_updF)
  (case be => exact belt0 (by assumption) (by assumption) (neN (by omega)))
  (case mc => k_mem)
  (case kb => omega)
  (case n0 => first | decide | omega)
  (case n1 => first | decide | omega)
  (case dp => walk_at "room9")
  (case un => walk_at "units9")
  intro r' t' h' tk' o' F' N' be' lo' hi'
  (try dsimp only at N')
  (try k_sweep)
  k_steps
  done
end
end
end Mine
theorem PySem.Challenge.cw_pf0096_01_holds : PySem.Challenge.rw_pf0096_01.Holds := by
  exact Mine.w1
