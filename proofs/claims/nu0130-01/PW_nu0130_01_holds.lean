import PyProof.Rows.All
import Wide.All
import OpenK.AllK
import Wide.FinOn
import Lean
import PySem.Challenge.RW_nu0130_01
open PySem PySem.W PyProof.Rows
set_option Elab.async false
set_option maxRecDepth 100000
set_option maxHeartbeats 8000000
set_option linter.unusedVariables false
set_option linter.unusedSimpArgs false
set_option compiler.extract_closed false
namespace Mine
section
/-- the i-th statement's def -/
noncomputable def topD (i : Nat) : Arguments × List Stmt × Scope := match PySem.Challenge.pw_nu0130_01.main.body[i]? with
  | some (.FunctionDef _ a b _ _ _ s _ _ _) => (a, b, s)
  | _ => default
/-- the j-th def of the class that is the i-th statement -/
noncomputable def clsD (i j : Nat) : Arguments × List Stmt × Scope := match PySem.Challenge.pw_nu0130_01.main.body[i]? with
  | some (.ClassDef _ _ _ l _ _ _ _ _ _ _) => (match l[j]? with
    | some (.FunctionDef _ a b _ _ _ s _ _ _) => (a, b, s)
    | _ => default)
  | _ => default
/-- the objects that the walks look at, as they lie behind the top -/
noncomputable def KKp (P : Params) : Frag :=
  [(2, { cls := Value.none, data := Data.dict #[] }),
   (3, { cls := Value.type "dict", data := Data.dict #[{ hash := PyData.keyHash P (Str.ofString "__name__"), key := Value.str (Str.ofString "__name__") 165, val := Value.str (Str.ofString "law_nu0130_01") 564 }, { hash := PyData.keyHash P (Str.ofString "__doc__"), key := Value.str (Str.ofString "__doc__") 166, val := Value.none }, { hash := PyData.keyHash P (Str.ofString "__package__"), key := Value.str (Str.ofString "__package__") 167, val := Value.none }, { hash := PyData.keyHash P (Str.ofString "__loader__"), key := Value.str (Str.ofString "__loader__") 168, val := Value.builtin "__main__.__loader__#opaque" }, { hash := PyData.keyHash P (Str.ofString "__spec__"), key := Value.str (Str.ofString "__spec__") 169, val := Value.none }, { hash := PyData.keyHash P (Str.ofString "__annotations__"), key := Value.str (Str.ofString "__annotations__") 170, val := Value.ref 6 }, { hash := PyData.keyHash P (Str.ofString "__builtins__"), key := Value.str (Str.ofString "__builtins__") 171, val := Value.ref 4 }, { hash := PyData.keyHash P (Str.ofString "__file__"), key := Value.str (Str.ofString "__file__") 173, val := Value.str (Str.ofString "/claim/cut.py") 172 }, { hash := PyData.keyHash P (Str.ofString "__cached__"), key := Value.str (Str.ofString "__cached__") 174, val := Value.none }, { hash := PyData.keyHash P (Str.ofString "_wall"), key := Value.str (Str.ofString "_wall") 193, val := Value.ref 21 }, { hash := PyData.keyHash P (Str.ofString "plus"), key := Value.str (Str.ofString "plus") 204, val := Value.ref 28 }, { hash := PyData.keyHash P (Str.ofString "distance"), key := Value.str (Str.ofString "distance") 213, val := Value.ref 35 }, { hash := PyData.keyHash P (Str.ofString "is_before"), key := Value.str (Str.ofString "is_before") 223, val := Value.ref 42 }, { hash := PyData.keyHash P (Str.ofString "is_at_most"), key := Value.str (Str.ofString "is_at_most") 232, val := Value.ref 49 }, { hash := PyData.keyHash P (Str.ofString "Assembly"), key := Value.str (Str.ofString "Assembly") 390, val := Value.ref 141 }, { hash := PyData.keyHash P (Str.ofString "Receiver"), key := Value.str (Str.ofString "Receiver") 563, val := Value.ref 275 }, { hash := PyData.keyHash P (Str.ofString "_law_pool"), key := Value.str (Str.ofString "_law_pool") 576, val := Value.ref 286 }, { hash := PyData.keyHash P (Str.ofString "_law_take"), key := Value.str (Str.ofString "_law_take") 585, val := Value.ref 293 }, { hash := PyData.keyHash P (Str.ofString "_law_segment"), key := Value.str (Str.ofString "_law_segment") 600, val := Value.ref 300 }, { hash := PyData.keyHash P (Str.ofString "_law_twin"), key := Value.str (Str.ofString "_law_twin") 614, val := Value.ref 307 }, { hash := PyData.keyHash P (Str.ofString "_law_holes"), key := Value.str (Str.ofString "_law_holes") 620, val := Value.ref 312 }, { hash := PyData.keyHash P (Str.ofString "_law_window_right"), key := Value.str (Str.ofString "_law_window_right") 632, val := Value.ref 319 }, { hash := PyData.keyHash P (Str.ofString "_law_read_right"), key := Value.str (Str.ofString "_law_read_right") 638, val := Value.ref 324 }, { hash := PyData.keyHash P (Str.ofString "_law_step_right"), key := Value.str (Str.ofString "_law_step_right") 655, val := Value.ref 331 }, { hash := PyData.keyHash P (Str.ofString "law"), key := Value.str (Str.ofString "law") 661, val := Value.ref 336 }] 25 }),
   (20, { cls := Value.type "code", data := Data.fields #[Value.str (Str.ofString "_wall") 187, Value.str (Str.ofString "_wall") 188, Value.str (Str.ofString "/claim/cut.py") 189, Value.int 1 0, Value.int 1 0, Value.int 0 0, Value.int 0 0, Value.int 3 0, Value.ref 15, Value.bool true, Value.int 181 0, Value.ref 16, Value.none, Value.ref 17, Value.ref 18, Value.ref 19, Value.int 191 0, Value.int 1 0, Value.str (Str.ofString "/claim/cut.py") 192] }),
   (21, { cls := .type "function", data := .func { name := Str.ofString "_wall", qualname := Str.ofString "_wall", params := (topD 0).1, body := .stmts (topD 0).2.1, scope := (topD 0).2.2, globals := 3, closure := [], defaults := Value.none, kwdefaults := Value.none, doc := Value.none, pyModule := Value.str (Str.ofString "__main__") 164, annotations := none, code := Value.ref 20, closureTuple := Value.none, builtins := 0 } }),
   (27, { cls := Value.type "code", data := Data.fields #[Value.str (Str.ofString "plus") 196, Value.str (Str.ofString "plus") 197, Value.str (Str.ofString "/claim/cut.py") 198, Value.int 5 0, Value.int 3 0, Value.int 0 0, Value.int 0 0, Value.int 3 0, Value.ref 22, Value.bool true, Value.int 181 0, Value.ref 23, Value.none, Value.ref 24, Value.ref 25, Value.ref 26, Value.int 202 0, Value.int 5 0, Value.str (Str.ofString "/claim/cut.py") 203] }),
   (28, { cls := .type "function", data := .func { name := Str.ofString "plus", qualname := Str.ofString "plus", params := (topD 2).1, body := .stmts (topD 2).2.1, scope := (topD 2).2.2, globals := 3, closure := [], defaults := Value.none, kwdefaults := Value.none, doc := Value.none, pyModule := Value.str (Str.ofString "thinstack.sequence") 194, annotations := none, code := Value.ref 27, closureTuple := Value.none, builtins := 0 } }),
   (34, { cls := Value.type "code", data := Data.fields #[Value.str (Str.ofString "distance") 205, Value.str (Str.ofString "distance") 206, Value.str (Str.ofString "/claim/cut.py") 207, Value.int 7 0, Value.int 3 0, Value.int 0 0, Value.int 0 0, Value.int 3 0, Value.ref 29, Value.bool true, Value.int 181 0, Value.ref 30, Value.none, Value.ref 31, Value.ref 32, Value.ref 33, Value.int 211 0, Value.int 7 0, Value.str (Str.ofString "/claim/cut.py") 212] }),
   (35, { cls := .type "function", data := .func { name := Str.ofString "distance", qualname := Str.ofString "distance", params := (topD 3).1, body := .stmts (topD 3).2.1, scope := (topD 3).2.2, globals := 3, closure := [], defaults := Value.none, kwdefaults := Value.none, doc := Value.none, pyModule := Value.str (Str.ofString "thinstack.sequence") 194, annotations := none, code := Value.ref 34, closureTuple := Value.none, builtins := 0 } }),
   (41, { cls := Value.type "code", data := Data.fields #[Value.str (Str.ofString "is_before") 214, Value.str (Str.ofString "is_before") 215, Value.str (Str.ofString "/claim/cut.py") 216, Value.int 9 0, Value.int 3 0, Value.int 0 0, Value.int 0 0, Value.int 3 0, Value.ref 36, Value.bool true, Value.int 181 0, Value.ref 37, Value.none, Value.ref 38, Value.ref 39, Value.ref 40, Value.int 221 0, Value.int 9 0, Value.str (Str.ofString "/claim/cut.py") 222] }),
   (42, { cls := .type "function", data := .func { name := Str.ofString "is_before", qualname := Str.ofString "is_before", params := (topD 4).1, body := .stmts (topD 4).2.1, scope := (topD 4).2.2, globals := 3, closure := [], defaults := Value.none, kwdefaults := Value.none, doc := Value.none, pyModule := Value.str (Str.ofString "thinstack.sequence") 194, annotations := none, code := Value.ref 41, closureTuple := Value.none, builtins := 0 } }),
   (48, { cls := Value.type "code", data := Data.fields #[Value.str (Str.ofString "is_at_most") 224, Value.str (Str.ofString "is_at_most") 225, Value.str (Str.ofString "/claim/cut.py") 226, Value.int 12 0, Value.int 3 0, Value.int 0 0, Value.int 0 0, Value.int 3 0, Value.ref 43, Value.bool true, Value.int 181 0, Value.ref 44, Value.none, Value.ref 45, Value.ref 46, Value.ref 47, Value.int 230 0, Value.int 12 0, Value.str (Str.ofString "/claim/cut.py") 231] }),
   (49, { cls := .type "function", data := .func { name := Str.ofString "is_at_most", qualname := Str.ofString "is_at_most", params := (topD 5).1, body := .stmts (topD 5).2.1, scope := (topD 5).2.2, globals := 3, closure := [], defaults := Value.none, kwdefaults := Value.none, doc := Value.none, pyModule := Value.str (Str.ofString "thinstack.sequence") 194, annotations := none, code := Value.ref 48, closureTuple := Value.none, builtins := 0 } }),
   (62, { cls := Value.type "code", data := Data.fields #[Value.str (Str.ofString "__init__") 247, Value.str (Str.ofString "Assembly.__init__") 248, Value.str (Str.ofString "/claim/cut.py") 249, Value.int 17 0, Value.int 2 0, Value.int 0 0, Value.int 0 0, Value.int 3 0, Value.ref 57, Value.bool true, Value.int 181 0, Value.ref 58, Value.none, Value.ref 59, Value.ref 60, Value.ref 61, Value.int 252 0, Value.int 17 0, Value.str (Str.ofString "/claim/cut.py") 253] }),
   (63, { cls := .type "function", data := .func { name := Str.ofString "__init__", qualname := Str.ofString "Assembly.__init__", params := (clsD 7 0).1, body := .stmts (clsD 7 0).2.1, scope := (clsD 7 0).2.2, globals := 3, closure := [], defaults := Value.none, kwdefaults := Value.none, doc := Value.none, pyModule := Value.str (Str.ofString "thinstack.assembly") 233, annotations := none, code := Value.ref 62, closureTuple := Value.none, builtins := 0 } }),
   (67, { cls := Value.type "code", data := Data.fields #[Value.str (Str.ofString "size") 255, Value.str (Str.ofString "Assembly.size") 256, Value.str (Str.ofString "/claim/cut.py") 257, Value.int 21 0, Value.int 1 0, Value.int 0 0, Value.int 0 0, Value.int 3 0, Value.ref 64, Value.bool true, Value.int 181 0, Value.ref 65, Value.none, Value.none, Value.none, Value.ref 66, Value.int 258 0, Value.int 21 0, Value.str (Str.ofString "/claim/cut.py") 259] }),
   (68, { cls := .type "function", data := .func { name := Str.ofString "size", qualname := Str.ofString "Assembly.size", params := (clsD 7 1).1, body := .stmts (clsD 7 1).2.1, scope := (clsD 7 1).2.2, globals := 3, closure := [], defaults := Value.none, kwdefaults := Value.none, doc := Value.none, pyModule := Value.str (Str.ofString "thinstack.assembly") 233, annotations := none, code := Value.ref 67, closureTuple := Value.none, builtins := 0 } }),
   (74, { cls := Value.type "code", data := Data.fields #[Value.str (Str.ofString "is_empty") 261, Value.str (Str.ofString "Assembly.is_empty") 262, Value.str (Str.ofString "/claim/cut.py") 263, Value.int 24 0, Value.int 1 0, Value.int 0 0, Value.int 0 0, Value.int 3 0, Value.ref 69, Value.bool true, Value.int 181 0, Value.ref 70, Value.none, Value.ref 71, Value.ref 72, Value.ref 73, Value.int 265 0, Value.int 24 0, Value.str (Str.ofString "/claim/cut.py") 266] }),
   (75, { cls := .type "function", data := .func { name := Str.ofString "is_empty", qualname := Str.ofString "Assembly.is_empty", params := (clsD 7 2).1, body := .stmts (clsD 7 2).2.1, scope := (clsD 7 2).2.2, globals := 3, closure := [], defaults := Value.none, kwdefaults := Value.none, doc := Value.none, pyModule := Value.str (Str.ofString "thinstack.assembly") 233, annotations := none, code := Value.ref 74, closureTuple := Value.none, builtins := 0 } }),
   (81, { cls := Value.type "code", data := Data.fields #[Value.str (Str.ofString "offset") 268, Value.str (Str.ofString "Assembly.offset") 269, Value.str (Str.ofString "/claim/cut.py") 270, Value.int 27 0, Value.int 3 0, Value.int 0 0, Value.int 0 0, Value.int 3 0, Value.ref 76, Value.bool true, Value.int 181 0, Value.ref 77, Value.none, Value.ref 78, Value.ref 79, Value.ref 80, Value.int 274 0, Value.int 27 0, Value.str (Str.ofString "/claim/cut.py") 275] }),
   (82, { cls := .type "function", data := .func { name := Str.ofString "offset", qualname := Str.ofString "Assembly.offset", params := (clsD 7 3).1, body := .stmts (clsD 7 3).2.1, scope := (clsD 7 3).2.2, globals := 3, closure := [], defaults := Value.none, kwdefaults := Value.none, doc := Value.none, pyModule := Value.str (Str.ofString "thinstack.assembly") 233, annotations := none, code := Value.ref 81, closureTuple := Value.none, builtins := 0 } }),
   (88, { cls := Value.type "code", data := Data.fields #[Value.str (Str.ofString "put") 277, Value.str (Str.ofString "Assembly.put") 278, Value.str (Str.ofString "/claim/cut.py") 279, Value.int 32 0, Value.int 4 0, Value.int 0 0, Value.int 0 0, Value.int 3 0, Value.ref 83, Value.bool true, Value.int 181 0, Value.ref 84, Value.none, Value.ref 85, Value.ref 86, Value.ref 87, Value.int 286 0, Value.int 32 0, Value.str (Str.ofString "/claim/cut.py") 287] }),
   (89, { cls := .type "function", data := .func { name := Str.ofString "put", qualname := Str.ofString "Assembly.put", params := (clsD 7 4).1, body := .stmts (clsD 7 4).2.1, scope := (clsD 7 4).2.2, globals := 3, closure := [], defaults := Value.none, kwdefaults := Value.none, doc := Value.none, pyModule := Value.str (Str.ofString "thinstack.assembly") 233, annotations := none, code := Value.ref 88, closureTuple := Value.none, builtins := 0 } }),
   (95, { cls := Value.type "code", data := Data.fields #[Value.str (Str.ofString "missing") 289, Value.str (Str.ofString "Assembly.missing") 290, Value.str (Str.ofString "/claim/cut.py") 291, Value.int 42 0, Value.int 4 0, Value.int 0 0, Value.int 0 0, Value.int 3 0, Value.ref 90, Value.bool true, Value.int 181 0, Value.ref 91, Value.none, Value.ref 92, Value.ref 93, Value.ref 94, Value.int 303 0, Value.int 42 0, Value.str (Str.ofString "/claim/cut.py") 304] }),
   (96, { cls := .type "function", data := .func { name := Str.ofString "missing", qualname := Str.ofString "Assembly.missing", params := (clsD 7 5).1, body := .stmts (clsD 7 5).2.1, scope := (clsD 7 5).2.2, globals := 3, closure := [], defaults := Value.none, kwdefaults := Value.none, doc := Value.none, pyModule := Value.str (Str.ofString "thinstack.assembly") 233, annotations := none, code := Value.ref 95, closureTuple := Value.none, builtins := 0 } }),
   (102, { cls := Value.type "code", data := Data.fields #[Value.str (Str.ofString "merged") 306, Value.str (Str.ofString "Assembly.merged") 307, Value.str (Str.ofString "/claim/cut.py") 308, Value.int 59 0, Value.int 3 0, Value.int 0 0, Value.int 0 0, Value.int 3 0, Value.ref 97, Value.bool true, Value.int 181 0, Value.ref 98, Value.none, Value.ref 99, Value.ref 100, Value.ref 101, Value.int 317 0, Value.int 59 0, Value.str (Str.ofString "/claim/cut.py") 318] }),
   (103, { cls := .type "function", data := .func { name := Str.ofString "merged", qualname := Str.ofString "Assembly.merged", params := (clsD 7 6).1, body := .stmts (clsD 7 6).2.1, scope := (clsD 7 6).2.2, globals := 3, closure := [], defaults := Value.none, kwdefaults := Value.none, doc := Value.none, pyModule := Value.str (Str.ofString "thinstack.assembly") 233, annotations := none, code := Value.ref 102, closureTuple := Value.none, builtins := 0 } }),
   (109, { cls := Value.type "code", data := Data.fields #[Value.str (Str.ofString "joined") 320, Value.str (Str.ofString "Assembly.joined") 321, Value.str (Str.ofString "/claim/cut.py") 322, Value.int 68 0, Value.int 3 0, Value.int 0 0, Value.int 0 0, Value.int 3 0, Value.ref 104, Value.bool true, Value.int 181 0, Value.ref 105, Value.none, Value.ref 106, Value.ref 107, Value.ref 108, Value.int 332 0, Value.int 68 0, Value.str (Str.ofString "/claim/cut.py") 333] }),
   (110, { cls := .type "function", data := .func { name := Str.ofString "joined", qualname := Str.ofString "Assembly.joined", params := (clsD 7 7).1, body := .stmts (clsD 7 7).2.1, scope := (clsD 7 7).2.2, globals := 3, closure := [], defaults := Value.none, kwdefaults := Value.none, doc := Value.none, pyModule := Value.str (Str.ofString "thinstack.assembly") 233, annotations := none, code := Value.ref 109, closureTuple := Value.none, builtins := 0 } }),
   (116, { cls := Value.type "code", data := Data.fields #[Value.str (Str.ofString "forget") 335, Value.str (Str.ofString "Assembly.forget") 336, Value.str (Str.ofString "/claim/cut.py") 337, Value.int 79 0, Value.int 2 0, Value.int 0 0, Value.int 0 0, Value.int 3 0, Value.ref 111, Value.bool true, Value.int 181 0, Value.ref 112, Value.none, Value.ref 113, Value.ref 114, Value.ref 115, Value.int 343 0, Value.int 79 0, Value.str (Str.ofString "/claim/cut.py") 344] }),
   (117, { cls := .type "function", data := .func { name := Str.ofString "forget", qualname := Str.ofString "Assembly.forget", params := (clsD 7 8).1, body := .stmts (clsD 7 8).2.1, scope := (clsD 7 8).2.2, globals := 3, closure := [], defaults := Value.none, kwdefaults := Value.none, doc := Value.none, pyModule := Value.str (Str.ofString "thinstack.assembly") 233, annotations := none, code := Value.ref 116, closureTuple := Value.none, builtins := 0 } }),
   (123, { cls := Value.type "code", data := Data.fields #[Value.str (Str.ofString "take") 346, Value.str (Str.ofString "Assembly.take") 347, Value.str (Str.ofString "/claim/cut.py") 348, Value.int 90 0, Value.int 2 0, Value.int 0 0, Value.int 0 0, Value.int 3 0, Value.ref 118, Value.bool true, Value.int 181 0, Value.ref 119, Value.none, Value.ref 120, Value.ref 121, Value.ref 122, Value.int 351 0, Value.int 90 0, Value.str (Str.ofString "/claim/cut.py") 352] }),
   (124, { cls := .type "function", data := .func { name := Str.ofString "take", qualname := Str.ofString "Assembly.take", params := (clsD 7 9).1, body := .stmts (clsD 7 9).2.1, scope := (clsD 7 9).2.2, globals := 3, closure := [], defaults := Value.none, kwdefaults := Value.none, doc := Value.none, pyModule := Value.str (Str.ofString "thinstack.assembly") 233, annotations := none, code := Value.ref 123, closureTuple := Value.none, builtins := 0 } }),
   (130, { cls := Value.type "code", data := Data.fields #[Value.str (Str.ofString "holes") 354, Value.str (Str.ofString "Assembly.holes") 355, Value.str (Str.ofString "/claim/cut.py") 356, Value.int 96 0, Value.int 2 0, Value.int 0 0, Value.int 0 0, Value.int 3 0, Value.ref 125, Value.bool true, Value.int 181 0, Value.ref 126, Value.none, Value.ref 127, Value.ref 128, Value.ref 129, Value.int 364 0, Value.int 96 0, Value.str (Str.ofString "/claim/cut.py") 365] }),
   (131, { cls := .type "function", data := .func { name := Str.ofString "holes", qualname := Str.ofString "Assembly.holes", params := (clsD 7 10).1, body := .stmts (clsD 7 10).2.1, scope := (clsD 7 10).2.2, globals := 3, closure := [], defaults := Value.none, kwdefaults := Value.none, doc := Value.none, pyModule := Value.str (Str.ofString "thinstack.assembly") 233, annotations := none, code := Value.ref 130, closureTuple := Value.none, builtins := 0 } }),
   (137, { cls := Value.type "code", data := Data.fields #[Value.str (Str.ofString "cut_behind") 367, Value.str (Str.ofString "Assembly.cut_behind") 368, Value.str (Str.ofString "/claim/cut.py") 369, Value.int 105 0, Value.int 3 0, Value.int 0 0, Value.int 0 0, Value.int 3 0, Value.ref 132, Value.bool true, Value.int 181 0, Value.ref 133, Value.none, Value.ref 134, Value.ref 135, Value.ref 136, Value.int 378 0, Value.int 105 0, Value.str (Str.ofString "/claim/cut.py") 379] }),
   (138, { cls := .type "function", data := .func { name := Str.ofString "cut_behind", qualname := Str.ofString "Assembly.cut_behind", params := (clsD 7 11).1, body := .stmts (clsD 7 11).2.1, scope := (clsD 7 11).2.2, globals := 3, closure := [], defaults := Value.none, kwdefaults := Value.none, doc := Value.none, pyModule := Value.str (Str.ofString "thinstack.assembly") 233, annotations := none, code := Value.ref 137, closureTuple := Value.none, builtins := 0 } }),
   (140, { cls := Value.type "dict", data := Data.dict #[{ hash := PyData.keyHash P (Str.ofString "__module__"), key := Value.str (Str.ofString "__module__") 242, val := Value.str (Str.ofString "thinstack.assembly") 233 }, { hash := PyData.keyHash P (Str.ofString "__firstlineno__"), key := Value.str (Str.ofString "__firstlineno__") 246, val := Value.int 15 245 }, { hash := PyData.keyHash P (Str.ofString "__init__"), key := Value.str (Str.ofString "__init__") 254, val := Value.ref 63 }, { hash := PyData.keyHash P (Str.ofString "size"), key := Value.str (Str.ofString "size") 260, val := Value.ref 68 }, { hash := PyData.keyHash P (Str.ofString "is_empty"), key := Value.str (Str.ofString "is_empty") 267, val := Value.ref 75 }, { hash := PyData.keyHash P (Str.ofString "offset"), key := Value.str (Str.ofString "offset") 276, val := Value.ref 82 }, { hash := PyData.keyHash P (Str.ofString "put"), key := Value.str (Str.ofString "put") 288, val := Value.ref 89 }, { hash := PyData.keyHash P (Str.ofString "missing"), key := Value.str (Str.ofString "missing") 305, val := Value.ref 96 }, { hash := PyData.keyHash P (Str.ofString "merged"), key := Value.str (Str.ofString "merged") 319, val := Value.ref 103 }, { hash := PyData.keyHash P (Str.ofString "joined"), key := Value.str (Str.ofString "joined") 334, val := Value.ref 110 }, { hash := PyData.keyHash P (Str.ofString "forget"), key := Value.str (Str.ofString "forget") 345, val := Value.ref 117 }, { hash := PyData.keyHash P (Str.ofString "take"), key := Value.str (Str.ofString "take") 353, val := Value.ref 124 }, { hash := PyData.keyHash P (Str.ofString "holes"), key := Value.str (Str.ofString "holes") 366, val := Value.ref 131 }, { hash := PyData.keyHash P (Str.ofString "cut_behind"), key := Value.str (Str.ofString "cut_behind") 380, val := Value.ref 138 }, { hash := PyData.keyHash P (Str.ofString "__static_attributes__"), key := Value.str (Str.ofString "__static_attributes__") 383, val := Value.ref 139 }, { hash := PyData.keyHash P (Str.ofString "__dict__"), key := Value.str (Str.ofString "__dict__") 385, val := Value.ref 142 }, { hash := PyData.keyHash P (Str.ofString "__weakref__"), key := Value.str (Str.ofString "__weakref__") 387, val := Value.ref 143 }, { hash := PyData.keyHash P (Str.ofString "__doc__"), key := Value.str (Str.ofString "__doc__") 388, val := Value.none }] 4 }),
   (141, { cls := Value.type "type", data := Data.cls { name := Str.ofString "Assembly", bases := [Value.type "object"], mro := [Value.ref 141, Value.type "object"], ns := 140, qualname := Str.ofString "Assembly" }, slots := #[none, none, some (Value.str (Str.ofString "Assembly") 235), some (Value.str (Str.ofString "Assembly") 243), some (Value.builtin "object.__new__"), some (Value.bool true)] }),
   (142, { cls := Value.type "getset_descriptor", data := Data.fields #[Value.str (Str.ofString "__dict__") 384, Value.ref 141, Value.builtin "function.__dict__", Value.builtin "function.__dict__#set"] }),
   (143, { cls := Value.type "getset_descriptor", data := Data.fields #[Value.str (Str.ofString "__weakref__") 386, Value.ref 141, Value.builtin "ExceptionGroup.__weakref__", Value.none] }),
   (153, { cls := Value.type "tuple", data := Data.seq #[Value.int 1 405] }),
   (159, { cls := Value.type "code", data := Data.fields #[Value.str (Str.ofString "__init__") 406, Value.str (Str.ofString "Receiver.__init__") 407, Value.str (Str.ofString "/claim/cut.py") 408, Value.int 116 0, Value.int 5 0, Value.int 0 0, Value.int 0 0, Value.int 3 0, Value.ref 154, Value.bool true, Value.int 181 0, Value.ref 155, Value.none, Value.ref 156, Value.ref 157, Value.ref 158, Value.int 414 0, Value.int 116 0, Value.str (Str.ofString "/claim/cut.py") 415] }),
   (160, { cls := .type "function", data := .func { name := Str.ofString "__init__", qualname := Str.ofString "Receiver.__init__", params := (clsD 9 0).1, body := .stmts (clsD 9 0).2.1, scope := (clsD 9 0).2.2, globals := 3, closure := [], defaults := Value.ref 153, kwdefaults := Value.none, doc := Value.none, pyModule := Value.str (Str.ofString "thinstack.receiver") 391, annotations := none, code := Value.ref 159, closureTuple := Value.none, builtins := 0 } }),
   (166, { cls := Value.type "code", data := Data.fields #[Value.str (Str.ofString "free_edge") 417, Value.str (Str.ofString "Receiver.free_edge") 418, Value.str (Str.ofString "/claim/cut.py") 419, Value.int 128 0, Value.int 1 0, Value.int 0 0, Value.int 0 0, Value.int 3 0, Value.ref 161, Value.bool true, Value.int 181 0, Value.ref 162, Value.none, Value.ref 163, Value.ref 164, Value.ref 165, Value.int 421 0, Value.int 128 0, Value.str (Str.ofString "/claim/cut.py") 422] }),
   (167, { cls := .type "function", data := .func { name := Str.ofString "free_edge", qualname := Str.ofString "Receiver.free_edge", params := (clsD 9 1).1, body := .stmts (clsD 9 1).2.1, scope := (clsD 9 1).2.2, globals := 3, closure := [], defaults := Value.none, kwdefaults := Value.none, doc := Value.none, pyModule := Value.str (Str.ofString "thinstack.receiver") 391, annotations := none, code := Value.ref 166, closureTuple := Value.none, builtins := 0 } }),
   (173, { cls := Value.type "code", data := Data.fields #[Value.str (Str.ofString "should_tell") 424, Value.str (Str.ofString "Receiver.should_tell") 425, Value.str (Str.ofString "/claim/cut.py") 426, Value.int 131 0, Value.int 2 0, Value.int 0 0, Value.int 0 0, Value.int 3 0, Value.ref 168, Value.bool true, Value.int 181 0, Value.ref 169, Value.none, Value.ref 170, Value.ref 171, Value.ref 172, Value.int 429 0, Value.int 131 0, Value.str (Str.ofString "/claim/cut.py") 430] }),
   (174, { cls := .type "function", data := .func { name := Str.ofString "should_tell", qualname := Str.ofString "Receiver.should_tell", params := (clsD 9 2).1, body := .stmts (clsD 9 2).2.1, scope := (clsD 9 2).2.2, globals := 3, closure := [], defaults := Value.none, kwdefaults := Value.none, doc := Value.none, pyModule := Value.str (Str.ofString "thinstack.receiver") 391, annotations := none, code := Value.ref 173, closureTuple := Value.none, builtins := 0 } }),
   (180, { cls := Value.type "code", data := Data.fields #[Value.str (Str.ofString "told_window") 432, Value.str (Str.ofString "Receiver.told_window") 433, Value.str (Str.ofString "/claim/cut.py") 434, Value.int 136 0, Value.int 1 0, Value.int 0 0, Value.int 0 0, Value.int 3 0, Value.ref 175, Value.bool true, Value.int 181 0, Value.ref 176, Value.none, Value.ref 177, Value.ref 178, Value.ref 179, Value.int 436 0, Value.int 136 0, Value.str (Str.ofString "/claim/cut.py") 437] }),
   (181, { cls := .type "function", data := .func { name := Str.ofString "told_window", qualname := Str.ofString "Receiver.told_window", params := (clsD 9 3).1, body := .stmts (clsD 9 3).2.1, scope := (clsD 9 3).2.2, globals := 3, closure := [], defaults := Value.none, kwdefaults := Value.none, doc := Value.none, pyModule := Value.str (Str.ofString "thinstack.receiver") 391, annotations := none, code := Value.ref 180, closureTuple := Value.none, builtins := 0 } }),
   (187, { cls := Value.type "code", data := Data.fields #[Value.str (Str.ofString "window") 439, Value.str (Str.ofString "Receiver.window") 440, Value.str (Str.ofString "/claim/cut.py") 441, Value.int 141 0, Value.int 1 0, Value.int 0 0, Value.int 0 0, Value.int 3 0, Value.ref 182, Value.bool true, Value.int 181 0, Value.ref 183, Value.none, Value.ref 184, Value.ref 185, Value.ref 186, Value.int 443 0, Value.int 141 0, Value.str (Str.ofString "/claim/cut.py") 444] }),
   (188, { cls := .type "function", data := .func { name := Str.ofString "window", qualname := Str.ofString "Receiver.window", params := (clsD 9 4).1, body := .stmts (clsD 9 4).2.1, scope := (clsD 9 4).2.2, globals := 3, closure := [], defaults := Value.none, kwdefaults := Value.none, doc := Value.none, pyModule := Value.str (Str.ofString "thinstack.receiver") 391, annotations := none, code := Value.ref 187, closureTuple := Value.none, builtins := 0 } }),
   (194, { cls := Value.type "code", data := Data.fields #[Value.str (Str.ofString "arrive") 446, Value.str (Str.ofString "Receiver.arrive") 447, Value.str (Str.ofString "/claim/cut.py") 448, Value.int 146 0, Value.int 4 0, Value.int 0 0, Value.int 0 0, Value.int 3 0, Value.ref 189, Value.bool true, Value.int 181 0, Value.ref 190, Value.none, Value.ref 191, Value.ref 192, Value.ref 193, Value.int 456 0, Value.int 146 0, Value.str (Str.ofString "/claim/cut.py") 457] }),
   (195, { cls := .type "function", data := .func { name := Str.ofString "arrive", qualname := Str.ofString "Receiver.arrive", params := (clsD 9 5).1, body := .stmts (clsD 9 5).2.1, scope := (clsD 9 5).2.2, globals := 3, closure := [], defaults := Value.none, kwdefaults := Value.none, doc := Value.none, pyModule := Value.str (Str.ofString "thinstack.receiver") 391, annotations := none, code := Value.ref 194, closureTuple := Value.none, builtins := 0 } }),
   (201, { cls := Value.type "code", data := Data.fields #[Value.str (Str.ofString "let_in") 459, Value.str (Str.ofString "Receiver.let_in") 460, Value.str (Str.ofString "/claim/cut.py") 461, Value.int 158 0, Value.int 3 0, Value.int 0 0, Value.int 0 0, Value.int 3 0, Value.ref 196, Value.bool true, Value.int 181 0, Value.ref 197, Value.none, Value.ref 198, Value.ref 199, Value.ref 200, Value.int 466 0, Value.int 158 0, Value.str (Str.ofString "/claim/cut.py") 467] }),
   (202, { cls := .type "function", data := .func { name := Str.ofString "let_in", qualname := Str.ofString "Receiver.let_in", params := (clsD 9 6).1, body := .stmts (clsD 9 6).2.1, scope := (clsD 9 6).2.2, globals := 3, closure := [], defaults := Value.none, kwdefaults := Value.none, doc := Value.none, pyModule := Value.str (Str.ofString "thinstack.receiver") 391, annotations := none, code := Value.ref 201, closureTuple := Value.none, builtins := 0 } }),
   (208, { cls := Value.type "code", data := Data.fields #[Value.str (Str.ofString "note_fin") 469, Value.str (Str.ofString "Receiver.note_fin") 470, Value.str (Str.ofString "/claim/cut.py") 471, Value.int 164 0, Value.int 2 0, Value.int 0 0, Value.int 0 0, Value.int 3 0, Value.ref 203, Value.bool true, Value.int 181 0, Value.ref 204, Value.none, Value.ref 205, Value.ref 206, Value.ref 207, Value.int 474 0, Value.int 164 0, Value.str (Str.ofString "/claim/cut.py") 475] }),
   (209, { cls := .type "function", data := .func { name := Str.ofString "note_fin", qualname := Str.ofString "Receiver.note_fin", params := (clsD 9 7).1, body := .stmts (clsD 9 7).2.1, scope := (clsD 9 7).2.2, globals := 3, closure := [], defaults := Value.none, kwdefaults := Value.none, doc := Value.none, pyModule := Value.str (Str.ofString "thinstack.receiver") 391, annotations := none, code := Value.ref 208, closureTuple := Value.none, builtins := 0 } }),
   (215, { cls := Value.type "code", data := Data.fields #[Value.str (Str.ofString "ahead_of_fin") 477, Value.str (Str.ofString "Receiver.ahead_of_fin") 478, Value.str (Str.ofString "/claim/cut.py") 479, Value.int 169 0, Value.int 3 0, Value.int 0 0, Value.int 0 0, Value.int 3 0, Value.ref 210, Value.bool true, Value.int 181 0, Value.ref 211, Value.none, Value.ref 212, Value.ref 213, Value.ref 214, Value.int 483 0, Value.int 169 0, Value.str (Str.ofString "/claim/cut.py") 484] }),
   (216, { cls := .type "function", data := .func { name := Str.ofString "ahead_of_fin", qualname := Str.ofString "Receiver.ahead_of_fin", params := (clsD 9 8).1, body := .stmts (clsD 9 8).2.1, scope := (clsD 9 8).2.2, globals := 3, closure := [], defaults := Value.none, kwdefaults := Value.none, doc := Value.none, pyModule := Value.str (Str.ofString "thinstack.receiver") 391, annotations := none, code := Value.ref 215, closureTuple := Value.none, builtins := 0 } }),
   (222, { cls := Value.type "code", data := Data.fields #[Value.str (Str.ofString "gather") 486, Value.str (Str.ofString "Receiver.gather") 487, Value.str (Str.ofString "/claim/cut.py") 488, Value.int 174 0, Value.int 1 0, Value.int 0 0, Value.int 0 0, Value.int 3 0, Value.ref 217, Value.bool true, Value.int 181 0, Value.ref 218, Value.none, Value.ref 219, Value.ref 220, Value.ref 221, Value.int 491 0, Value.int 174 0, Value.str (Str.ofString "/claim/cut.py") 492] }),
   (223, { cls := .type "function", data := .func { name := Str.ofString "gather", qualname := Str.ofString "Receiver.gather", params := (clsD 9 9).1, body := .stmts (clsD 9 9).2.1, scope := (clsD 9 9).2.2, globals := 3, closure := [], defaults := Value.none, kwdefaults := Value.none, doc := Value.none, pyModule := Value.str (Str.ofString "thinstack.receiver") 391, annotations := none, code := Value.ref 222, closureTuple := Value.none, builtins := 0 } }),
   (229, { cls := Value.type "code", data := Data.fields #[Value.str (Str.ofString "has_holes") 494, Value.str (Str.ofString "Receiver.has_holes") 495, Value.str (Str.ofString "/claim/cut.py") 496, Value.int 185 0, Value.int 1 0, Value.int 0 0, Value.int 0 0, Value.int 3 0, Value.ref 224, Value.bool true, Value.int 181 0, Value.ref 225, Value.none, Value.ref 226, Value.ref 227, Value.ref 228, Value.int 498 0, Value.int 185 0, Value.str (Str.ofString "/claim/cut.py") 499] }),
   (230, { cls := .type "function", data := .func { name := Str.ofString "has_holes", qualname := Str.ofString "Receiver.has_holes", params := (clsD 9 10).1, body := .stmts (clsD 9 10).2.1, scope := (clsD 9 10).2.2, globals := 3, closure := [], defaults := Value.none, kwdefaults := Value.none, doc := Value.none, pyModule := Value.str (Str.ofString "thinstack.receiver") 391, annotations := none, code := Value.ref 229, closureTuple := Value.none, builtins := 0 } }),
   (236, { cls := Value.type "code", data := Data.fields #[Value.str (Str.ofString "available") 501, Value.str (Str.ofString "Receiver.available") 502, Value.str (Str.ofString "/claim/cut.py") 503, Value.int 188 0, Value.int 1 0, Value.int 0 0, Value.int 0 0, Value.int 3 0, Value.ref 231, Value.bool true, Value.int 181 0, Value.ref 232, Value.none, Value.ref 233, Value.ref 234, Value.ref 235, Value.int 505 0, Value.int 188 0, Value.str (Str.ofString "/claim/cut.py") 506] }),
   (237, { cls := .type "function", data := .func { name := Str.ofString "available", qualname := Str.ofString "Receiver.available", params := (clsD 9 11).1, body := .stmts (clsD 9 11).2.1, scope := (clsD 9 11).2.2, globals := 3, closure := [], defaults := Value.none, kwdefaults := Value.none, doc := Value.none, pyModule := Value.str (Str.ofString "thinstack.receiver") 391, annotations := none, code := Value.ref 236, closureTuple := Value.none, builtins := 0 } }),
   (243, { cls := Value.type "code", data := Data.fields #[Value.str (Str.ofString "read") 508, Value.str (Str.ofString "Receiver.read") 509, Value.str (Str.ofString "/claim/cut.py") 510, Value.int 191 0, Value.int 2 0, Value.int 0 0, Value.int 0 0, Value.int 3 0, Value.ref 238, Value.bool true, Value.int 181 0, Value.ref 239, Value.none, Value.ref 240, Value.ref 241, Value.ref 242, Value.int 514 0, Value.int 191 0, Value.str (Str.ofString "/claim/cut.py") 515] }),
   (244, { cls := .type "function", data := .func { name := Str.ofString "read", qualname := Str.ofString "Receiver.read", params := (clsD 9 12).1, body := .stmts (clsD 9 12).2.1, scope := (clsD 9 12).2.2, globals := 3, closure := [], defaults := Value.none, kwdefaults := Value.none, doc := Value.none, pyModule := Value.str (Str.ofString "thinstack.receiver") 391, annotations := none, code := Value.ref 243, closureTuple := Value.none, builtins := 0 } }),
   (250, { cls := Value.type "code", data := Data.fields #[Value.str (Str.ofString "is_over") 517, Value.str (Str.ofString "Receiver.is_over") 518, Value.str (Str.ofString "/claim/cut.py") 519, Value.int 196 0, Value.int 1 0, Value.int 0 0, Value.int 0 0, Value.int 3 0, Value.ref 245, Value.bool true, Value.int 181 0, Value.ref 246, Value.none, Value.ref 247, Value.ref 248, Value.ref 249, Value.int 521 0, Value.int 196 0, Value.str (Str.ofString "/claim/cut.py") 522] }),
   (251, { cls := .type "function", data := .func { name := Str.ofString "is_over", qualname := Str.ofString "Receiver.is_over", params := (clsD 9 13).1, body := .stmts (clsD 9 13).2.1, scope := (clsD 9 13).2.2, globals := 3, closure := [], defaults := Value.none, kwdefaults := Value.none, doc := Value.none, pyModule := Value.str (Str.ofString "thinstack.receiver") 391, annotations := none, code := Value.ref 250, closureTuple := Value.none, builtins := 0 } }),
   (257, { cls := Value.type "code", data := Data.fields #[Value.str (Str.ofString "read_place") 524, Value.str (Str.ofString "Receiver.read_place") 525, Value.str (Str.ofString "/claim/cut.py") 526, Value.int 199 0, Value.int 1 0, Value.int 0 0, Value.int 0 0, Value.int 3 0, Value.ref 252, Value.bool true, Value.int 181 0, Value.ref 253, Value.none, Value.ref 254, Value.ref 255, Value.ref 256, Value.int 528 0, Value.int 199 0, Value.str (Str.ofString "/claim/cut.py") 529] }),
   (258, { cls := .type "function", data := .func { name := Str.ofString "read_place", qualname := Str.ofString "Receiver.read_place", params := (clsD 9 14).1, body := .stmts (clsD 9 14).2.1, scope := (clsD 9 14).2.2, globals := 3, closure := [], defaults := Value.none, kwdefaults := Value.none, doc := Value.none, pyModule := Value.str (Str.ofString "thinstack.receiver") 391, annotations := none, code := Value.ref 257, closureTuple := Value.none, builtins := 0 } }),
   (264, { cls := Value.type "code", data := Data.fields #[Value.str (Str.ofString "urgent") 531, Value.str (Str.ofString "Receiver.urgent") 532, Value.str (Str.ofString "/claim/cut.py") 533, Value.int 202 0, Value.int 2 0, Value.int 0 0, Value.int 0 0, Value.int 3 0, Value.ref 259, Value.bool true, Value.int 181 0, Value.ref 260, Value.none, Value.ref 261, Value.ref 262, Value.ref 263, Value.int 536 0, Value.int 202 0, Value.str (Str.ofString "/claim/cut.py") 537] }),
   (265, { cls := .type "function", data := .func { name := Str.ofString "urgent", qualname := Str.ofString "Receiver.urgent", params := (clsD 9 15).1, body := .stmts (clsD 9 15).2.1, scope := (clsD 9 15).2.2, globals := 3, closure := [], defaults := Value.none, kwdefaults := Value.none, doc := Value.none, pyModule := Value.str (Str.ofString "thinstack.receiver") 391, annotations := none, code := Value.ref 264, closureTuple := Value.none, builtins := 0 } }),
   (271, { cls := Value.type "code", data := Data.fields #[Value.str (Str.ofString "urgent_left") 539, Value.str (Str.ofString "Receiver.urgent_left") 540, Value.str (Str.ofString "/claim/cut.py") 541, Value.int 205 0, Value.int 1 0, Value.int 0 0, Value.int 0 0, Value.int 3 0, Value.ref 266, Value.bool true, Value.int 181 0, Value.ref 267, Value.none, Value.ref 268, Value.ref 269, Value.ref 270, Value.int 543 0, Value.int 205 0, Value.str (Str.ofString "/claim/cut.py") 544] }),
   (272, { cls := .type "function", data := .func { name := Str.ofString "urgent_left", qualname := Str.ofString "Receiver.urgent_left", params := (clsD 9 16).1, body := .stmts (clsD 9 16).2.1, scope := (clsD 9 16).2.2, globals := 3, closure := [], defaults := Value.none, kwdefaults := Value.none, doc := Value.none, pyModule := Value.str (Str.ofString "thinstack.receiver") 391, annotations := none, code := Value.ref 271, closureTuple := Value.none, builtins := 0 } }),
   (274, { cls := Value.type "dict", data := Data.dict #[{ hash := PyData.keyHash P (Str.ofString "__module__"), key := Value.str (Str.ofString "__module__") 400, val := Value.str (Str.ofString "thinstack.receiver") 391 }, { hash := PyData.keyHash P (Str.ofString "__firstlineno__"), key := Value.str (Str.ofString "__firstlineno__") 404, val := Value.int 114 403 }, { hash := PyData.keyHash P (Str.ofString "__init__"), key := Value.str (Str.ofString "__init__") 416, val := Value.ref 160 }, { hash := PyData.keyHash P (Str.ofString "free_edge"), key := Value.str (Str.ofString "free_edge") 423, val := Value.ref 167 }, { hash := PyData.keyHash P (Str.ofString "should_tell"), key := Value.str (Str.ofString "should_tell") 431, val := Value.ref 174 }, { hash := PyData.keyHash P (Str.ofString "told_window"), key := Value.str (Str.ofString "told_window") 438, val := Value.ref 181 }, { hash := PyData.keyHash P (Str.ofString "window"), key := Value.str (Str.ofString "window") 445, val := Value.ref 188 }, { hash := PyData.keyHash P (Str.ofString "arrive"), key := Value.str (Str.ofString "arrive") 458, val := Value.ref 195 }, { hash := PyData.keyHash P (Str.ofString "let_in"), key := Value.str (Str.ofString "let_in") 468, val := Value.ref 202 }, { hash := PyData.keyHash P (Str.ofString "note_fin"), key := Value.str (Str.ofString "note_fin") 476, val := Value.ref 209 }, { hash := PyData.keyHash P (Str.ofString "ahead_of_fin"), key := Value.str (Str.ofString "ahead_of_fin") 485, val := Value.ref 216 }, { hash := PyData.keyHash P (Str.ofString "gather"), key := Value.str (Str.ofString "gather") 493, val := Value.ref 223 }, { hash := PyData.keyHash P (Str.ofString "has_holes"), key := Value.str (Str.ofString "has_holes") 500, val := Value.ref 230 }, { hash := PyData.keyHash P (Str.ofString "available"), key := Value.str (Str.ofString "available") 507, val := Value.ref 237 }, { hash := PyData.keyHash P (Str.ofString "read"), key := Value.str (Str.ofString "read") 516, val := Value.ref 244 }, { hash := PyData.keyHash P (Str.ofString "is_over"), key := Value.str (Str.ofString "is_over") 523, val := Value.ref 251 }, { hash := PyData.keyHash P (Str.ofString "read_place"), key := Value.str (Str.ofString "read_place") 530, val := Value.ref 258 }, { hash := PyData.keyHash P (Str.ofString "urgent"), key := Value.str (Str.ofString "urgent") 538, val := Value.ref 265 }, { hash := PyData.keyHash P (Str.ofString "urgent_left"), key := Value.str (Str.ofString "urgent_left") 545, val := Value.ref 272 }, { hash := PyData.keyHash P (Str.ofString "__static_attributes__"), key := Value.str (Str.ofString "__static_attributes__") 556, val := Value.ref 273 }, { hash := PyData.keyHash P (Str.ofString "__dict__"), key := Value.str (Str.ofString "__dict__") 558, val := Value.ref 276 }, { hash := PyData.keyHash P (Str.ofString "__weakref__"), key := Value.str (Str.ofString "__weakref__") 560, val := Value.ref 277 }, { hash := PyData.keyHash P (Str.ofString "__doc__"), key := Value.str (Str.ofString "__doc__") 561, val := Value.none }] 4 }),
   (275, { cls := Value.type "type", data := Data.cls { name := Str.ofString "Receiver", bases := [Value.type "object"], mro := [Value.ref 275, Value.type "object"], ns := 274, qualname := Str.ofString "Receiver" }, slots := #[none, none, some (Value.str (Str.ofString "Receiver") 393), some (Value.str (Str.ofString "Receiver") 401), some (Value.builtin "object.__new__"), some (Value.bool true)] }),
   (276, { cls := Value.type "getset_descriptor", data := Data.fields #[Value.str (Str.ofString "__dict__") 557, Value.ref 275, Value.builtin "function.__dict__", Value.builtin "function.__dict__#set"] }),
   (277, { cls := Value.type "getset_descriptor", data := Data.fields #[Value.str (Str.ofString "__weakref__") 559, Value.ref 275, Value.builtin "ExceptionGroup.__weakref__", Value.none] }),
   (285, { cls := Value.type "code", data := Data.fields #[Value.str (Str.ofString "_law_pool") 566, Value.str (Str.ofString "_law_pool") 567, Value.str (Str.ofString "/claim/cut.py") 568, Value.int 208 0, Value.int 1 0, Value.int 0 0, Value.int 0 0, Value.int 3 0, Value.ref 280, Value.bool true, Value.int 181 0, Value.ref 281, Value.none, Value.ref 282, Value.ref 283, Value.ref 284, Value.int 574 0, Value.int 208 0, Value.str (Str.ofString "/claim/cut.py") 575] }),
   (286, { cls := .type "function", data := .func { name := Str.ofString "_law_pool", qualname := Str.ofString "_law_pool", params := (topD 11).1, body := .stmts (topD 11).2.1, scope := (topD 11).2.2, globals := 3, closure := [], defaults := Value.none, kwdefaults := Value.none, doc := Value.none, pyModule := Value.str (Str.ofString "law_nu0130_01") 564, annotations := none, code := Value.ref 285, closureTuple := Value.none, builtins := 0 } }),
   (292, { cls := Value.type "code", data := Data.fields #[Value.str (Str.ofString "_law_take") 577, Value.str (Str.ofString "_law_take") 578, Value.str (Str.ofString "/claim/cut.py") 579, Value.int 216 0, Value.int 2 0, Value.int 0 0, Value.int 0 0, Value.int 3 0, Value.ref 287, Value.bool true, Value.int 181 0, Value.ref 288, Value.none, Value.ref 289, Value.ref 290, Value.ref 291, Value.int 583 0, Value.int 216 0, Value.str (Str.ofString "/claim/cut.py") 584] }),
   (293, { cls := .type "function", data := .func { name := Str.ofString "_law_take", qualname := Str.ofString "_law_take", params := (topD 12).1, body := .stmts (topD 12).2.1, scope := (topD 12).2.2, globals := 3, closure := [], defaults := Value.none, kwdefaults := Value.none, doc := Value.none, pyModule := Value.str (Str.ofString "law_nu0130_01") 564, annotations := none, code := Value.ref 292, closureTuple := Value.none, builtins := 0 } }),
   (299, { cls := Value.type "code", data := Data.fields #[Value.str (Str.ofString "_law_segment") 586, Value.str (Str.ofString "_law_segment") 587, Value.str (Str.ofString "/claim/cut.py") 588, Value.int 223 0, Value.int 2 0, Value.int 0 0, Value.int 0 0, Value.int 3 0, Value.ref 294, Value.bool true, Value.int 181 0, Value.ref 295, Value.none, Value.ref 296, Value.ref 297, Value.ref 298, Value.int 598 0, Value.int 223 0, Value.str (Str.ofString "/claim/cut.py") 599] }),
   (300, { cls := .type "function", data := .func { name := Str.ofString "_law_segment", qualname := Str.ofString "_law_segment", params := (topD 13).1, body := .stmts (topD 13).2.1, scope := (topD 13).2.2, globals := 3, closure := [], defaults := Value.none, kwdefaults := Value.none, doc := Value.none, pyModule := Value.str (Str.ofString "law_nu0130_01") 564, annotations := none, code := Value.ref 299, closureTuple := Value.none, builtins := 0 } }),
   (306, { cls := Value.type "code", data := Data.fields #[Value.str (Str.ofString "_law_twin") 601, Value.str (Str.ofString "_law_twin") 602, Value.str (Str.ofString "/claim/cut.py") 603, Value.int 233 0, Value.int 4 0, Value.int 0 0, Value.int 0 0, Value.int 3 0, Value.ref 301, Value.bool true, Value.int 181 0, Value.ref 302, Value.none, Value.ref 303, Value.ref 304, Value.ref 305, Value.int 612 0, Value.int 233 0, Value.str (Str.ofString "/claim/cut.py") 613] }),
   (307, { cls := .type "function", data := .func { name := Str.ofString "_law_twin", qualname := Str.ofString "_law_twin", params := (topD 14).1, body := .stmts (topD 14).2.1, scope := (topD 14).2.2, globals := 3, closure := [], defaults := Value.none, kwdefaults := Value.none, doc := Value.none, pyModule := Value.str (Str.ofString "law_nu0130_01") 564, annotations := none, code := Value.ref 306, closureTuple := Value.none, builtins := 0 } }),
   (311, { cls := Value.type "code", data := Data.fields #[Value.str (Str.ofString "_law_holes") 615, Value.str (Str.ofString "_law_holes") 616, Value.str (Str.ofString "/claim/cut.py") 617, Value.int 248 0, Value.int 3 0, Value.int 0 0, Value.int 0 0, Value.int 3 0, Value.ref 308, Value.bool true, Value.int 181 0, Value.ref 309, Value.none, Value.none, Value.none, Value.ref 310, Value.int 618 0, Value.int 248 0, Value.str (Str.ofString "/claim/cut.py") 619] }),
   (312, { cls := .type "function", data := .func { name := Str.ofString "_law_holes", qualname := Str.ofString "_law_holes", params := (topD 15).1, body := .stmts (topD 15).2.1, scope := (topD 15).2.2, globals := 3, closure := [], defaults := Value.none, kwdefaults := Value.none, doc := Value.none, pyModule := Value.str (Str.ofString "law_nu0130_01") 564, annotations := none, code := Value.ref 311, closureTuple := Value.none, builtins := 0 } }),
   (318, { cls := Value.type "code", data := Data.fields #[Value.str (Str.ofString "_law_window_right") 621, Value.str (Str.ofString "_law_window_right") 622, Value.str (Str.ofString "/claim/cut.py") 623, Value.int 260 0, Value.int 4 0, Value.int 0 0, Value.int 0 0, Value.int 3 0, Value.ref 313, Value.bool true, Value.int 181 0, Value.ref 314, Value.none, Value.ref 315, Value.ref 316, Value.ref 317, Value.int 630 0, Value.int 260 0, Value.str (Str.ofString "/claim/cut.py") 631] }),
   (319, { cls := .type "function", data := .func { name := Str.ofString "_law_window_right", qualname := Str.ofString "_law_window_right", params := (topD 16).1, body := .stmts (topD 16).2.1, scope := (topD 16).2.2, globals := 3, closure := [], defaults := Value.none, kwdefaults := Value.none, doc := Value.none, pyModule := Value.str (Str.ofString "law_nu0130_01") 564, annotations := none, code := Value.ref 318, closureTuple := Value.none, builtins := 0 } }),
   (323, { cls := Value.type "code", data := Data.fields #[Value.str (Str.ofString "_law_read_right") 633, Value.str (Str.ofString "_law_read_right") 634, Value.str (Str.ofString "/claim/cut.py") 635, Value.int 266 0, Value.int 3 0, Value.int 0 0, Value.int 0 0, Value.int 3 0, Value.ref 320, Value.bool true, Value.int 181 0, Value.ref 321, Value.none, Value.none, Value.none, Value.ref 322, Value.int 636 0, Value.int 266 0, Value.str (Str.ofString "/claim/cut.py") 637] }),
   (324, { cls := .type "function", data := .func { name := Str.ofString "_law_read_right", qualname := Str.ofString "_law_read_right", params := (topD 17).1, body := .stmts (topD 17).2.1, scope := (topD 17).2.2, globals := 3, closure := [], defaults := Value.none, kwdefaults := Value.none, doc := Value.none, pyModule := Value.str (Str.ofString "law_nu0130_01") 564, annotations := none, code := Value.ref 323, closureTuple := Value.none, builtins := 0 } }),
   (330, { cls := Value.type "code", data := Data.fields #[Value.str (Str.ofString "_law_step_right") 639, Value.str (Str.ofString "_law_step_right") 640, Value.str (Str.ofString "/claim/cut.py") 641, Value.int 273 0, Value.int 5 0, Value.int 0 0, Value.int 0 0, Value.int 3 0, Value.ref 325, Value.bool true, Value.int 181 0, Value.ref 326, Value.none, Value.ref 327, Value.ref 328, Value.ref 329, Value.int 653 0, Value.int 273 0, Value.str (Str.ofString "/claim/cut.py") 654] }),
   (331, { cls := .type "function", data := .func { name := Str.ofString "_law_step_right", qualname := Str.ofString "_law_step_right", params := (topD 18).1, body := .stmts (topD 18).2.1, scope := (topD 18).2.2, globals := 3, closure := [], defaults := Value.none, kwdefaults := Value.none, doc := Value.none, pyModule := Value.str (Str.ofString "law_nu0130_01") 564, annotations := none, code := Value.ref 330, closureTuple := Value.none, builtins := 0 } }),
   (335, { cls := Value.type "code", data := Data.fields #[Value.str (Str.ofString "law") 656, Value.str (Str.ofString "law") 657, Value.str (Str.ofString "/claim/cut.py") 658, Value.int 285 0, Value.int 1 0, Value.int 0 0, Value.int 0 0, Value.int 3 0, Value.ref 332, Value.bool true, Value.int 181 0, Value.ref 333, Value.none, Value.none, Value.none, Value.ref 334, Value.int 659 0, Value.int 285 0, Value.str (Str.ofString "/claim/cut.py") 660] }),
   (336, { cls := .type "function", data := .func { name := Str.ofString "law", qualname := Str.ofString "law", params := (topD 19).1, body := .stmts (topD 19).2.1, scope := (topD 19).2.2, globals := 3, closure := [], defaults := Value.none, kwdefaults := Value.none, doc := Value.none, pyModule := Value.str (Str.ofString "law_nu0130_01") 564, annotations := none, code := Value.ref 335, closureTuple := Value.none, builtins := 0 } })
]

end
section
/-- the text without its four rows __name__ = .. -/
noncomputable def view : Program := { PySem.Challenge.pw_nu0130_01 with main := { PySem.Challenge.pw_nu0130_01.main with body := [0, 2, 3, 4, 5, 7, 9, 11, 12, 13, 14, 15, 16, 17, 18, 19].filterMap (PySem.Challenge.pw_nu0130_01.main.body[·]?) } }
/-- the top's run over the tree of objects -/
def topRunT (tb : String → Option Builtin) (p : Program) (w : World) (n₀ : Nat) (ann : Option Value) : Nat → SharedT → Thread → Option SharedT
  | 0, _, _ => none
  | n + 1, s, t => match through t with
    | true => some s
    | false => match stepOk n₀ ann t with
      | false => none
      | true => match stepT (denote tb) p w s t with
        | some (s', t') => topRunT tb p w n₀ ann n s' t'
        | none => none
theorem topRunT_of {tb : String → Option Builtin} {p : Program} {w : World} {n₀ : Nat} {ann : Option Value} : ∀ {n : Nat} {s s' : SharedT} {t : Thread}, topRunT tb p w n₀ ann n s t = some s' → topRun tb p w n₀ ann n s.abs t = some s'.abs
  | 0, _, _, _, h => by cases h
  | n + 1, s, s', t, h => by
    unfold topRunT at h
    unfold topRun
    cases he : through t with
    | true => rw [he] at h; cases h; rfl
    | false =>
      rw [he] at h
      cases hk : stepOk n₀ ann t with
      | false => rw [hk] at h; cases h
      | true =>
        rw [hk] at h
        cases hs : stepT (denote tb) p w s t with
        | none => rw [hs] at h; cases h
        | some r => obtain ⟨s₂, t₂⟩ := r; rw [hs] at h; rw [stepT_spec hs]; exact topRunT_of h
def btOf : List Obj → Nat → BT → BT
  | [], _, t => t
  | o :: l, n, t => btOf l (n + 1) (t.ins n o)
noncomputable def bootT (P : Params) : BT := btOf (boot_heap P).objs.toList 0 .nil
def topGoT (tb : String → Option Builtin) (p : Program) (w : World) (n₀ : Nat) (ann : Option Value) : Nat → SharedT → Thread → Option (SharedT × Thread)
  | 0, s, t => some (s, t)
  | n + 1, s, t => match through t with
    | true => none
    | false => match stepOk n₀ ann t with
      | false => none
      | true => match stepT (denote tb) p w s t with
        | some (s', t') => topGoT tb p w n₀ ann n s' t'
        | none => none
theorem goT_top {tb : String → Option Builtin} {p : Program} {w : World} {n₀ : Nat} {ann : Option Value} : ∀ {n N : Nat} {s s' r : SharedT} {t t' : Thread}, topGoT tb p w n₀ ann n s t = some (s', t') → topRunT tb p w n₀ ann N s' t' = some r → topRunT tb p w n₀ ann (n + N) s t = some r
  | 0, N, s, s', r, t, t', h, k => by
    obtain ⟨rfl, rfl⟩ : s = s' ∧ t = t' := by simpa [topGoT] using h
    rw [Nat.zero_add]; exact k
  | n + 1, N, s, s', r, t, t', h, k => by
    rw [show n + 1 + N = n + N + 1 by omega]
    unfold topGoT at h
    unfold topRunT
    cases ht : through t with
    | true => rw [ht] at h; cases h
    | false =>
      rw [ht] at h
      cases hk : stepOk n₀ ann t with
      | false => rw [hk] at h; cases h
      | true =>
        rw [hk] at h
        cases hs : stepT (denote tb) p w s t with
        | none => rw [hs] at h; cases h
        | some r => obtain ⟨s₂, t₂⟩ := r; rw [hs] at h; exact goT_top h k
/-- the other objects behind the top -/
noncomputable def K2 (P : Params) : Frag :=
  [(0, boot_o_0 P),
   (1, boot_o_1 P),
   (4, boot_o_4 P),
   (5, boot_o_5 P),
   (6, boot_o_6 P),
   (7, boot_o_7 P),
   (8, boot_o_8 P),
   (9, boot_o_9 P),
   (10, boot_o_10 P),
   (11, { cls := Value.type "tuple", data := Data.seq #[] }),
   (12, { cls := Value.none, data := Data.fields #[Value.int 1 0, Value.int 0 0, Value.ref 20, Value.int 5 0, Value.int 0 0, Value.ref 27, Value.int 7 0, Value.int 0 0, Value.ref 34, Value.int 9 0, Value.int 0 0, Value.ref 41, Value.int 12 0, Value.int 0 0, Value.ref 48, Value.int 15 0, Value.int 0 0, Value.ref 55, Value.int 114 0, Value.int 0 0, Value.ref 151, Value.int 208 0, Value.int 0 0, Value.ref 285, Value.int 216 0, Value.int 0 0, Value.ref 292, Value.int 223 0, Value.int 0 0, Value.ref 299, Value.int 233 0, Value.int 0 0, Value.ref 306, Value.int 248 0, Value.int 0 0, Value.ref 311, Value.int 260 0, Value.int 0 0, Value.ref 318, Value.int 266 0, Value.int 0 0, Value.ref 323, Value.int 273 0, Value.int 0 0, Value.ref 330, Value.int 285 0, Value.int 0 0, Value.ref 335] }),
   (13, { cls := Value.type "code", data := Data.fields #[Value.str (Str.ofString "<module>") 182, Value.str (Str.ofString "<module>") 183, Value.str (Str.ofString "/claim/cut.py") 184, Value.int 1 0, Value.int 0 0, Value.int 0 0, Value.int 0 0, Value.int 0 0, Value.ref 11, Value.bool false, Value.int 181 0, Value.ref 12, Value.none, Value.none, Value.none, Value.none, Value.int 185 0, Value.int 1 0, Value.str (Str.ofString "/claim/cut.py") 186] }),
   (14, { cls := Value.type "frame", slots := #[some (Value.ref 13), some (Value.ref 3), some (Value.ref 3), none, some (Value.str (Str.ofString "__main__") 164), none, some (Value.ref 0)] }),
   (15, { cls := Value.type "tuple", data := Data.seq #[] }),
   (16, { cls := Value.none, data := Data.fields #[] }),
   (17, { cls := Value.type "tuple", data := Data.seq #[Value.str (Str.ofString "k") 190] }),
   (18, { cls := Value.type "tuple", data := Data.seq #[] }),
   (19, { cls := Value.none, data := .func { name := Str.ofString "_wall", qualname := Str.ofString "_wall", params := (topD 0).1, body := .stmts (topD 0).2.1, scope := (topD 0).2.2, globals := 0, closure := [], defaults := Value.none, kwdefaults := Value.none, doc := Value.none, pyModule := Value.none, annotations := none, code := Value.none, closureTuple := Value.none, builtins := 0 } }),
   (22, { cls := Value.type "tuple", data := Data.seq #[] }),
   (23, { cls := Value.none, data := Data.fields #[] }),
   (24, { cls := Value.type "tuple", data := Data.seq #[Value.str (Str.ofString "a") 199, Value.str (Str.ofString "n") 200, Value.str (Str.ofString "ring") 201] }),
   (25, { cls := Value.type "tuple", data := Data.seq #[] }),
   (26, { cls := Value.none, data := .func { name := Str.ofString "plus", qualname := Str.ofString "plus", params := (topD 2).1, body := .stmts (topD 2).2.1, scope := (topD 2).2.2, globals := 0, closure := [], defaults := Value.none, kwdefaults := Value.none, doc := Value.none, pyModule := Value.none, annotations := none, code := Value.none, closureTuple := Value.none, builtins := 0 } }),
   (29, { cls := Value.type "tuple", data := Data.seq #[] }),
   (30, { cls := Value.none, data := Data.fields #[] }),
   (31, { cls := Value.type "tuple", data := Data.seq #[Value.str (Str.ofString "a") 208, Value.str (Str.ofString "b") 209, Value.str (Str.ofString "ring") 210] }),
   (32, { cls := Value.type "tuple", data := Data.seq #[] }),
   (33, { cls := Value.none, data := .func { name := Str.ofString "distance", qualname := Str.ofString "distance", params := (topD 3).1, body := .stmts (topD 3).2.1, scope := (topD 3).2.2, globals := 0, closure := [], defaults := Value.none, kwdefaults := Value.none, doc := Value.none, pyModule := Value.none, annotations := none, code := Value.none, closureTuple := Value.none, builtins := 0 } }),
   (36, { cls := Value.type "tuple", data := Data.seq #[] }),
   (37, { cls := Value.none, data := Data.fields #[] }),
   (38, { cls := Value.type "tuple", data := Data.seq #[Value.str (Str.ofString "a") 217, Value.str (Str.ofString "b") 218, Value.str (Str.ofString "ring") 219, Value.str (Str.ofString "gap") 220] }),
   (39, { cls := Value.type "tuple", data := Data.seq #[] }),
   (40, { cls := Value.none, data := .func { name := Str.ofString "is_before", qualname := Str.ofString "is_before", params := (topD 4).1, body := .stmts (topD 4).2.1, scope := (topD 4).2.2, globals := 0, closure := [], defaults := Value.none, kwdefaults := Value.none, doc := Value.none, pyModule := Value.none, annotations := none, code := Value.none, closureTuple := Value.none, builtins := 0 } }),
   (43, { cls := Value.type "tuple", data := Data.seq #[] }),
   (44, { cls := Value.none, data := Data.fields #[] }),
   (45, { cls := Value.type "tuple", data := Data.seq #[Value.str (Str.ofString "a") 227, Value.str (Str.ofString "b") 228, Value.str (Str.ofString "ring") 229] }),
   (46, { cls := Value.type "tuple", data := Data.seq #[] }),
   (47, { cls := Value.none, data := .func { name := Str.ofString "is_at_most", qualname := Str.ofString "is_at_most", params := (topD 5).1, body := .stmts (topD 5).2.1, scope := (topD 5).2.2, globals := 0, closure := [], defaults := Value.none, kwdefaults := Value.none, doc := Value.none, pyModule := Value.none, annotations := none, code := Value.none, closureTuple := Value.none, builtins := 0 } }),
   (50, { cls := Value.type "tuple", data := Data.seq #[] }),
   (51, { cls := Value.type "builtin_function_or_method", data := Data.fields #[Value.builtin "type.__prepare__", Value.type "type"] }),
   (52, { cls := Value.type "dict", data := Data.dict #[{ hash := PyData.keyHash P (Str.ofString "__module__"), key := Value.str (Str.ofString "__module__") 242, val := Value.str (Str.ofString "thinstack.assembly") 233 }, { hash := PyData.keyHash P (Str.ofString "__qualname__"), key := Value.str (Str.ofString "__qualname__") 244, val := Value.str (Str.ofString "Assembly") 243 }, { hash := PyData.keyHash P (Str.ofString "__firstlineno__"), key := Value.str (Str.ofString "__firstlineno__") 246, val := Value.int 15 245 }, { hash := PyData.keyHash P (Str.ofString "__init__"), key := Value.str (Str.ofString "__init__") 254, val := Value.ref 63 }, { hash := PyData.keyHash P (Str.ofString "size"), key := Value.str (Str.ofString "size") 260, val := Value.ref 68 }, { hash := PyData.keyHash P (Str.ofString "is_empty"), key := Value.str (Str.ofString "is_empty") 267, val := Value.ref 75 }, { hash := PyData.keyHash P (Str.ofString "offset"), key := Value.str (Str.ofString "offset") 276, val := Value.ref 82 }, { hash := PyData.keyHash P (Str.ofString "put"), key := Value.str (Str.ofString "put") 288, val := Value.ref 89 }, { hash := PyData.keyHash P (Str.ofString "missing"), key := Value.str (Str.ofString "missing") 305, val := Value.ref 96 }, { hash := PyData.keyHash P (Str.ofString "merged"), key := Value.str (Str.ofString "merged") 319, val := Value.ref 103 }, { hash := PyData.keyHash P (Str.ofString "joined"), key := Value.str (Str.ofString "joined") 334, val := Value.ref 110 }, { hash := PyData.keyHash P (Str.ofString "forget"), key := Value.str (Str.ofString "forget") 345, val := Value.ref 117 }, { hash := PyData.keyHash P (Str.ofString "take"), key := Value.str (Str.ofString "take") 353, val := Value.ref 124 }, { hash := PyData.keyHash P (Str.ofString "holes"), key := Value.str (Str.ofString "holes") 366, val := Value.ref 131 }, { hash := PyData.keyHash P (Str.ofString "cut_behind"), key := Value.str (Str.ofString "cut_behind") 380, val := Value.ref 138 }, { hash := PyData.keyHash P (Str.ofString "__static_attributes__"), key := Value.str (Str.ofString "__static_attributes__") 383, val := Value.ref 139 }] 16 }),
   (53, { cls := Value.type "tuple", data := Data.seq #[] }),
   (54, { cls := Value.none, data := Data.fields #[Value.int 17 0, Value.int 4 0, Value.ref 62, Value.int 21 0, Value.int 4 0, Value.ref 67, Value.int 24 0, Value.int 4 0, Value.ref 74, Value.int 27 0, Value.int 4 0, Value.ref 81, Value.int 32 0, Value.int 4 0, Value.ref 88, Value.int 42 0, Value.int 4 0, Value.ref 95, Value.int 59 0, Value.int 4 0, Value.ref 102, Value.int 68 0, Value.int 4 0, Value.ref 109, Value.int 79 0, Value.int 4 0, Value.ref 116, Value.int 90 0, Value.int 4 0, Value.ref 123, Value.int 96 0, Value.int 4 0, Value.ref 130, Value.int 105 0, Value.int 4 0, Value.ref 137] }),
   (55, { cls := Value.type "code", data := Data.fields #[Value.str (Str.ofString "Assembly") 237, Value.str (Str.ofString "Assembly") 238, Value.str (Str.ofString "/claim/cut.py") 239, Value.int 15 0, Value.int 0 0, Value.int 0 0, Value.int 0 0, Value.int 0 0, Value.ref 53, Value.bool false, Value.int 181 0, Value.ref 54, Value.none, Value.none, Value.none, Value.none, Value.int 240 0, Value.int 15 0, Value.str (Str.ofString "/claim/cut.py") 241] }),
   (56, { cls := Value.type "frame", slots := #[some (Value.ref 55), some (Value.ref 3), some (Value.ref 52), none, some (Value.str (Str.ofString "thinstack.assembly") 233), none, some (Value.ref 0)] }),
   (57, { cls := Value.type "tuple", data := Data.seq #[] }),
   (58, { cls := Value.none, data := Data.fields #[] }),
   (59, { cls := Value.type "tuple", data := Data.seq #[Value.str (Str.ofString "self") 250, Value.str (Str.ofString "ring") 251] }),
   (60, { cls := Value.type "tuple", data := Data.seq #[] }),
   (61, { cls := Value.none, data := .func { name := Str.ofString "__init__", qualname := Str.ofString "Assembly.__init__", params := (clsD 7 0).1, body := .stmts (clsD 7 0).2.1, scope := (clsD 7 0).2.2, globals := 0, closure := [], defaults := Value.none, kwdefaults := Value.none, doc := Value.none, pyModule := Value.none, annotations := none, code := Value.none, closureTuple := Value.none, builtins := 0 } }),
   (64, { cls := Value.type "tuple", data := Data.seq #[] }),
   (65, { cls := Value.none, data := Data.fields #[] }),
   (66, { cls := Value.none, data := .func { name := Str.ofString "size", qualname := Str.ofString "Assembly.size", params := (clsD 7 1).1, body := .stmts (clsD 7 1).2.1, scope := (clsD 7 1).2.2, globals := 0, closure := [], defaults := Value.none, kwdefaults := Value.none, doc := Value.none, pyModule := Value.none, annotations := none, code := Value.none, closureTuple := Value.none, builtins := 0 } }),
   (69, { cls := Value.type "tuple", data := Data.seq #[] }),
   (70, { cls := Value.none, data := Data.fields #[] }),
   (71, { cls := Value.type "tuple", data := Data.seq #[Value.str (Str.ofString "self") 264] }),
   (72, { cls := Value.type "tuple", data := Data.seq #[] }),
   (73, { cls := Value.none, data := .func { name := Str.ofString "is_empty", qualname := Str.ofString "Assembly.is_empty", params := (clsD 7 2).1, body := .stmts (clsD 7 2).2.1, scope := (clsD 7 2).2.2, globals := 0, closure := [], defaults := Value.none, kwdefaults := Value.none, doc := Value.none, pyModule := Value.none, annotations := none, code := Value.none, closureTuple := Value.none, builtins := 0 } }),
   (76, { cls := Value.type "tuple", data := Data.seq #[] }),
   (77, { cls := Value.none, data := Data.fields #[] }),
   (78, { cls := Value.type "tuple", data := Data.seq #[Value.str (Str.ofString "self") 271, Value.str (Str.ofString "seq") 272, Value.str (Str.ofString "next") 273] }),
   (79, { cls := Value.type "tuple", data := Data.seq #[] }),
   (80, { cls := Value.none, data := .func { name := Str.ofString "offset", qualname := Str.ofString "Assembly.offset", params := (clsD 7 3).1, body := .stmts (clsD 7 3).2.1, scope := (clsD 7 3).2.2, globals := 0, closure := [], defaults := Value.none, kwdefaults := Value.none, doc := Value.none, pyModule := Value.none, annotations := none, code := Value.none, closureTuple := Value.none, builtins := 0 } }),
   (83, { cls := Value.type "tuple", data := Data.seq #[] }),
   (84, { cls := Value.none, data := Data.fields #[] }),
   (85, { cls := Value.type "tuple", data := Data.seq #[Value.str (Str.ofString "self") 280, Value.str (Str.ofString "seq") 281, Value.str (Str.ofString "octets") 282, Value.str (Str.ofString "next") 283, Value.str (Str.ofString "begin") 284, Value.str (Str.ofString "fresh") 285] }),
   (86, { cls := Value.type "tuple", data := Data.seq #[] }),
   (87, { cls := Value.none, data := .func { name := Str.ofString "put", qualname := Str.ofString "Assembly.put", params := (clsD 7 4).1, body := .stmts (clsD 7 4).2.1, scope := (clsD 7 4).2.2, globals := 0, closure := [], defaults := Value.none, kwdefaults := Value.none, doc := Value.none, pyModule := Value.none, annotations := none, code := Value.none, closureTuple := Value.none, builtins := 0 } }),
   (90, { cls := Value.type "tuple", data := Data.seq #[] }),
   (91, { cls := Value.none, data := Data.fields #[] }),
   (92, { cls := Value.type "tuple", data := Data.seq #[Value.str (Str.ofString "self") 292, Value.str (Str.ofString "begin") 293, Value.str (Str.ofString "octets") 294, Value.str (Str.ofString "next") 295, Value.str (Str.ofString "end") 296, Value.str (Str.ofString "found") 297, Value.str (Str.ofString "at") 298, Value.str (Str.ofString "seq") 299, Value.str (Str.ofString "kept") 300, Value.str (Str.ofString "first") 301, Value.str (Str.ofString "last") 302] }),
   (93, { cls := Value.type "tuple", data := Data.seq #[] }),
   (94, { cls := Value.none, data := .func { name := Str.ofString "missing", qualname := Str.ofString "Assembly.missing", params := (clsD 7 5).1, body := .stmts (clsD 7 5).2.1, scope := (clsD 7 5).2.2, globals := 0, closure := [], defaults := Value.none, kwdefaults := Value.none, doc := Value.none, pyModule := Value.none, annotations := none, code := Value.none, closureTuple := Value.none, builtins := 0 } }),
   (97, { cls := Value.type "tuple", data := Data.seq #[] }),
   (98, { cls := Value.none, data := Data.fields #[] }),
   (99, { cls := Value.type "tuple", data := Data.seq #[Value.str (Str.ofString "self") 309, Value.str (Str.ofString "fresh") 310, Value.str (Str.ofString "next") 311, Value.str (Str.ofString "found") 312, Value.str (Str.ofString "rest") 313, Value.str (Str.ofString "seq") 314, Value.str (Str.ofString "kept") 315, Value.str (Str.ofString "first") 316] }),
   (100, { cls := Value.type "tuple", data := Data.seq #[] }),
   (101, { cls := Value.none, data := .func { name := Str.ofString "merged", qualname := Str.ofString "Assembly.merged", params := (clsD 7 6).1, body := .stmts (clsD 7 6).2.1, scope := (clsD 7 6).2.2, globals := 0, closure := [], defaults := Value.none, kwdefaults := Value.none, doc := Value.none, pyModule := Value.none, annotations := none, code := Value.none, closureTuple := Value.none, builtins := 0 } }),
   (104, { cls := Value.type "tuple", data := Data.seq #[] }),
   (105, { cls := Value.none, data := Data.fields #[] }),
   (106, { cls := Value.type "tuple", data := Data.seq #[Value.str (Str.ofString "self") 323, Value.str (Str.ofString "pieces") 324, Value.str (Str.ofString "next") 325, Value.str (Str.ofString "found") 326, Value.str (Str.ofString "end") 327, Value.str (Str.ofString "first") 328, Value.str (Str.ofString "octets") 329, Value.str (Str.ofString "seq") 330, Value.str (Str.ofString "ahead") 331] }),
   (107, { cls := Value.type "tuple", data := Data.seq #[] }),
   (108, { cls := Value.none, data := .func { name := Str.ofString "joined", qualname := Str.ofString "Assembly.joined", params := (clsD 7 7).1, body := .stmts (clsD 7 7).2.1, scope := (clsD 7 7).2.2, globals := 0, closure := [], defaults := Value.none, kwdefaults := Value.none, doc := Value.none, pyModule := Value.none, annotations := none, code := Value.none, closureTuple := Value.none, builtins := 0 } }),
   (111, { cls := Value.type "tuple", data := Data.seq #[] }),
   (112, { cls := Value.none, data := Data.fields #[] }),
   (113, { cls := Value.type "tuple", data := Data.seq #[Value.str (Str.ofString "self") 338, Value.str (Str.ofString "next") 339, Value.str (Str.ofString "seq") 340, Value.str (Str.ofString "octets") 341, Value.str (Str.ofString "begin") 342] }),
   (114, { cls := Value.type "tuple", data := Data.seq #[] }),
   (115, { cls := Value.none, data := .func { name := Str.ofString "forget", qualname := Str.ofString "Assembly.forget", params := (clsD 7 8).1, body := .stmts (clsD 7 8).2.1, scope := (clsD 7 8).2.2, globals := 0, closure := [], defaults := Value.none, kwdefaults := Value.none, doc := Value.none, pyModule := Value.none, annotations := none, code := Value.none, closureTuple := Value.none, builtins := 0 } }),
   (118, { cls := Value.type "tuple", data := Data.seq #[] }),
   (119, { cls := Value.none, data := Data.fields #[] }),
   (120, { cls := Value.type "tuple", data := Data.seq #[Value.str (Str.ofString "self") 349, Value.str (Str.ofString "next") 350] }),
   (121, { cls := Value.type "tuple", data := Data.seq #[] }),
   (122, { cls := Value.none, data := .func { name := Str.ofString "take", qualname := Str.ofString "Assembly.take", params := (clsD 7 9).1, body := .stmts (clsD 7 9).2.1, scope := (clsD 7 9).2.2, globals := 0, closure := [], defaults := Value.none, kwdefaults := Value.none, doc := Value.none, pyModule := Value.none, annotations := none, code := Value.none, closureTuple := Value.none, builtins := 0 } }),
   (125, { cls := Value.type "tuple", data := Data.seq #[] }),
   (126, { cls := Value.none, data := Data.fields #[] }),
   (127, { cls := Value.type "tuple", data := Data.seq #[Value.str (Str.ofString "self") 357, Value.str (Str.ofString "next") 358, Value.str (Str.ofString "found") 359, Value.str (Str.ofString "at") 360, Value.str (Str.ofString "seq") 361, Value.str (Str.ofString "octets") 362, Value.str (Str.ofString "missing") 363] }),
   (128, { cls := Value.type "tuple", data := Data.seq #[] }),
   (129, { cls := Value.none, data := .func { name := Str.ofString "holes", qualname := Str.ofString "Assembly.holes", params := (clsD 7 10).1, body := .stmts (clsD 7 10).2.1, scope := (clsD 7 10).2.2, globals := 0, closure := [], defaults := Value.none, kwdefaults := Value.none, doc := Value.none, pyModule := Value.none, annotations := none, code := Value.none, closureTuple := Value.none, builtins := 0 } }),
   (132, { cls := Value.type "tuple", data := Data.seq #[] }),
   (133, { cls := Value.none, data := Data.fields #[] }),
   (134, { cls := Value.type "tuple", data := Data.seq #[Value.str (Str.ofString "self") 370, Value.str (Str.ofString "edge") 371, Value.str (Str.ofString "next") 372, Value.str (Str.ofString "most") 373, Value.str (Str.ofString "found") 374, Value.str (Str.ofString "seq") 375, Value.str (Str.ofString "octets") 376, Value.str (Str.ofString "left") 377] }),
   (135, { cls := Value.type "tuple", data := Data.seq #[] }),
   (136, { cls := Value.none, data := .func { name := Str.ofString "cut_behind", qualname := Str.ofString "Assembly.cut_behind", params := (clsD 7 11).1, body := .stmts (clsD 7 11).2.1, scope := (clsD 7 11).2.2, globals := 0, closure := [], defaults := Value.none, kwdefaults := Value.none, doc := Value.none, pyModule := Value.none, annotations := none, code := Value.none, closureTuple := Value.none, builtins := 0 } }),
   (139, { cls := Value.type "tuple", data := Data.seq #[Value.str (Str.ofString "parts") 381, Value.str (Str.ofString "ring") 382] }),
   (144, { cls := Value.type "super", data := Data.fields #[Value.ref 141, Value.ref 141, Value.ref 141] }),
   (145, { cls := Value.type "builtin_function_or_method", data := Data.fields #[Value.builtin "object.__init_subclass__", Value.ref 141] }),
   (146, { cls := Value.type "tuple", data := Data.seq #[] }),
   (147, { cls := Value.type "builtin_function_or_method", data := Data.fields #[Value.builtin "type.__prepare__", Value.type "type"] }),
   (148, { cls := Value.type "dict", data := Data.dict #[{ hash := PyData.keyHash P (Str.ofString "__module__"), key := Value.str (Str.ofString "__module__") 400, val := Value.str (Str.ofString "thinstack.receiver") 391 }, { hash := PyData.keyHash P (Str.ofString "__qualname__"), key := Value.str (Str.ofString "__qualname__") 402, val := Value.str (Str.ofString "Receiver") 401 }, { hash := PyData.keyHash P (Str.ofString "__firstlineno__"), key := Value.str (Str.ofString "__firstlineno__") 404, val := Value.int 114 403 }, { hash := PyData.keyHash P (Str.ofString "__init__"), key := Value.str (Str.ofString "__init__") 416, val := Value.ref 160 }, { hash := PyData.keyHash P (Str.ofString "free_edge"), key := Value.str (Str.ofString "free_edge") 423, val := Value.ref 167 }, { hash := PyData.keyHash P (Str.ofString "should_tell"), key := Value.str (Str.ofString "should_tell") 431, val := Value.ref 174 }, { hash := PyData.keyHash P (Str.ofString "told_window"), key := Value.str (Str.ofString "told_window") 438, val := Value.ref 181 }, { hash := PyData.keyHash P (Str.ofString "window"), key := Value.str (Str.ofString "window") 445, val := Value.ref 188 }, { hash := PyData.keyHash P (Str.ofString "arrive"), key := Value.str (Str.ofString "arrive") 458, val := Value.ref 195 }, { hash := PyData.keyHash P (Str.ofString "let_in"), key := Value.str (Str.ofString "let_in") 468, val := Value.ref 202 }, { hash := PyData.keyHash P (Str.ofString "note_fin"), key := Value.str (Str.ofString "note_fin") 476, val := Value.ref 209 }, { hash := PyData.keyHash P (Str.ofString "ahead_of_fin"), key := Value.str (Str.ofString "ahead_of_fin") 485, val := Value.ref 216 }, { hash := PyData.keyHash P (Str.ofString "gather"), key := Value.str (Str.ofString "gather") 493, val := Value.ref 223 }, { hash := PyData.keyHash P (Str.ofString "has_holes"), key := Value.str (Str.ofString "has_holes") 500, val := Value.ref 230 }, { hash := PyData.keyHash P (Str.ofString "available"), key := Value.str (Str.ofString "available") 507, val := Value.ref 237 }, { hash := PyData.keyHash P (Str.ofString "read"), key := Value.str (Str.ofString "read") 516, val := Value.ref 244 }, { hash := PyData.keyHash P (Str.ofString "is_over"), key := Value.str (Str.ofString "is_over") 523, val := Value.ref 251 }, { hash := PyData.keyHash P (Str.ofString "read_place"), key := Value.str (Str.ofString "read_place") 530, val := Value.ref 258 }, { hash := PyData.keyHash P (Str.ofString "urgent"), key := Value.str (Str.ofString "urgent") 538, val := Value.ref 265 }, { hash := PyData.keyHash P (Str.ofString "urgent_left"), key := Value.str (Str.ofString "urgent_left") 545, val := Value.ref 272 }, { hash := PyData.keyHash P (Str.ofString "__static_attributes__"), key := Value.str (Str.ofString "__static_attributes__") 556, val := Value.ref 273 }] 21 }),
   (149, { cls := Value.type "tuple", data := Data.seq #[] }),
   (150, { cls := Value.none, data := Data.fields #[Value.int 116 0, Value.int 4 0, Value.ref 159, Value.int 128 0, Value.int 4 0, Value.ref 166, Value.int 131 0, Value.int 4 0, Value.ref 173, Value.int 136 0, Value.int 4 0, Value.ref 180, Value.int 141 0, Value.int 4 0, Value.ref 187, Value.int 146 0, Value.int 4 0, Value.ref 194, Value.int 158 0, Value.int 4 0, Value.ref 201, Value.int 164 0, Value.int 4 0, Value.ref 208, Value.int 169 0, Value.int 4 0, Value.ref 215, Value.int 174 0, Value.int 4 0, Value.ref 222, Value.int 185 0, Value.int 4 0, Value.ref 229, Value.int 188 0, Value.int 4 0, Value.ref 236, Value.int 191 0, Value.int 4 0, Value.ref 243, Value.int 196 0, Value.int 4 0, Value.ref 250, Value.int 199 0, Value.int 4 0, Value.ref 257, Value.int 202 0, Value.int 4 0, Value.ref 264, Value.int 205 0, Value.int 4 0, Value.ref 271] }),
   (151, { cls := Value.type "code", data := Data.fields #[Value.str (Str.ofString "Receiver") 395, Value.str (Str.ofString "Receiver") 396, Value.str (Str.ofString "/claim/cut.py") 397, Value.int 114 0, Value.int 0 0, Value.int 0 0, Value.int 0 0, Value.int 0 0, Value.ref 149, Value.bool false, Value.int 181 0, Value.ref 150, Value.none, Value.none, Value.none, Value.none, Value.int 398 0, Value.int 114 0, Value.str (Str.ofString "/claim/cut.py") 399] }),
   (152, { cls := Value.type "frame", slots := #[some (Value.ref 151), some (Value.ref 3), some (Value.ref 148), none, some (Value.str (Str.ofString "thinstack.receiver") 391), none, some (Value.ref 0)] }),
   (154, { cls := Value.type "tuple", data := Data.seq #[] }),
   (155, { cls := Value.none, data := Data.fields #[] }),
   (156, { cls := Value.type "tuple", data := Data.seq #[Value.str (Str.ofString "self") 409, Value.str (Str.ofString "irs") 410, Value.str (Str.ofString "ring") 411, Value.str (Str.ofString "room") 412, Value.str (Str.ofString "mss") 413] }),
   (157, { cls := Value.type "tuple", data := Data.seq #[] }),
   (158, { cls := Value.none, data := .func { name := Str.ofString "__init__", qualname := Str.ofString "Receiver.__init__", params := (clsD 9 0).1, body := .stmts (clsD 9 0).2.1, scope := (clsD 9 0).2.2, globals := 0, closure := [], defaults := Value.none, kwdefaults := Value.none, doc := Value.none, pyModule := Value.none, annotations := none, code := Value.none, closureTuple := Value.none, builtins := 0 } }),
   (161, { cls := Value.type "tuple", data := Data.seq #[] }),
   (162, { cls := Value.none, data := Data.fields #[] }),
   (163, { cls := Value.type "tuple", data := Data.seq #[Value.str (Str.ofString "self") 420] }),
   (164, { cls := Value.type "tuple", data := Data.seq #[] }),
   (165, { cls := Value.none, data := .func { name := Str.ofString "free_edge", qualname := Str.ofString "Receiver.free_edge", params := (clsD 9 1).1, body := .stmts (clsD 9 1).2.1, scope := (clsD 9 1).2.2, globals := 0, closure := [], defaults := Value.none, kwdefaults := Value.none, doc := Value.none, pyModule := Value.none, annotations := none, code := Value.none, closureTuple := Value.none, builtins := 0 } }),
   (168, { cls := Value.type "tuple", data := Data.seq #[] }),
   (169, { cls := Value.none, data := Data.fields #[] }),
   (170, { cls := Value.type "tuple", data := Data.seq #[Value.str (Str.ofString "self") 427, Value.str (Str.ofString "mss") 428] }),
   (171, { cls := Value.type "tuple", data := Data.seq #[] }),
   (172, { cls := Value.none, data := .func { name := Str.ofString "should_tell", qualname := Str.ofString "Receiver.should_tell", params := (clsD 9 2).1, body := .stmts (clsD 9 2).2.1, scope := (clsD 9 2).2.2, globals := 0, closure := [], defaults := Value.none, kwdefaults := Value.none, doc := Value.none, pyModule := Value.none, annotations := none, code := Value.none, closureTuple := Value.none, builtins := 0 } }),
   (175, { cls := Value.type "tuple", data := Data.seq #[] }),
   (176, { cls := Value.none, data := Data.fields #[] }),
   (177, { cls := Value.type "tuple", data := Data.seq #[Value.str (Str.ofString "self") 435] }),
   (178, { cls := Value.type "tuple", data := Data.seq #[] }),
   (179, { cls := Value.none, data := .func { name := Str.ofString "told_window", qualname := Str.ofString "Receiver.told_window", params := (clsD 9 3).1, body := .stmts (clsD 9 3).2.1, scope := (clsD 9 3).2.2, globals := 0, closure := [], defaults := Value.none, kwdefaults := Value.none, doc := Value.none, pyModule := Value.none, annotations := none, code := Value.none, closureTuple := Value.none, builtins := 0 } }),
   (182, { cls := Value.type "tuple", data := Data.seq #[] }),
   (183, { cls := Value.none, data := Data.fields #[] }),
   (184, { cls := Value.type "tuple", data := Data.seq #[Value.str (Str.ofString "self") 442] }),
   (185, { cls := Value.type "tuple", data := Data.seq #[] }),
   (186, { cls := Value.none, data := .func { name := Str.ofString "window", qualname := Str.ofString "Receiver.window", params := (clsD 9 4).1, body := .stmts (clsD 9 4).2.1, scope := (clsD 9 4).2.2, globals := 0, closure := [], defaults := Value.none, kwdefaults := Value.none, doc := Value.none, pyModule := Value.none, annotations := none, code := Value.none, closureTuple := Value.none, builtins := 0 } }),
   (189, { cls := Value.type "tuple", data := Data.seq #[] }),
   (190, { cls := Value.none, data := Data.fields #[] }),
   (191, { cls := Value.type "tuple", data := Data.seq #[Value.str (Str.ofString "self") 449, Value.str (Str.ofString "seq") 450, Value.str (Str.ofString "octets") 451, Value.str (Str.ofString "has_fin") 452, Value.str (Str.ofString "is_in_order") 453, Value.str (Str.ofString "kept") 454, Value.str (Str.ofString "fresh") 455] }),
   (192, { cls := Value.type "tuple", data := Data.seq #[] }),
   (193, { cls := Value.none, data := .func { name := Str.ofString "arrive", qualname := Str.ofString "Receiver.arrive", params := (clsD 9 5).1, body := .stmts (clsD 9 5).2.1, scope := (clsD 9 5).2.2, globals := 0, closure := [], defaults := Value.none, kwdefaults := Value.none, doc := Value.none, pyModule := Value.none, annotations := none, code := Value.none, closureTuple := Value.none, builtins := 0 } }),
   (196, { cls := Value.type "tuple", data := Data.seq #[] }),
   (197, { cls := Value.none, data := Data.fields #[] }),
   (198, { cls := Value.type "tuple", data := Data.seq #[Value.str (Str.ofString "self") 462, Value.str (Str.ofString "seq") 463, Value.str (Str.ofString "octets") 464, Value.str (Str.ofString "most") 465] }),
   (199, { cls := Value.type "tuple", data := Data.seq #[] }),
   (200, { cls := Value.none, data := .func { name := Str.ofString "let_in", qualname := Str.ofString "Receiver.let_in", params := (clsD 9 6).1, body := .stmts (clsD 9 6).2.1, scope := (clsD 9 6).2.2, globals := 0, closure := [], defaults := Value.none, kwdefaults := Value.none, doc := Value.none, pyModule := Value.none, annotations := none, code := Value.none, closureTuple := Value.none, builtins := 0 } }),
   (203, { cls := Value.type "tuple", data := Data.seq #[] }),
   (204, { cls := Value.none, data := Data.fields #[] }),
   (205, { cls := Value.type "tuple", data := Data.seq #[Value.str (Str.ofString "self") 472, Value.str (Str.ofString "place") 473] }),
   (206, { cls := Value.type "tuple", data := Data.seq #[] }),
   (207, { cls := Value.none, data := .func { name := Str.ofString "note_fin", qualname := Str.ofString "Receiver.note_fin", params := (clsD 9 7).1, body := .stmts (clsD 9 7).2.1, scope := (clsD 9 7).2.2, globals := 0, closure := [], defaults := Value.none, kwdefaults := Value.none, doc := Value.none, pyModule := Value.none, annotations := none, code := Value.none, closureTuple := Value.none, builtins := 0 } }),
   (210, { cls := Value.type "tuple", data := Data.seq #[] }),
   (211, { cls := Value.none, data := Data.fields #[] }),
   (212, { cls := Value.type "tuple", data := Data.seq #[Value.str (Str.ofString "self") 480, Value.str (Str.ofString "seq") 481, Value.str (Str.ofString "octets") 482] }),
   (213, { cls := Value.type "tuple", data := Data.seq #[] }),
   (214, { cls := Value.none, data := .func { name := Str.ofString "ahead_of_fin", qualname := Str.ofString "Receiver.ahead_of_fin", params := (clsD 9 8).1, body := .stmts (clsD 9 8).2.1, scope := (clsD 9 8).2.2, globals := 0, closure := [], defaults := Value.none, kwdefaults := Value.none, doc := Value.none, pyModule := Value.none, annotations := none, code := Value.none, closureTuple := Value.none, builtins := 0 } }),
   (217, { cls := Value.type "tuple", data := Data.seq #[] }),
   (218, { cls := Value.none, data := Data.fields #[] }),
   (219, { cls := Value.type "tuple", data := Data.seq #[Value.str (Str.ofString "self") 489, Value.str (Str.ofString "fresh") 490] }),
   (220, { cls := Value.type "tuple", data := Data.seq #[] }),
   (221, { cls := Value.none, data := .func { name := Str.ofString "gather", qualname := Str.ofString "Receiver.gather", params := (clsD 9 9).1, body := .stmts (clsD 9 9).2.1, scope := (clsD 9 9).2.2, globals := 0, closure := [], defaults := Value.none, kwdefaults := Value.none, doc := Value.none, pyModule := Value.none, annotations := none, code := Value.none, closureTuple := Value.none, builtins := 0 } }),
   (224, { cls := Value.type "tuple", data := Data.seq #[] }),
   (225, { cls := Value.none, data := Data.fields #[] }),
   (226, { cls := Value.type "tuple", data := Data.seq #[Value.str (Str.ofString "self") 497] }),
   (227, { cls := Value.type "tuple", data := Data.seq #[] }),
   (228, { cls := Value.none, data := .func { name := Str.ofString "has_holes", qualname := Str.ofString "Receiver.has_holes", params := (clsD 9 10).1, body := .stmts (clsD 9 10).2.1, scope := (clsD 9 10).2.2, globals := 0, closure := [], defaults := Value.none, kwdefaults := Value.none, doc := Value.none, pyModule := Value.none, annotations := none, code := Value.none, closureTuple := Value.none, builtins := 0 } }),
   (231, { cls := Value.type "tuple", data := Data.seq #[] }),
   (232, { cls := Value.none, data := Data.fields #[] }),
   (233, { cls := Value.type "tuple", data := Data.seq #[Value.str (Str.ofString "self") 504] }),
   (234, { cls := Value.type "tuple", data := Data.seq #[] }),
   (235, { cls := Value.none, data := .func { name := Str.ofString "available", qualname := Str.ofString "Receiver.available", params := (clsD 9 11).1, body := .stmts (clsD 9 11).2.1, scope := (clsD 9 11).2.2, globals := 0, closure := [], defaults := Value.none, kwdefaults := Value.none, doc := Value.none, pyModule := Value.none, annotations := none, code := Value.none, closureTuple := Value.none, builtins := 0 } }),
   (238, { cls := Value.type "tuple", data := Data.seq #[] }),
   (239, { cls := Value.none, data := Data.fields #[] }),
   (240, { cls := Value.type "tuple", data := Data.seq #[Value.str (Str.ofString "self") 511, Value.str (Str.ofString "many") 512, Value.str (Str.ofString "found") 513] }),
   (241, { cls := Value.type "tuple", data := Data.seq #[] }),
   (242, { cls := Value.none, data := .func { name := Str.ofString "read", qualname := Str.ofString "Receiver.read", params := (clsD 9 12).1, body := .stmts (clsD 9 12).2.1, scope := (clsD 9 12).2.2, globals := 0, closure := [], defaults := Value.none, kwdefaults := Value.none, doc := Value.none, pyModule := Value.none, annotations := none, code := Value.none, closureTuple := Value.none, builtins := 0 } }),
   (245, { cls := Value.type "tuple", data := Data.seq #[] }),
   (246, { cls := Value.none, data := Data.fields #[] }),
   (247, { cls := Value.type "tuple", data := Data.seq #[Value.str (Str.ofString "self") 520] }),
   (248, { cls := Value.type "tuple", data := Data.seq #[] }),
   (249, { cls := Value.none, data := .func { name := Str.ofString "is_over", qualname := Str.ofString "Receiver.is_over", params := (clsD 9 13).1, body := .stmts (clsD 9 13).2.1, scope := (clsD 9 13).2.2, globals := 0, closure := [], defaults := Value.none, kwdefaults := Value.none, doc := Value.none, pyModule := Value.none, annotations := none, code := Value.none, closureTuple := Value.none, builtins := 0 } }),
   (252, { cls := Value.type "tuple", data := Data.seq #[] }),
   (253, { cls := Value.none, data := Data.fields #[] }),
   (254, { cls := Value.type "tuple", data := Data.seq #[Value.str (Str.ofString "self") 527] }),
   (255, { cls := Value.type "tuple", data := Data.seq #[] }),
   (256, { cls := Value.none, data := .func { name := Str.ofString "read_place", qualname := Str.ofString "Receiver.read_place", params := (clsD 9 14).1, body := .stmts (clsD 9 14).2.1, scope := (clsD 9 14).2.2, globals := 0, closure := [], defaults := Value.none, kwdefaults := Value.none, doc := Value.none, pyModule := Value.none, annotations := none, code := Value.none, closureTuple := Value.none, builtins := 0 } }),
   (259, { cls := Value.type "tuple", data := Data.seq #[] }),
   (260, { cls := Value.none, data := Data.fields #[] }),
   (261, { cls := Value.type "tuple", data := Data.seq #[Value.str (Str.ofString "self") 534, Value.str (Str.ofString "pointer") 535] }),
   (262, { cls := Value.type "tuple", data := Data.seq #[] }),
   (263, { cls := Value.none, data := .func { name := Str.ofString "urgent", qualname := Str.ofString "Receiver.urgent", params := (clsD 9 15).1, body := .stmts (clsD 9 15).2.1, scope := (clsD 9 15).2.2, globals := 0, closure := [], defaults := Value.none, kwdefaults := Value.none, doc := Value.none, pyModule := Value.none, annotations := none, code := Value.none, closureTuple := Value.none, builtins := 0 } }),
   (266, { cls := Value.type "tuple", data := Data.seq #[] }),
   (267, { cls := Value.none, data := Data.fields #[] }),
   (268, { cls := Value.type "tuple", data := Data.seq #[Value.str (Str.ofString "self") 542] }),
   (269, { cls := Value.type "tuple", data := Data.seq #[] }),
   (270, { cls := Value.none, data := .func { name := Str.ofString "urgent_left", qualname := Str.ofString "Receiver.urgent_left", params := (clsD 9 16).1, body := .stmts (clsD 9 16).2.1, scope := (clsD 9 16).2.2, globals := 0, closure := [], defaults := Value.none, kwdefaults := Value.none, doc := Value.none, pyModule := Value.none, annotations := none, code := Value.none, closureTuple := Value.none, builtins := 0 } }),
   (273, { cls := Value.type "tuple", data := Data.seq #[Value.str (Str.ofString "assembly") 546, Value.str (Str.ofString "fin_at") 547, Value.str (Str.ofString "has_fin") 548, Value.str (Str.ofString "mss") 549, Value.str (Str.ofString "next") 550, Value.str (Str.ofString "ready") 551, Value.str (Str.ofString "ring") 552, Value.str (Str.ofString "room") 553, Value.str (Str.ofString "told_edge") 554, Value.str (Str.ofString "urgent_at") 555] }),
   (278, { cls := Value.type "super", data := Data.fields #[Value.ref 275, Value.ref 275, Value.ref 275] }),
   (279, { cls := Value.type "builtin_function_or_method", data := Data.fields #[Value.builtin "object.__init_subclass__", Value.ref 275] }),
   (280, { cls := Value.type "tuple", data := Data.seq #[] }),
   (281, { cls := Value.none, data := Data.fields #[] }),
   (282, { cls := Value.type "tuple", data := Data.seq #[Value.str (Str.ofString "script") 569, Value.str (Str.ofString "digits") 570, Value.str (Str.ofString "mixed") 571, Value.str (Str.ofString "number") 572, Value.str (Str.ofString "size") 573] }),
   (283, { cls := Value.type "tuple", data := Data.seq #[] }),
   (284, { cls := Value.none, data := .func { name := Str.ofString "_law_pool", qualname := Str.ofString "_law_pool", params := (topD 11).1, body := .stmts (topD 11).2.1, scope := (topD 11).2.2, globals := 0, closure := [], defaults := Value.none, kwdefaults := Value.none, doc := Value.none, pyModule := Value.none, annotations := none, code := Value.none, closureTuple := Value.none, builtins := 0 } }),
   (287, { cls := Value.type "tuple", data := Data.seq #[] }),
   (288, { cls := Value.none, data := Data.fields #[] }),
   (289, { cls := Value.type "tuple", data := Data.seq #[Value.str (Str.ofString "source") 580, Value.str (Str.ofString "top") 581, Value.str (Str.ofString "drawn") 582] }),
   (290, { cls := Value.type "tuple", data := Data.seq #[] }),
   (291, { cls := Value.none, data := .func { name := Str.ofString "_law_take", qualname := Str.ofString "_law_take", params := (topD 12).1, body := .stmts (topD 12).2.1, scope := (topD 12).2.2, globals := 0, closure := [], defaults := Value.none, kwdefaults := Value.none, doc := Value.none, pyModule := Value.none, annotations := none, code := Value.none, closureTuple := Value.none, builtins := 0 } }),
   (294, { cls := Value.type "tuple", data := Data.seq #[] }),
   (295, { cls := Value.none, data := Data.fields #[] }),
   (296, { cls := Value.type "tuple", data := Data.seq #[Value.str (Str.ofString "source") 589, Value.str (Str.ofString "world") 590, Value.str (Str.ofString "stream") 591, Value.str (Str.ofString "base") 592, Value.str (Str.ofString "way") 593, Value.str (Str.ofString "size") 594, Value.str (Str.ofString "place") 595, Value.str (Str.ofString "octets") 596, Value.str (Str.ofString "has_fin") 597] }),
   (297, { cls := Value.type "tuple", data := Data.seq #[] }),
   (298, { cls := Value.none, data := .func { name := Str.ofString "_law_segment", qualname := Str.ofString "_law_segment", params := (topD 13).1, body := .stmts (topD 13).2.1, scope := (topD 13).2.2, globals := 0, closure := [], defaults := Value.none, kwdefaults := Value.none, doc := Value.none, pyModule := Value.none, annotations := none, code := Value.none, closureTuple := Value.none, builtins := 0 } }),
   (301, { cls := Value.type "tuple", data := Data.seq #[] }),
   (302, { cls := Value.none, data := Data.fields #[] }),
   (303, { cls := Value.type "tuple", data := Data.seq #[Value.str (Str.ofString "world") 604, Value.str (Str.ofString "place") 605, Value.str (Str.ofString "octets") 606, Value.str (Str.ofString "has_fin") 607, Value.str (Str.ofString "begins") 608, Value.str (Str.ofString "kept") 609, Value.str (Str.ofString "at") 610, Value.str (Str.ofString "fresh") 611] }),
   (304, { cls := Value.type "tuple", data := Data.seq #[] }),
   (305, { cls := Value.none, data := .func { name := Str.ofString "_law_twin", qualname := Str.ofString "_law_twin", params := (topD 14).1, body := .stmts (topD 14).2.1, scope := (topD 14).2.2, globals := 0, closure := [], defaults := Value.none, kwdefaults := Value.none, doc := Value.none, pyModule := Value.none, annotations := none, code := Value.none, closureTuple := Value.none, builtins := 0 } }),
   (308, { cls := Value.type "tuple", data := Data.seq #[] }),
   (309, { cls := Value.none, data := Data.fields #[] }),
   (310, { cls := Value.none, data := .func { name := Str.ofString "_law_holes", qualname := Str.ofString "_law_holes", params := (topD 15).1, body := .stmts (topD 15).2.1, scope := (topD 15).2.2, globals := 0, closure := [], defaults := Value.none, kwdefaults := Value.none, doc := Value.none, pyModule := Value.none, annotations := none, code := Value.none, closureTuple := Value.none, builtins := 0 } }),
   (313, { cls := Value.type "tuple", data := Data.seq #[] }),
   (314, { cls := Value.none, data := Data.fields #[] }),
   (315, { cls := Value.type "tuple", data := Data.seq #[Value.str (Str.ofString "receiver") 624, Value.str (Str.ofString "world") 625, Value.str (Str.ofString "room") 626, Value.str (Str.ofString "mss") 627, Value.str (Str.ofString "free") 628, Value.str (Str.ofString "due") 629] }),
   (316, { cls := Value.type "tuple", data := Data.seq #[] }),
   (317, { cls := Value.none, data := .func { name := Str.ofString "_law_window_right", qualname := Str.ofString "_law_window_right", params := (topD 16).1, body := .stmts (topD 16).2.1, scope := (topD 16).2.2, globals := 0, closure := [], defaults := Value.none, kwdefaults := Value.none, doc := Value.none, pyModule := Value.none, annotations := none, code := Value.none, closureTuple := Value.none, builtins := 0 } }),
   (320, { cls := Value.type "tuple", data := Data.seq #[] }),
   (321, { cls := Value.none, data := Data.fields #[] }),
   (322, { cls := Value.none, data := .func { name := Str.ofString "_law_read_right", qualname := Str.ofString "_law_read_right", params := (topD 17).1, body := .stmts (topD 17).2.1, scope := (topD 17).2.2, globals := 0, closure := [], defaults := Value.none, kwdefaults := Value.none, doc := Value.none, pyModule := Value.none, annotations := none, code := Value.none, closureTuple := Value.none, builtins := 0 } }),
   (325, { cls := Value.type "tuple", data := Data.seq #[] }),
   (326, { cls := Value.none, data := Data.fields #[] }),
   (327, { cls := Value.type "tuple", data := Data.seq #[Value.str (Str.ofString "source") 642, Value.str (Str.ofString "receiver") 643, Value.str (Str.ofString "world") 644, Value.str (Str.ofString "first") 645, Value.str (Str.ofString "ring") 646, Value.str (Str.ofString "place") 647, Value.str (Str.ofString "octets") 648, Value.str (Str.ofString "has_fin") 649, Value.str (Str.ofString "due") 650, Value.str (Str.ofString "told") 651, Value.str (Str.ofString "holes") 652] }),
   (328, { cls := Value.type "tuple", data := Data.seq #[] }),
   (329, { cls := Value.none, data := .func { name := Str.ofString "_law_step_right", qualname := Str.ofString "_law_step_right", params := (topD 18).1, body := .stmts (topD 18).2.1, scope := (topD 18).2.2, globals := 0, closure := [], defaults := Value.none, kwdefaults := Value.none, doc := Value.none, pyModule := Value.none, annotations := none, code := Value.none, closureTuple := Value.none, builtins := 0 } }),
   (332, { cls := Value.type "tuple", data := Data.seq #[] }),
   (333, { cls := Value.none, data := Data.fields #[] }),
   (334, { cls := Value.none, data := .func { name := Str.ofString "law", qualname := Str.ofString "law", params := (topD 19).1, body := .stmts (topD 19).2.1, scope := (topD 19).2.2, globals := 0, closure := [], defaults := Value.none, kwdefaults := Value.none, doc := Value.none, pyModule := Value.none, annotations := none, code := Value.none, closureTuple := Value.none, builtins := 0 } })]
/-- what is otherwise behind the eighth statement, and behind the tenth -/
noncomputable def K7 (P : Params) : Frag :=
  [(3, { cls := Value.type "dict", data := Data.dict #[{ hash := PyData.keyHash P (Str.ofString "__name__"), key := Value.str (Str.ofString "__name__") 165, val := Value.str (Str.ofString "thinstack.assembly") 233 }, { hash := PyData.keyHash P (Str.ofString "__doc__"), key := Value.str (Str.ofString "__doc__") 166, val := Value.none }, { hash := PyData.keyHash P (Str.ofString "__package__"), key := Value.str (Str.ofString "__package__") 167, val := Value.none }, { hash := PyData.keyHash P (Str.ofString "__loader__"), key := Value.str (Str.ofString "__loader__") 168, val := Value.builtin "__main__.__loader__#opaque" }, { hash := PyData.keyHash P (Str.ofString "__spec__"), key := Value.str (Str.ofString "__spec__") 169, val := Value.none }, { hash := PyData.keyHash P (Str.ofString "__annotations__"), key := Value.str (Str.ofString "__annotations__") 170, val := Value.ref 6 }, { hash := PyData.keyHash P (Str.ofString "__builtins__"), key := Value.str (Str.ofString "__builtins__") 171, val := Value.ref 4 }, { hash := PyData.keyHash P (Str.ofString "__file__"), key := Value.str (Str.ofString "__file__") 173, val := Value.str (Str.ofString "/claim/cut.py") 172 }, { hash := PyData.keyHash P (Str.ofString "__cached__"), key := Value.str (Str.ofString "__cached__") 174, val := Value.none }, { hash := PyData.keyHash P (Str.ofString "_wall"), key := Value.str (Str.ofString "_wall") 193, val := Value.ref 21 }, { hash := PyData.keyHash P (Str.ofString "plus"), key := Value.str (Str.ofString "plus") 204, val := Value.ref 28 }, { hash := PyData.keyHash P (Str.ofString "distance"), key := Value.str (Str.ofString "distance") 213, val := Value.ref 35 }, { hash := PyData.keyHash P (Str.ofString "is_before"), key := Value.str (Str.ofString "is_before") 223, val := Value.ref 42 }, { hash := PyData.keyHash P (Str.ofString "is_at_most"), key := Value.str (Str.ofString "is_at_most") 232, val := Value.ref 49 }, { hash := PyData.keyHash P (Str.ofString "Assembly"), key := Value.str (Str.ofString "Assembly") 390, val := Value.ref 141 }] 15 }),
   (12, { cls := Value.none, data := Data.fields #[Value.int 1 0, Value.int 0 0, Value.ref 20, Value.int 5 0, Value.int 0 0, Value.ref 27, Value.int 7 0, Value.int 0 0, Value.ref 34, Value.int 9 0, Value.int 0 0, Value.ref 41, Value.int 12 0, Value.int 0 0, Value.ref 48, Value.int 15 0, Value.int 0 0, Value.ref 55] })]
noncomputable def K9 (P : Params) : Frag :=
  [(3, { cls := Value.type "dict", data := Data.dict #[{ hash := PyData.keyHash P (Str.ofString "__name__"), key := Value.str (Str.ofString "__name__") 165, val := Value.str (Str.ofString "thinstack.receiver") 391 }, { hash := PyData.keyHash P (Str.ofString "__doc__"), key := Value.str (Str.ofString "__doc__") 166, val := Value.none }, { hash := PyData.keyHash P (Str.ofString "__package__"), key := Value.str (Str.ofString "__package__") 167, val := Value.none }, { hash := PyData.keyHash P (Str.ofString "__loader__"), key := Value.str (Str.ofString "__loader__") 168, val := Value.builtin "__main__.__loader__#opaque" }, { hash := PyData.keyHash P (Str.ofString "__spec__"), key := Value.str (Str.ofString "__spec__") 169, val := Value.none }, { hash := PyData.keyHash P (Str.ofString "__annotations__"), key := Value.str (Str.ofString "__annotations__") 170, val := Value.ref 6 }, { hash := PyData.keyHash P (Str.ofString "__builtins__"), key := Value.str (Str.ofString "__builtins__") 171, val := Value.ref 4 }, { hash := PyData.keyHash P (Str.ofString "__file__"), key := Value.str (Str.ofString "__file__") 173, val := Value.str (Str.ofString "/claim/cut.py") 172 }, { hash := PyData.keyHash P (Str.ofString "__cached__"), key := Value.str (Str.ofString "__cached__") 174, val := Value.none }, { hash := PyData.keyHash P (Str.ofString "_wall"), key := Value.str (Str.ofString "_wall") 193, val := Value.ref 21 }, { hash := PyData.keyHash P (Str.ofString "plus"), key := Value.str (Str.ofString "plus") 204, val := Value.ref 28 }, { hash := PyData.keyHash P (Str.ofString "distance"), key := Value.str (Str.ofString "distance") 213, val := Value.ref 35 }, { hash := PyData.keyHash P (Str.ofString "is_before"), key := Value.str (Str.ofString "is_before") 223, val := Value.ref 42 }, { hash := PyData.keyHash P (Str.ofString "is_at_most"), key := Value.str (Str.ofString "is_at_most") 232, val := Value.ref 49 }, { hash := PyData.keyHash P (Str.ofString "Assembly"), key := Value.str (Str.ofString "Assembly") 390, val := Value.ref 141 }, { hash := PyData.keyHash P (Str.ofString "Receiver"), key := Value.str (Str.ofString "Receiver") 563, val := Value.ref 275 }] 16 }),
   (12, { cls := Value.none, data := Data.fields #[Value.int 1 0, Value.int 0 0, Value.ref 20, Value.int 5 0, Value.int 0 0, Value.ref 27, Value.int 7 0, Value.int 0 0, Value.ref 34, Value.int 9 0, Value.int 0 0, Value.ref 41, Value.int 12 0, Value.int 0 0, Value.ref 48, Value.int 15 0, Value.int 0 0, Value.ref 55, Value.int 114 0, Value.int 0 0, Value.ref 151] })]
def hdF (i : Nat) : Frag → Option Obj
  | [] => none
  | (j, o) :: _ => match Nat.beq j i with
    | true => some o
    | false => none
def tlF (i : Nat) : Frag → Frag
  | [] => []
  | (j, o) :: l => match Nat.beq j i with
    | true => l
    | false => (j, o) :: l
/-- the objects at i, i + 1, ..; each from the first list that has it -/
def lay3 : Nat → Nat → Frag → Frag → Frag → List Obj
  | 0, _, _, _, _ => []
  | n + 1, i, a, b, c => (match hdF i a with
    | some o => o
    | none => match hdF i b with
      | some o => o
      | none => match hdF i c with
        | some o => o
        | none => default) :: lay3 n (i + 1) (tlF i a) (tlF i b) (tlF i c)
noncomputable def T7 (P : Params) : BT := btOf (lay3 146 0 (K7 P) (KKp P) (K2 P)) 0 .nil
noncomputable def T9 (P : Params) : BT := btOf (lay3 280 0 (K9 P) (KKp P) (K2 P)) 0 .nil
noncomputable def TE (P : Params) : BT := btOf (lay3 337 0 [] (KKp P) (K2 P)) 0 .nil
noncomputable def envT : Env := { scope := PySem.Challenge.rw_nu0130_01.row.prog.main.scope, locals := mainNs, globals := mainNs, cells := [], code := .ref 13, frame := some 14 }
/-- the thread ahead of the statements from k on -/
noncomputable def thrT (k : Nat) (pos : Pos) : Thread := ⟨((execs ((behindTheImports PySem.Challenge.rw_nu0130_01.row.prog).drop k) envT).onRaise (leaving envT)).bind fun f => (Sem.pure (Fin.done f) : Sem Fin), .body (behindTheImports PySem.Challenge.rw_nu0130_01.row.prog) envT, pos, [topFrame default]⟩
theorem topA : ∀ w : World, (fun os => topGoT treeTable PySem.Challenge.rw_nu0130_01.row.prog w 11 (some (.ref 6)) 795 ⟨bootT w.params, 11, {}, #[], boot_drawn, boot_toks, os⟩ (topStub PySem.Challenge.rw_nu0130_01.row.prog)) =
    fun os => some (⟨T7 w.params, 146, {}, #[], {}, 391, os⟩, thrT 8 { line := 15, col := 0, endLine := 112, endCol := 26 }) := by
  intro w
  kernel_rfl
theorem topB : ∀ w : World, (fun os => topGoT treeTable PySem.Challenge.rw_nu0130_01.row.prog w 11 (some (.ref 6)) 758 ⟨T7 w.params, 146, {}, #[], {}, 391, os⟩ (thrT 8 { line := 15, col := 0, endLine := 112, endCol := 26 })) =
    fun os => some (⟨T9 w.params, 280, {}, #[], {}, 564, os⟩, thrT 10 { line := 114, col := 0, endLine := 206, endCol := 16 }) := by
  intro w
  kernel_rfl
theorem topC : ∀ w : World, (fun os => topRunT treeTable PySem.Challenge.rw_nu0130_01.row.prog w 11 (some (.ref 6)) 2249 ⟨T9 w.params, 280, {}, #[], {}, 564, os⟩ (thrT 10 { line := 114, col := 0, endLine := 206, endCol := 16 })) =
    fun os => some ⟨TE w.params, 337, {}, #[], {}, 662, os⟩ := by
  intro w
  kernel_rfl
theorem topAll (w : World) (os : OsState) : topRunT treeTable PySem.Challenge.rw_nu0130_01.row.prog w 11 (some (.ref 6)) 3802 ⟨bootT w.params, 11, {}, #[], boot_drawn, boot_toks, os⟩ (topStub PySem.Challenge.rw_nu0130_01.row.prog) = some ⟨TE w.params, 337, {}, #[], {}, 662, os⟩ :=
  goT_top (n := 795) (N := 3007) (congrFun (topA w) os) (goT_top (n := 758) (N := 2249) (congrFun (topB w) os) (congrFun (topC w) os))
def kAs : List Addr := [2, 3, 20, 21, 27, 28, 34, 35, 41, 42, 48, 49, 62, 63, 67, 68, 74, 75, 81, 82, 88, 89, 95, 96, 102, 103, 109, 110, 116, 117, 123, 124, 130, 131, 137, 138, 140, 141, 142, 143, 153, 159, 160, 166, 167, 173, 174, 180, 181, 187, 188, 194, 195, 201, 202, 208, 209, 215, 216, 222, 223, 229, 230, 236, 237, 243, 244, 250, 251, 257, 258, 264, 265, 271, 272, 274, 275, 276, 277, 285, 286, 292, 293, 299, 300, 306, 307, 311, 312, 318, 319, 323, 324, 330, 331, 335, 336]
theorem kAs_eq (P : Params) : kAs = (KKp P).map (·.1) := by rfl
/-- the state behind the top -/
noncomputable def endT (w : World) (os : OsState) : Shared := SharedT.abs ⟨TE w.params, 337, {}, #[], {}, 662, os⟩
theorem lookA : ∀ w : World, (fun os => (staticsOk (importedModules PySem.Challenge.rw_nu0130_01.row.prog.main.body) (absHeap (bootT w.params) 11 {}) (endT w os).heap && namesBound PySem.Challenge.rw_nu0130_01.row.prog (endT w os).heap && gensDone (endT w os) && laidKept (absHeap (bootT w.params) 11 {}) (endT w os).heap)) = fun _ => true := by
  intro w
  kernel_rfl
theorem lookB : ∀ w : World, (fun os => openSeen view [] (importedModules PySem.Challenge.rw_nu0130_01.row.prog.main.body) (fun s => xlAt view [] s && recOk (RowW.records PySem.Challenge.rw_nu0130_01.row.toRowW) s) true (endT w os)) = fun _ => openGood view [] := by
  intro w
  kernel_rfl
theorem lookC : ∀ w : World, (fun os => Hook.obs (kHook KKp kAs kAs_eq) (endT w os)) = fun _ => Hook.val (kHook KKp kAs kAs_eq) w := by
  intro w
  kernel_rfl
theorem LeftO.of_tree {p q : Program} {loose : List Str} {Xt : Shared → Bool} {α : Type} {Yf : Shared → α} {Ya : World → α} {N : Nat} {T₀ T₁ : Params → BT} {m₀ m₁ k₁ : Nat} {life life₁ : Life} {d₁ : Drawn} {ann : Option Value}
    (e : opening p = plainProg p.main.scope.names) (hN : Nat.ble 600 N = true) (f : ∀ s, fenceModules? p s = some s) (hT : ∀ P, boot_heap P = absHeap (T₀ P) m₀ life)
    (hs : ∀ P, ((absHeap (T₀ P) m₀ life).isNs mainGlobals && (#[] : Array GenState).size == 0, (absHeap (T₀ P) m₀ life).objs.size, (absHeap (T₀ P) m₀ life).nsMap mainGlobals "__annotations__") = (true, m₀, ann))
    (r : ∀ w os, topRunT treeTable p w m₀ ann N ⟨T₀ w.params, m₀, life, #[], boot_drawn, boot_toks, os⟩ (topStub p) = some ⟨T₁ w.params, m₁, life₁, #[], d₁, k₁, os⟩)
    (l1 : ∀ w : World, (fun os => (staticsOk (importedModules p.main.body) (absHeap (T₀ w.params) m₀ life) (SharedT.abs ⟨T₁ w.params, m₁, life₁, #[], d₁, k₁, os⟩).heap && namesBound p (SharedT.abs ⟨T₁ w.params, m₁, life₁, #[], d₁, k₁, os⟩).heap && gensDone (SharedT.abs ⟨T₁ w.params, m₁, life₁, #[], d₁, k₁, os⟩) && laidKept (absHeap (T₀ w.params) m₀ life) (SharedT.abs ⟨T₁ w.params, m₁, life₁, #[], d₁, k₁, os⟩).heap)) = fun _ => true)
    (l2 : ∀ w : World, (fun os => openSeen q loose (importedModules p.main.body) Xt true (SharedT.abs ⟨T₁ w.params, m₁, life₁, #[], d₁, k₁, os⟩)) = fun _ => openGood q loose) (l3 : ∀ w : World, (fun os => Yf (SharedT.abs ⟨T₁ w.params, m₁, life₁, #[], d₁, k₁, os⟩)) = fun _ => Ya w) : LeftO p q loose Xt Yf Ya N :=
  LeftO.of_pieces (H₀ := fun P => absHeap (T₀ P) m₀ life) (H₁ := fun P => absHeap (T₁ P) m₁ life₁) (gs₀ := #[]) (gs₁ := #[]) (M := N) (fun w => by rw [← hT]; exact boot_open e hN f w) (fun w => hs w.params) (fun w os => topRunT_of (r w os)) (Nat.ble_eq_true_of_le (Nat.le_refl N))
    (fun w => funext fun os => Prod.ext (congrFun (l1 w) os) (Prod.ext (congrFun (l2 w) os) (congrFun (l3 w) os)))
theorem leftAll : LeftO PySem.Challenge.rw_nu0130_01.row.prog view [] (fun s => xlAt view [] s && recOk (RowW.records PySem.Challenge.rw_nu0130_01.row.toRowW) s) (Hook.obs (kHook KKp kAs kAs_eq)) (Hook.val (kHook KKp kAs kAs_eq)) 3802 :=
  LeftO.of_tree (T₀ := bootT) (T₁ := TE) (m₀ := 11) (m₁ := 337) (life := {}) (life₁ := {}) (ann := some (.ref 6)) (by kernel_rfl) (by decide) (fun s => by kernel_rfl) (fun P => by kernel_rfl) (fun P => by kernel_rfl) topAll lookA lookB lookC
end
section
theorem rowSaid : PySem.Challenge.rw_nu0130_01.row.wellSaid = true := by kernel_rfl
theorem lawSaid : PySem.Challenge.rw_nu0130_01.wellSaid = true := by
  unfold PySem.W.OpenLaw.wellSaid
  iterate 18 (refine look_both ?_ (by kernel_rfl))
  exact rowSaid
theorem saidAll (h : PySem.Challenge.rw_nu0130_01.row.wellSaid = true → PySem.Challenge.rw_nu0130_01.row.Holds) : PySem.Challenge.rw_nu0130_01.Holds :=
  holds_law lawSaid h
end
section
inductive Any1 {α0 : Type} (P : α0 → Prop) : Prop
  | mk (x0 : α0) : P x0 → Any1 P
inductive Any2 {α0 α1 : Type} (P : α0 → α1 → Prop) : Prop
  | mk (x0 : α0) (x1 : α1) : P x0 x1 → Any2 P
inductive Any3 {α0 α1 α2 : Type} (P : α0 → α1 → α2 → Prop) : Prop
  | mk (x0 : α0) (x1 : α1) (x2 : α2) : P x0 x1 x2 → Any3 P
inductive Any4 {α0 α1 α2 α3 : Type} (P : α0 → α1 → α2 → α3 → Prop) : Prop
  | mk (x0 : α0) (x1 : α1) (x2 : α2) (x3 : α3) : P x0 x1 x2 x3 → Any4 P
inductive Any5 {α0 α1 α2 α3 α4 : Type} (P : α0 → α1 → α2 → α3 → α4 → Prop) : Prop
  | mk (x0 : α0) (x1 : α1) (x2 : α2) (x3 : α3) (x4 : α4) : P x0 x1 x2 x3 x4 → Any5 P
inductive Any6 {α0 α1 α2 α3 α4 α5 : Type} (P : α0 → α1 → α2 → α3 → α4 → α5 → Prop) : Prop
  | mk (x0 : α0) (x1 : α1) (x2 : α2) (x3 : α3) (x4 : α4) (x5 : α5) : P x0 x1 x2 x3 x4 x5 → Any6 P
inductive Any8 {α0 α1 α2 α3 α4 α5 α6 α7 : Type} (P : α0 → α1 → α2 → α3 → α4 → α5 → α6 → α7 → Prop) : Prop
  | mk (x0 : α0) (x1 : α1) (x2 : α2) (x3 : α3) (x4 : α4) (x5 : α5) (x6 : α6) (x7 : α7) : P x0 x1 x2 x3 x4 x5 x6 x7 → Any8 P
inductive Any9 {α0 α1 α2 α3 α4 α5 α6 α7 α8 : Type} (P : α0 → α1 → α2 → α3 → α4 → α5 → α6 → α7 → α8 → Prop) : Prop
  | mk (x0 : α0) (x1 : α1) (x2 : α2) (x3 : α3) (x4 : α4) (x5 : α5) (x6 : α6) (x7 : α7) (x8 : α8) : P x0 x1 x2 x3 x4 x5 x6 x7 x8 → Any9 P
inductive Any10 {α0 α1 α2 α3 α4 α5 α6 α7 α8 α9 : Type} (P : α0 → α1 → α2 → α3 → α4 → α5 → α6 → α7 → α8 → α9 → Prop) : Prop
  | mk (x0 : α0) (x1 : α1) (x2 : α2) (x3 : α3) (x4 : α4) (x5 : α5) (x6 : α6) (x7 : α7) (x8 : α8) (x9 : α9) : P x0 x1 x2 x3 x4 x5 x6 x7 x8 x9 → Any10 P
inductive Any21 {α0 α1 α2 α3 α4 α5 α6 α7 α8 α9 α10 α11 α12 α13 α14 α15 α16 α17 α18 α19 α20 : Type} (P : α0 → α1 → α2 → α3 → α4 → α5 → α6 → α7 → α8 → α9 → α10 → α11 → α12 → α13 → α14 → α15 → α16 → α17 → α18 → α19 → α20 → Prop) : Prop
  | mk (x0 : α0) (x1 : α1) (x2 : α2) (x3 : α3) (x4 : α4) (x5 : α5) (x6 : α6) (x7 : α7) (x8 : α8) (x9 : α9) (x10 : α10) (x11 : α11) (x12 : α12) (x13 : α13) (x14 : α14) (x15 : α15) (x16 : α16) (x17 : α17) (x18 : α18) (x19 : α19) (x20 : α20) : P x0 x1 x2 x3 x4 x5 x6 x7 x8 x9 x10 x11 x12 x13 x14 x15 x16 x17 x18 x19 x20 → Any21 P
inductive All2 (a0 a1 : Prop) : Prop
  | mk : a0 → a1 → All2 a0 a1
inductive All3 (a0 a1 a2 : Prop) : Prop
  | mk : a0 → a1 → a2 → All3 a0 a1 a2
inductive All4 (a0 a1 a2 a3 : Prop) : Prop
  | mk : a0 → a1 → a2 → a3 → All4 a0 a1 a2 a3
inductive All5 (a0 a1 a2 a3 a4 : Prop) : Prop
  | mk : a0 → a1 → a2 → a3 → a4 → All5 a0 a1 a2 a3 a4
inductive All6 (a0 a1 a2 a3 a4 a5 : Prop) : Prop
  | mk : a0 → a1 → a2 → a3 → a4 → a5 → All6 a0 a1 a2 a3 a4 a5
inductive All7 (a0 a1 a2 a3 a4 a5 a6 : Prop) : Prop
  | mk : a0 → a1 → a2 → a3 → a4 → a5 → a6 → All7 a0 a1 a2 a3 a4 a5 a6
inductive All8 (a0 a1 a2 a3 a4 a5 a6 a7 : Prop) : Prop
  | mk : a0 → a1 → a2 → a3 → a4 → a5 → a6 → a7 → All8 a0 a1 a2 a3 a4 a5 a6 a7
inductive All9 (a0 a1 a2 a3 a4 a5 a6 a7 a8 : Prop) : Prop
  | mk : a0 → a1 → a2 → a3 → a4 → a5 → a6 → a7 → a8 → All9 a0 a1 a2 a3 a4 a5 a6 a7 a8
inductive All12 (a0 a1 a2 a3 a4 a5 a6 a7 a8 a9 a10 a11 : Prop) : Prop
  | mk : a0 → a1 → a2 → a3 → a4 → a5 → a6 → a7 → a8 → a9 → a10 → a11 → All12 a0 a1 a2 a3 a4 a5 a6 a7 a8 a9 a10 a11
end
section

/-- what never changes: the text's own objects, the start-up's names -/
structure Stat (K : Frag) (g : Heap) : Prop where
  k : K.In g
  t : ∃ p loose mg mb, TopRead p loose mg mb g
theorem Stat.keeps {K : Frag} {g g' : Heap} (x : Stat K g) (h : ∀ b o, g.get? b = some o → g'.get? b = some o) : Stat K g' :=
  ⟨x.k.keeps h, let ⟨p, l, mg, mb, T⟩ := x.t; ⟨p, l, mg, mb, T.keeps h⟩⟩

/-- the whole state at a point of a frame: static part g, locals m at L, the ledger -/
structure Cx (K : Frag) (g : Heap) (L : Addr) (o : OsState) (s : Shared) (m : Str → Option Value) (news : List (Addr × Obj)) : Prop where
  st : Stat K g
  fr : Fr g L s.heap m
  nw : News g L s.heap news
  nd : (news.map (·.1)).Nodup
  gn : s.gens = #[]
  os : s.os = o

def lk (l : List (Str × Value)) (x : Str) : Option Value := l.lookup x

structure Room (A : Around) (n : Nat) : Prop where
  d : A.depth + n < 1000
  u : A.units + 20 * n < 9900
  hh : A.handled = none
theorem Room.deeper {A : Around} {n : Nat} (r : Room A (n + 1)) (env : Env) : Room (A.deeper env) n :=
  ⟨by show A.depth + 1 + n < 1000; have := r.d; omega, by show A.units + 3 + 20 * n < 9900; have := r.u; omega, r.hh⟩
theorem Room.le {A : Around} {n m : Nat} (r : Room A n) (h : m ≤ n) : Room A m := ⟨by have := r.d; omega, by have := r.u; omega, r.hh⟩
theorem Room.dep {A : Around} {n : Nat} (r : Room A n) : A.depth < 1000 := by have := r.d; omega

def retOf : Flow → Value
  | .ret v => v
  | _ => .none

inductive At (d : Addr) (o o' : Obj) : List (Addr × Obj) → List (Addr × Obj) → Prop
  | head {r} : At d o o' ((d, o) :: r) ((d, o') :: r)
  | tail {p r r'} : At d o o' r r' → At d o o' (p :: r) (p :: r')
theorem At.split {d : Addr} {o o' : Obj} {l l' : List (Addr × Obj)} (h : At d o o' l l') : ∃ pre post, l = pre ++ (d, o) :: post ∧ l' = pre ++ (d, o') :: post := by
  induction h with
  | head => exact ⟨[], _, rfl, rfl⟩
  | tail _ ih => obtain ⟨pre, post, rfl, rfl⟩ := ih; exact ⟨_ :: pre, post, rfl, rfl⟩
theorem At.mem {d : Addr} {o o' : Obj} {l l' : List (Addr × Obj)} (h : At d o o' l l') : (d, o) ∈ l := by obtain ⟨pre, post, rfl, rfl⟩ := h.split; simp

section
variable {K : Frag} {g : Heap} {L : Addr} {o : OsState} {s : Shared} {m m' : Str → Option Value} {news news' : List (Addr × Obj)} {h' : Heap} {tk : Nat}

theorem Cx.kin (C : Cx K g L o s m news) : K.In s.heap := C.st.k.keeps C.fr.keep
theorem Cx.get (C : Cx K g L o s m news) {a : Addr} {ob : Obj} (h : (a, ob) ∈ news) : s.heap.get? a = some ob := (C.nw _ h).1
theorem Cx.toks (C : Cx K g L o s m news) : Cx K g L o { s with toks := tk } m news := ⟨C.st, C.fr, C.nw, C.nd, C.gn, C.os⟩
theorem Cx.mk' (C : Cx K g L o s m news) (F : Fr g L h' m') (N : News g L h' news') (nd : (news'.map (·.1)).Nodup) : Cx K g L o { s with heap := h', toks := tk } m' news' := ⟨C.st, F, N, nd, C.gn, C.os⟩
theorem Cx.mk0 (C : Cx K g L o s m news) (F : Fr g L h' m') (N : News g L h' news') (nd : (news'.map (·.1)).Nodup) : Cx K g L o { s with heap := h' } m' news' := ⟨C.st, F, N, nd, C.gn, C.os⟩
/-- the heap has grown, nothing old is changed -/
theorem Cx.ext (C : Cx K g L o s m news) (e : ∀ b ob, s.heap.get? b = some ob → h'.get? b = some ob) : Cx K g L o { s with heap := h', toks := tk } m news :=
  ⟨C.st, ⟨C.fr.ns.keeps e, fun b ob q => e _ _ (C.fr.keep b ob q), C.fr.above⟩, fun p hp => ⟨e _ _ (C.nw p hp).1, (C.nw p hp).2⟩, C.nd, C.gn, C.os⟩
theorem Cx.ext0 (C : Cx K g L o s m news) (e : ∀ b ob, s.heap.get? b = some ob → h'.get? b = some ob) : Cx K g L o { s with heap := h' } m news :=
  ⟨C.st, ⟨C.fr.ns.keeps e, fun b ob q => e _ _ (C.fr.keep b ob q), C.fr.above⟩, fun p hp => ⟨e _ _ (C.nw p hp).1, (C.nw p hp).2⟩, C.nd, C.gn, C.os⟩
theorem Cx.lt (C : Cx K g L o s m news) : ∀ p ∈ news, p.1 < s.heap.objs.size := fun p hp => Heap.lt_size (C.nw p hp).1
theorem nodup_cons_lt {D : Addr} {ob : Obj} (h : ∀ p ∈ news, p.1 < D) (nd : (news.map (·.1)).Nodup) : (((D, ob) :: news).map (·.1)).Nodup := by
  rw [List.map_cons, List.nodup_cons]
  exact ⟨fun q => by obtain ⟨p, hp, e⟩ := List.mem_map.mp q; have := h p hp; rw [e] at this; exact Nat.lt_irrefl _ this, nd⟩
theorem Cx.push (C : Cx K g L o s m news) (ob : Obj) (hf : ob.isFreed = false := by rfl) : Cx K g L o { s with heap := s.heap.push ob, toks := tk } m ((s.heap.objs.size, ob) :: news) :=
  ⟨C.st, C.fr.push _, C.nw.push C.fr _ hf, nodup_cons_lt C.lt C.nd, C.gn, C.os⟩
theorem At.map {d : Addr} {ob ob' : Obj} (U : At d ob ob' news news') : news'.map (·.1) = news.map (·.1) := by
  obtain ⟨pre, post, rfl, rfl⟩ := U.split; simp
theorem At.upd (nd : (news.map (·.1)).Nodup) {d : Addr} {ob ob' : Obj} (U : At d ob ob' news news') : Upd d ob ob' news news' := by
  induction U with
  | head =>
    refine .head fun p hp e => ?_
    rw [List.map_cons, List.nodup_cons] at nd
    exact nd.1 (List.mem_map.mpr ⟨p, hp, e⟩)
  | tail U ih =>
    rw [List.map_cons, List.nodup_cons] at nd
    refine .tail (fun e => nd.1 ?_) (ih nd.2)
    rw [e]
    exact List.mem_map.mpr ⟨_, U.mem, rfl⟩
theorem Upd.map_fst {d : Addr} {ob ob' : Obj} (U : Upd d ob ob' news news') : news'.map (·.1) = news.map (·.1) := by
  obtain ⟨pre, post, rfl, rfl, _⟩ := U.split; simp
theorem Cx.upd (C : Cx K g L o s m news) {d : Addr} {ob ob' : Obj} {f : Obj → Obj} (U : At d ob ob' news news') (e : f ob = ob') (hf : ob'.isFreed = false) :
    Cx K g L o { s with heap := s.heap.update d f, toks := tk } m news' := by
  have V := U.upd C.nd
  have hm := U.map
  obtain ⟨pre, post, rfl, rfl, a, b⟩ := V.split
  obtain ⟨F, N⟩ := news_upd C.fr C.nw a b e hf
  exact ⟨C.st, F, N, by rw [hm]; exact C.nd, C.gn, C.os⟩
/-- SameBut d -/
theorem Cx.but (C : Cx K g L o s m news) {d : Addr} {ob ob' : Obj} (U : At d ob ob' news news') (hs : Heap.SameBut d s.heap h') (ho : h'.get? d = some ob') :
    Cx K g L o { s with heap := h', toks := tk } m news' := by
  have V := U.upd C.nd
  have hm := U.map
  obtain ⟨pre, post, rfl, rfl, a, b⟩ := V.split
  have z := C.nw (d, ob) (by simp)
  exact ⟨C.st, C.fr.change hs z.2.1 z.2.2, news_set C.nw a b hs ho, by rw [hm]; exact C.nd, C.gn, C.os⟩
theorem Cx.sub (C : Cx K g L o s m news) (h : List.Sublist news' news) : Cx K g L o s m news' :=
  ⟨C.st, C.fr, fun p hp => C.nw p (h.subset hp), (h.map _).nodup C.nd, C.gn, C.os⟩
theorem Cx.perm (C : Cx K g L o s m news) (h : List.Perm news' news) : Cx K g L o s m news' :=
  ⟨C.st, C.fr, fun p hp => C.nw p (h.subset hp), (h.map _).nodup_iff.mpr C.nd, C.gn, C.os⟩
theorem Cx.drop1 {p : Addr × Obj} (C : Cx K g L o s m (p :: news)) : Cx K g L o s m news := C.sub (List.sublist_cons_self _ _)
theorem Cx.map (C : Cx K g L o s m news) (e : m = m') : Cx K g L o s m' news := e ▸ C
end

section
variable {prog : Program} {w : World} {A : Around} {K : Frag} {g : Heap} {L : Addr} {o : OsState} {s : Shared} {m : Str → Option Value} {news : List (Addr × Obj)}

theorem call_fn0 {R : Result → Shared → Prop} {name qual : Str} {params : Arguments} {body : List Stmt} {scope : Scope} {dV kV doc pm cdv ct oc : Value} {an od : Option Addr} {osl : Array (Option Value)} {f : Addr} {args : Args} (binds l : List (Str × Value))
    (C : Cx K g L o s m news) (hroom : A.depth < 1000)
    (ho : K.lookup f = some ⟨oc, od, .func (fnOf name qual params body scope dV kV doc pm an cdv ct), osl⟩) (hcd : codeIn K cdv qual = true)
    (hbind : BindsTo s (fnOf name qual params body scope dV kV doc pm an cdv ct) args binds) (hloc : (binds.all fun x => decide (scope.names.lookup x.1 = some .local)) = true)
    (hl : binds.reverse = l)
    (h : ∀ g' L' s', Cx K g' L' o s' (lk l) news → (∀ s'' m'' news'', Cx K g' L' o s'' m'' news'' → Cx K g L o s'' m news'') →
      wpAny (model prog w) (A.deeper (envOf qual scope L' f cdv)) (execs body (envOf qual scope L' f cdv)) (fun fl s'' => R (.ok (.ret (retOf fl))) s'') (fun _ _ => False) s')
    (hco : scope.isCoroutine = false := by rfl) (hgen : scope.isGenerator = false := by rfl) (hk : scope.kind = .function := by rfl)
    (hcell : ∀ x ∈ scope.names, x.2 ≠ .cell := by decide) : codeAny (model prog w) A (.call (.ref f) args) R s := by
  subst hl
  have X := C.kin
  obtain ⟨_, _, _, _, T⟩ := C.st.t
  have F := C.fr
  have N := C.nw
  refine codeAny_call_def (fd := fnOf name qual params body scope dV kV doc pm an cdv ct) (body := body) (binds := binds) hroom (X _ _ ho) rfl (T.nolimit.keeps F.keep) (codeRec_of X hcd) rfl hbind hcell (locs hloc) (fun h₁ hns hk₁ => ?_) hco hgen hk
  have nm : ∀ b o, g.get? b = some o → b ∉ news.map (·.1) := fun b o e q => by
    obtain ⟨p, hp, rfl⟩ := List.mem_map.mp q
    rw [(N p hp).2.2] at e; cases e
  have st : g.StaysIn (hideAll s.heap (news.map (·.1))) := fun b o e => hideAll_get _ (F.keep b o e) (nm b o e)
  obtain ⟨oL, es, ep, hL, hLd, hLk, hLf⟩ := F.ns
  have nL : L ∉ news.map (·.1) := fun q => by
    obtain ⟨p, hp, e⟩ := List.mem_map.mp q
    exact (N p hp).2.1 e
  have hLg := hideAll_get (news.map (·.1)) hL nL
  have back : ∀ L' s'' m'' news'', Cx K (hideAll s.heap (news.map (·.1))) L' o s'' m'' news'' → Cx K g L o s'' m news'' := by
    intro L' s'' m'' news'' C'
    refine ⟨C.st, ⟨⟨oL, es, ep, C'.fr.keep L oL hLg, hLd, hLk, hLf⟩, fun b o e => C'.fr.keep b o (st b o e), F.above⟩, fun p hp => ⟨(C'.nw p hp).1, fun q => ?_, ?_⟩, C'.nd, C'.gn, C'.os⟩
    · have := (C'.nw p hp).2.2; rw [q, hLg] at this; cases this
    · cases q : g.get? p.1 with
      | none => rfl
      | some o => have := (C'.nw p hp).2.2; rw [st _ _ q] at this; cases this
  refine wpAny_mono (h (hideAll s.heap (news.map (·.1))) s.heap.objs.size _ ?_ (back _)) (fun fl s' hl => by cases fl <;> exact hl) (fun _ _ y => y.elim)
  refine ⟨C.st.keeps st, ⟨hns, fun b o e => hk₁ b o (of_hideAll _ e), Nat.le_of_eq (hideAll_size _ _)⟩, ?_, C.nd, C.gn, C.os⟩
  exact fun p hp => ⟨hk₁ _ _ (N p hp).1, Nat.ne_of_lt (Heap.lt_size (N p hp).1), hideAll_none _ (List.mem_map_of_mem hp)⟩
theorem call_fn {R : Result → Shared → Prop} {name qual : Str} {params : Arguments} {body body' : List Stmt} {scope scope' : Scope} {dV kV doc pm cdv ct oc : Value} {an od : Option Addr} {osl : Array (Option Value)} {f : Addr} {args : Args} (binds l : List (Str × Value))
    (C : Cx K g L o s m news) (hroom : A.depth < 1000)
    (ho : K.lookup f = some ⟨oc, od, .func (fnOf name qual params body scope dV kV doc pm an cdv ct), osl⟩) (hcd : codeIn K cdv qual = true)
    (hbind : BindsTo s (fnOf name qual params body scope dV kV doc pm an cdv ct) args binds) (hloc : (binds.all fun x => decide (scope.names.lookup x.1 = some .local)) = true)
    (hl : binds.reverse = l)
    (h : ∀ g' L' s', Cx K g' L' o s' (lk l) news → (∀ s'' m'' news'', Cx K g' L' o s'' m'' news'' → Cx K g L o s'' m news'') →
      wpAny (model prog w) (A.deeper (envOf qual scope' L' f cdv)) (execs body' (envOf qual scope' L' f cdv)) (fun fl s'' => R (.ok (.ret (retOf fl))) s'') (fun _ _ => False) s')
    (eb : body = body' := by with_unfolding_all (conv => lhs; whnf) <;> exact rfl) (es : scope = scope' := by with_unfolding_all (conv => lhs; whnf) <;> exact rfl)
    (hco : scope'.isCoroutine = false := by rfl) (hgen : scope'.isGenerator = false := by rfl) (hk : scope'.kind = .function := by rfl)
    (hcell : ∀ x ∈ scope'.names, x.2 ≠ .cell := by decide) : codeAny (model prog w) A (.call (.ref f) args) R s := by
  subst eb es
  exact call_fn0 binds l C hroom ho hcd hbind hloc hl h hco hgen hk hcell
end
end
section
theorem andT {X Y : Prop} (h : X) : (true = true → X) ∧ (true = false → Y) := ⟨fun _ => h, fun e => nomatch e⟩
theorem andF {X Y : Prop} (h : Y) : (false = true → X) ∧ (false = false → Y) := ⟨fun e => (nomatch e), fun _ => h⟩

theorem lk_cons (l : List (Str × Value)) (x : Str) (v : Value) : (fun y => if y = x then some v else lk l y) = lk ((x, v) :: l) := by
  funext y
  unfold lk
  rw [List.lookup_cons]
  by_cases h : y = x
  · subst h; simp
  · rw [if_neg h]
    have : (y == x) = false := by simpa using h
    rw [this]

section
variable {prog : Program} {w : World} {M : Model} {A : Around} {E : Value → Shared → Prop} {K : Frag} {g : Heap} {L : Addr} {o : OsState} {s : Shared} {m : Str → Option Value} {news news' : List (Addr × Obj)}
variable {name : Str} {scope : Scope} {a : Addr} {cd : Value}

theorem xLocal (C : Cx K g L o s m news) {x : Str} {pos : Pos} {v : Value} {Q : Value → Shared → Prop} (hv : m x = some v) (h : Q v s)
    (hk : scope.kind = .function := by with_unfolding_all exact rfl) (hl : (envOf name scope L a cd).kindOf x = some .local := by with_unfolding_all exact rfl) (hd : (x == ("__debug__" : Str)) = false := by with_unfolding_all decide) :
    wpAny M A (eval (.Name x pos) (envOf name scope L a cd)) Q E s := ld C.fr hv h hk hl hd
theorem xGlob (C : Cx K g L o s m news) {x : Str} {pos : Pos} {v : Value} {Q : Value → Shared → Prop} (e : nsIn K mainGlobals x = some (some v)) (h : Q v s)
    (hk : scope.kind = .function := by with_unfolding_all exact rfl) (hx : (envOf name scope L a cd).kindOf x = some .globalImplicit := by with_unfolding_all exact rfl) (hd : (x == ("__debug__" : Str)) = false := by with_unfolding_all decide) :
    wpAny M A (eval (.Name x pos) (envOf name scope L a cd)) Q E s := by
  obtain ⟨_, _, _, _, T⟩ := C.st.t
  exact name_K C.fr C.st.k T e h hk hx hd
theorem xBi (C : Cx K g L o s m news) {x : Str} {pos : Pos} {v : Value} {Q : Value → Shared → Prop} (e : nsIn K mainGlobals x = some none) (hv : bootBuiltins x = some v) (h : Q v s) (hn : x ≠ "__name__" := by with_unfolding_all decide)
    (hk : scope.kind = .function := by with_unfolding_all exact rfl) (hx : (envOf name scope L a cd).kindOf x = some .globalImplicit := by with_unfolding_all exact rfl) (hd : (x == ("__debug__" : Str)) = false := by with_unfolding_all decide) :
    wpAny M A (eval (.Name x pos) (envOf name scope L a cd)) Q E s := by
  obtain ⟨_, _, _, _, T⟩ := C.st.t
  exact name_B C.fr C.st.k T e hv hn h hk hx hd
theorem xStore {l : List (Str × Value)} (C : Cx K g L o s (lk l) news) {x : Str} {v : Value} {Q : Unit → Shared → Prop} (h : ∀ s', Cx K g L o s' (lk ((x, v) :: l)) news → Q () s')
    (hk : scope.kind = .function := by with_unfolding_all exact rfl) (hl : (envOf name scope L a cd).kindOf x = some .local := by with_unfolding_all exact rfl) :
    wpAny M A (storeName (envOf name scope L a cd) x v) Q E s :=
  stN C.fr C.nw (fun h' F N => h _ (lk_cons l x v ▸ C.mk' F N C.nd)) hk hl

theorem xInt (C : Cx K g L o s m news) {i : Int} {k pos} {Q : Value → Shared → Prop} {env : Env} (h : ∀ t s', Cx K g L o s' m news → Q (.int i t) s') : wpAny M A (eval (.Constant (.int i) k pos) env) Q E s :=
  wpAny_Constant_int (h _ _ C.toks)
theorem xStr (C : Cx K g L o s m news) {x : Str} {k pos} {Q : Value → Shared → Prop} {env : Env} (h : ∀ t s', Cx K g L o s' m news → Q (.str x t) s') : wpAny M A (eval (.Constant (.str x) k pos) env) Q E s :=
  Calls.Constant_str (h _ _ C.toks)
theorem xByt (C : Cx K g L o s m news) {x} {k pos} {Q : Value → Shared → Prop} {env : Env} (h : ∀ t s', Cx K g L o s' m news → Q (.bytes x.toArray t) s') : wpAny M A (eval (.Constant (.bytes x) k pos) env) Q E s :=
  PySem.W.Constant_bytes (h _ _ C.toks)

variable {x y : Int} {t u : Tok}
theorem xAdd (C : Cx K g L o s m news) {Q : Value → Shared → Prop} (h : ∀ t s', Cx K g L o s' m news → Q (.int (x + y) t) s') : wpAny (model prog w) A (binaryOp .Add (.int x t) (.int y u)) Q E s := add_int (h _ _ C.toks)
theorem xSub (C : Cx K g L o s m news) {Q : Value → Shared → Prop} (h : ∀ t s', Cx K g L o s' m news → Q (.int (x - y) t) s') : wpAny (model prog w) A (binaryOp .Sub (.int x t) (.int y u)) Q E s := sub_int (h _ _ C.toks)
theorem xMod (C : Cx K g L o s m news) {Q : Value → Shared → Prop} (hy : 0 < y) (h : ∀ t s', Cx K g L o s' m news → Q (.int (x % y) t) s') : wpAny (model prog w) A (binaryOp .Mod (.int x t) (.int y u)) Q E s :=
  mod_int' (Int.ne_of_gt hy) (by rw [Int.fmod_eq_emod_of_nonneg x (Int.le_of_lt hy)]; exact h _ _ C.toks)
theorem xNeg (C : Cx K g L o s m news) {Q : Value → Shared → Prop} (h : ∀ t s', Cx K g L o s' m news → Q (.int (-x) t) s') : wpAny (model prog w) A (unaryOp .USub (.int x t)) Q E s := neg_int (h _ _ C.toks)
theorem xEqI {Q : Value → Shared → Prop} (h : Q (.bool (x == y)) s) : wpAny (model prog w) A (compareOp .Eq (.int x t) (.int y u)) Q E s := eq_int h
theorem xLtI {Q : Value → Shared → Prop} (h : Q (.bool (decide (x < y))) s) : wpAny (model prog w) A (compareOp .Lt (.int x t) (.int y u)) Q E s := lt_int h
theorem xLeI {Q : Value → Shared → Prop} (h : Q (.bool (decide (x ≤ y))) s) : wpAny (model prog w) A (compareOp .LtE (.int x t) (.int y u)) Q E s := le_int h
theorem xGtI {Q : Value → Shared → Prop} (h : Q (.bool (decide (y < x))) s) : wpAny (model prog w) A (compareOp .Gt (.int x t) (.int y u)) Q E s := gt_int h
theorem xGeI {Q : Value → Shared → Prop} (h : Q (.bool (decide (y ≤ x))) s) : wpAny (model prog w) A (compareOp .GtE (.int x t) (.int y u)) Q E s := ge_int h

theorem xCallF {f : Addr} {pos : Pos} {env : Env} {e : Expr} {rest : List Expr} (C : Cx K g L o s m news) {Q : Value → Shared → Prop} (hk : keepIn K (.ref f) = true)
    (h : wpAny (model prog w) A (spliced (backTo pos (starEach (e :: rest) env))) (fun vs s₁ => K.In s₁.heap ∧
      codeAny (model prog w) A (.call (.ref f) ⟨vs, []⟩) (fun r s' => match r with | .ok (.ret v) => Q v s' | .ok _ => False | .error e => E e s') s₁) E s)
    (he : starEach (e :: rest) env = (false, eval e env) :: starEach rest env := by with_unfolding_all exact rfl) (hplain : (backTo pos (starEach rest env)).any (·.1) = false := by with_unfolding_all exact rfl) :
    wpAny (model prog w) A (callWith pos (.ref f) [] (backTo pos (starEach (e :: rest) env)) []) Q E s :=
  callWith_K C.st.k hk (wpAny_mono h (fun vs s₁ h' => ⟨h'.1, wpAny_call h'.2⟩) fun _ _ e => e) he hplain
theorem xCallM {f : Addr} {x : Value} {pos : Pos} {env : Env} {e : Expr} {rest : List Expr} (C : Cx K g L o s m news) {Q : Value → Shared → Prop} (hk : keepIn K (.ref f) = true)
    (h : wpAny (model prog w) A (spliced (backTo pos (starEach (e :: rest) env))) (fun vs s₁ => K.In s₁.heap ∧
      codeAny (model prog w) A (.call (.ref f) ⟨x :: vs, []⟩) (fun r s' => match r with | .ok (.ret v) => Q v s' | .ok _ => False | .error e => E e s') s₁) E s)
    (he : starEach (e :: rest) env = (false, eval e env) :: starEach rest env := by with_unfolding_all exact rfl) (hplain : (backTo pos (starEach rest env)).any (·.1) = false := by with_unfolding_all exact rfl) :
    wpAny (model prog w) A (callWith pos (.ref f) [x] (backTo pos (starEach (e :: rest) env)) []) Q E s :=
  callWith_K C.st.k hk (wpAny_mono h (fun vs s₁ h' => ⟨h'.1, wpAny_call h'.2⟩) fun _ _ e => e) he hplain
theorem xCallM0 {f : Addr} {x : Value} {pos : Pos} {env : Env} (C : Cx K g L o s m news) {Q : Value → Shared → Prop} (hk : keepIn K (.ref f) = true)
    (h : codeAny (model prog w) A (.call (.ref f) ⟨[x], []⟩) (fun r s' => match r with | .ok (.ret v) => Q v s' | .ok _ => False | .error e => E e s') s) :
    wpAny (model prog w) A (callWith pos (.ref f) [x] (backTo pos (starEach [] env)) []) Q E s :=
  callWith_K0 C.kin hk (wpAny_call h)
theorem xCall {env : Env} {func : Expr} {args : List Expr} {pos : Pos} {Q : Value → Shared → Prop}
    (h : wpAny M A (eval func env) (fun f s₁ => wpAny M A (callWith pos f [] (backTo pos (starEach args env)) []) Q E s₁) E s)
    (he : eval (.Call func args [] pos) env = (do callWith pos (← eval func env) [] (backTo pos (starEach args env)) (backToKw pos (keywordEach [] env))) := by with_unfolding_all exact rfl) :
    wpAny M A (eval (.Call func args [] pos) env) Q E s := Call_ h he
theorem xMCall {env : Env} {ob : Expr} {nm : Str} {apos pos : Pos} {args : List Expr} {pl : Sem Bool} {Q : Value → Shared → Prop}
    (h : wpAny M A (eval ob env) (fun ov s₁ => wpAny M A (getMethod ov nm pl) (fun fx s₂ => wpAny M A (callWith pos fx.1 fx.2 (backTo pos (starEach args env)) []) Q E s₂) E s₁) E s)
    (he : eval (.Call (.Attribute ob nm apos) args [] pos) env = (do
      let ov ← eval ob env
      standAt apos.atName
      let (f, first) ← holding [ov] (getMethod ov nm pl)
      callWith pos f first (backTo pos (starEach args env)) []) := by with_unfolding_all exact rfl) :
    wpAny M A (eval (.Call (.Attribute ob nm apos) args [] pos) env) Q E s := MethodCall_ h he
theorem xArg {e : Expr} {rest : List Expr} {pos : Pos} {env : Env} {Q : List Value → Shared → Prop}
    (h : wpAny M A (eval e env) (fun v s₁ => wpAny M A (spliced (backTo pos (starEach rest env))) (fun vs s₂ => Q (v :: vs) s₂) E s₁) E s)
    (he : starEach (e :: rest) env = (false, eval e env) :: starEach rest env := by with_unfolding_all exact rfl) :
    wpAny M A (spliced (backTo pos (starEach (e :: rest) env))) Q E s := by
  rw [he]; exact Calls.spliced_cons h
theorem xArg0 {pos : Pos} {env : Env} {Q : List Value → Shared → Prop} (h : Q [] s) : wpAny M A (spliced (backTo pos (starEach [] env))) Q E s := Calls.spliced_nil h

/-- call of a builtin or a builtin type with arguments -/
theorem xCallB {id : String} {pos : Pos} {env : Env} {e : Expr} {rest : List Expr} {Q : Value → Shared → Prop}
    (h : wpAny M A (spliced (backTo pos (starEach (e :: rest) env))) (fun vs s₁ => wpAny M A (call (.builtin id) vs []) Q E s₁) E s)
    (he : starEach (e :: rest) env = (false, eval e env) :: starEach rest env := by with_unfolding_all exact rfl) (hplain : (backTo pos (starEach rest env)).any (·.1) = false := by with_unfolding_all exact rfl) :
    wpAny M A (callWith pos (.builtin id) [] (backTo pos (starEach (e :: rest) env)) []) Q E s := by
  rw [he] at h ⊢
  exact Calls.callWith_builtin (by show (false || (backTo pos (starEach rest env)).any (·.1)) = false; rw [hplain]; rfl) (Calls.evalArgs_plain h)
theorem xCallBM {id : String} {x : Value} {pos : Pos} {env : Env} {e : Expr} {rest : List Expr} {Q : Value → Shared → Prop}
    (h : wpAny M A (spliced (backTo pos (starEach (e :: rest) env))) (fun vs s₁ => wpAny M A (call (.builtin id) (x :: vs) []) Q E s₁) E s)
    (he : starEach (e :: rest) env = (false, eval e env) :: starEach rest env := by with_unfolding_all exact rfl) (hplain : (backTo pos (starEach rest env)).any (·.1) = false := by with_unfolding_all exact rfl) :
    wpAny M A (callWith pos (.builtin id) [x] (backTo pos (starEach (e :: rest) env)) []) Q E s := by
  rw [he] at h ⊢
  exact Calls.callWith_builtin (by show (false || (backTo pos (starEach rest env)).any (·.1)) = false; rw [hplain]; rfl) (Calls.evalArgs_plain h)
theorem xCallT {id : String} {pos : Pos} {env : Env} {e : Expr} {rest : List Expr} {Q : Value → Shared → Prop}
    (h : wpAny (model prog w) A (spliced (backTo pos (starEach (e :: rest) env))) (fun vs s₁ => wpAny (model prog w) A (call (.type id) vs []) Q E s₁) E s)
    (he : starEach (e :: rest) env = (false, eval e env) :: starEach rest env := by with_unfolding_all exact rfl) (hplain : (backTo pos (starEach rest env)).any (·.1) = false := by with_unfolding_all exact rfl) :
    wpAny (model prog w) A (callWith pos (.type id) [] (backTo pos (starEach (e :: rest) env)) []) Q E s := by
  rw [he] at h ⊢
  exact PyProof.Rows.callWith_type (by show (false || (backTo pos (starEach rest env)).any (·.1)) = false; rw [hplain]; rfl) (Calls.evalArgs_plain h)

theorem xAnd {env : Env} {e₁ e₂ rest pos} {Q : Value → Shared → Prop}
    (h : wpAny M A (eval e₁ env) (fun v s₁ => wpAny M A (truthy v) (fun c s₂ => (c = true → wpAny M A (eval (.BoolOp .And (e₂ :: rest) pos) env) Q E s₂) ∧ (c = false → Q v s₂)) E s₁) E s) :
    wpAny M A (eval (.BoolOp .And (e₁ :: e₂ :: rest) pos) env) Q E s :=
  BoolOp_and (wpAny_mono h (fun _ _ h => wpAny_mono h (fun c s₂ h => by cases c <;> simp_all) fun _ _ e => e) fun _ _ e => e)
theorem xOr {env : Env} {e₁ e₂ rest pos} {Q : Value → Shared → Prop}
    (h : wpAny M A (eval e₁ env) (fun v s₁ => wpAny M A (truthy v) (fun c s₂ => (c = true → Q v s₂) ∧ (c = false → wpAny M A (eval (.BoolOp .Or (e₂ :: rest) pos) env) Q E s₂)) E s₁) E s) :
    wpAny M A (eval (.BoolOp .Or (e₁ :: e₂ :: rest) pos) env) Q E s :=
  BoolOp_or (wpAny_mono h (fun _ _ h => wpAny_mono h (fun c s₂ h => by cases c <;> simp_all) fun _ _ e => e) fun _ _ e => e)
theorem tAnd {env : Env} {x rest pos whole} {Q : Bool → Shared → Prop}
    (h : wpAny M A (isTrue x env (eval x env)) (fun c s' => (c = true → wpAny M A (isTrue (.BoolOp .And rest pos) env whole) Q E s') ∧ (c = false → Q false s')) E s) :
    wpAny M A (isTrue (.BoolOp .And (x :: rest) pos) env whole) Q E s :=
  isTrue_and (wpAny_mono h (fun c _ h => by cases c <;> simp_all) fun _ _ e => e)
theorem tOr {env : Env} {x rest pos whole} {Q : Bool → Shared → Prop}
    (h : wpAny M A (isTrue x env (eval x env)) (fun c s' => (c = true → Q true s') ∧ (c = false → wpAny M A (isTrue (.BoolOp .Or rest pos) env whole) Q E s')) E s) :
    wpAny M A (isTrue (.BoolOp .Or (x :: rest) pos) env whole) Q E s :=
  isTrue_or (wpAny_mono h (fun c _ h => by cases c <;> simp_all) fun _ _ e => e)
theorem xIfE {env : Env} {test body orelse pos} {Q : Value → Shared → Prop}
    (h : wpAny M A (isTrue test env (eval test env)) (fun c s₂ => (c = true → wpAny M A (eval body env) Q E s₂) ∧ (c = false → wpAny M A (eval orelse env) Q E s₂)) E s) :
    wpAny M A (eval (.IfExp test body orelse pos) env) Q E s :=
  IfExp_ (wpAny_mono h (fun c _ h => by cases c <;> simp_all) fun _ _ e => e)
theorem xMul (C : Cx K g L o s m news) {Q : Value → Shared → Prop} (hm : IntMulOk x y) (h : ∀ t s', Cx K g L o s' m news → Q (.int (x * y) t) s') :
    wpAny (model prog w) A (binaryOp .Mult (.int x t) (.int y u)) Q E s := PyProof.Rows.mul_int (h _ _ C.toks) hm
theorem xPow (C : Cx K g L o s m news) {Q : Value → Shared → Prop} (hn : 0 ≤ y) (hn2 : y ≤ 1000000) (ha : x.natAbs < 2 ^ 64) (h : ∀ t s', Cx K g L o s' m news → Q (.int (x ^ y.toNat) t) s') :
    wpAny (model prog w) A (binaryOp .Pow (.int x t) (.int y u)) Q E s := pow_int_small hn hn2 ha (h _ _ C.toks)
theorem mulOkL (h1 : -1000000000000000000 < x) (h2 : x < 1000000000000000000) : IntMulOk x y := IntMulOk.of_left (intBits_le_64 (by omega) (by omega))
theorem xTup {vs : List Value} (C : Cx K g L o s m news) {Q : Value → Shared → Prop} (hz : vs.length ≤ 1000)
    (h : ∀ D s', Cx K g L o s' m ((D, { cls := .type "tuple", data := .seq vs.toArray }) :: news) → Q (.ref D) s') : wpAny M A (newTuple vs) Q E s :=
  kup_newTuple C.fr C.nw (fun D h' F N l => h D _ (C.mk0 F N (nodup_cons_lt l C.nd))) (Nat.le_trans hz (by decide))
theorem xLst {vs : List Value} (C : Cx K g L o s m news) {Q : Value → Shared → Prop} (hz : vs.length ≤ 1000)
    (h : ∀ D s', Cx K g L o s' m ((D, listOf vs.toArray 0) :: news) → Q (.ref D) s') : wpAny M A (newList vs) Q E s :=
  newList_K C.fr C.nw (fun D h' F N l => h D _ (C.mk0 F N (nodup_cons_lt l C.nd))) (Nat.le_trans hz (by decide))
end

/-- x of class Cc, with its dict -/
theorem xAttr {prog : Program} {w : World} {A : Around} {E : Value → Shared → Prop} {K : Frag} {g : Heap} {L : Addr} {o : OsState} {s : Shared} {m : Str → Option Value} {news : List (Addr × Obj)}
    {x dx Cc : Addr} {es : List DictEntry} {n : Nat} {attr : Str} {v : Value} {at' : Option Value} {expr : Bool}
    (C : Cx K g L o s m news) {Q : Value → Shared → Prop} (h1 : (x, instObj Cc dx) ∈ news) (h2 : (dx, dictOf es n) ∈ news) (hl : getL attr es = some (some v))
    (hg : plainGet K Cc attr = true) (hh : hasDictIn K Cc = true) (ha : findIn K (.ref Cc) attr = some at') (hn : noGet K at' = true) (hv : handedIn v = true)
    (h : ∀ s', Cx K g L o s' m news → Q v s') : wpAny (model prog w) A (getAttr (.ref x) attr expr) Q E s :=
  get_own C.fr C.st.k (InstAt.of_news C.nw h1 h2) hg hh ha hn hl hv (h _ C.toks)
theorem xSetAttr {prog : Program} {w : World} {A : Around} {E : Value → Shared → Prop} {K : Frag} {g : Heap} {L : Addr} {o : OsState} {s : Shared} {m : Str → Option Value} {news news' : List (Addr × Obj)}
    {x dx Cc : Addr} {es es' : List DictEntry} {n n' : Nat} {attr : Str} {v : Value}
    (C : Cx K g L o s m news) {Q : Unit → Shared → Prop} (h1 : (x, instObj Cc dx) ∈ news) (hl : (getL attr es).isSome = true)
    (hs : findIn K (.ref Cc) "__setattr__" = some (some (.builtin "object.__setattr__"))) (hp : plainOver K Cc = true) (ht : takerIn K Cc attr = some none) (hh : hasDictIn K Cc = true)
    (e : ∀ tk, (putL attr (PyData.keyHash w.params attr) (.str attr tk) v es, putN attr es n) = (es', n')) (U : At dx (dictOf es n) (dictOf es' n') news news') (hz : es'.length ≤ 1000)
    (h : ∀ s', Cx K g L o s' m news' → Q () s') : wpAny (model prog w) A (setAttr (.ref x) attr v) Q E s :=
  set_dict C.fr C.st.k C.nw (InstAt.of_news C.nw h1 U.mem) rfl hs hp ht hh hl (e _) (U.upd C.nd) hz fun h' F N => h _ (C.mk' F N (by rw [U.map]; exact C.nd))
theorem xMeth {prog : Program} {w : World} {A : Around} {E : Value → Shared → Prop} {K : Frag} {g : Heap} {L : Addr} {o : OsState} {s : Shared} {m : Str → Option Value} {news : List (Addr × Obj)}
    {x dx Cc f : Addr} {es : List DictEntry} {n : Nat} {attr : Str} {pl : Sem Bool}
    (C : Cx K g L o s m news) {Q : Value × List Value → Shared → Prop} (h1 : (x, instObj Cc dx) ∈ news) (h2 : (dx, dictOf es n) ∈ news) (hl : getL attr es = some none)
    (hg : plainGet K Cc attr = true) (hf : findIn K (.ref Cc) attr = some (some (.ref f))) (ht : isFn K (.ref f) = true) (h : Q (.ref f, [.ref x]) s) :
    wpAny (model prog w) A (getMethod (.ref x) attr pl) Q E s :=
  method_inst C.fr C.st.k (InstAt.of_news C.nw h1 h2) hg hf ht hl h
end
section

theorem execs_append : ∀ (a b : List Stmt) (env : Env), execs (a ++ b) env = (do match ← execs a env with | .next => execs b env | f => pure f)
  | [], b, env => by
    show execs b env = (do match ← (pure Flow.next : Sem Flow) with | .next => execs b env | f => pure f)
    rw [pure_bind]
  | s :: a, b, env => by
    show execs (s :: (a ++ b)) env = (do match ← execs (s :: a) env with | .next => execs b env | f => pure f)
    rw [execs_cons, execs_cons, bind_assoc]
    congr 1
    funext f
    cases f with
    | next => exact execs_append a b env
    | brk => rw [pure_bind]
    | cont => rw [pure_bind]
    | ret v => rw [pure_bind]

section
variable {prog : Program} {w : World} {M : Model} {A : Around} {E : Value → Shared → Prop} {s : Shared} {env : Env} {rest body orelse : List Stmt} {Q : Flow → Shared → Prop} {pos : Pos}

theorem sNil (h : Q .next s) : wpAny M A (execs [] env) Q E s := wpAny_execs_nil h
theorem sApp {st : Stmt} {b : List Stmt} (h : wpAny M A (execs (st :: (b ++ rest)) env) Q E s) : wpAny M A (execs ((st :: b) ++ rest) env) Q E s := h
theorem sApp0 (h : wpAny M A (execs rest env) Q E s) : wpAny M A (execs ([] ++ rest) env) Q E s := h
theorem sRet {e : Expr} (h : wpAny M A (eval e env) (fun v s' => Q (.ret v) s') E s) : wpAny M A (execs (.Return (some e) pos :: rest) env) Q E s :=
  wpAny_execs_cons (wpAny_Return_some h)
theorem sRet0 (h : Q (.ret .none) s) : wpAny M A (execs (.Return none pos :: rest) env) Q E s := wpAny_execs_cons (wpAny_Return_none h)
theorem sPass (h : wpAny M A (execs rest env) Q E s) : wpAny M A (execs (.Pass pos :: rest) env) Q E s := wpAny_execs_cons (wpAny_Pass h)
theorem sCont (h : Q .cont s) : wpAny M A (execs (.Continue pos :: rest) env) Q E s := wpAny_execs_cons (wpAny_Continue h)
theorem sBrk (h : Q .brk s) : wpAny M A (execs (.Break pos :: rest) env) Q E s := wpAny_execs_cons (wpAny_Break h)
theorem sAsg {x : Str} {px : Pos} {e : Expr} (h : wpAny M A (eval e env) (fun v s₁ => wpAny M A (storeName env x v) (fun _ s' => wpAny M A (execs rest env) Q E s') E s₁) E s)
    (hs : swapsWith e (some (.Name x px)) pos.line env = pure false := by with_unfolding_all exact rfl) : wpAny M A (execs (.Assign [.Name x px] e pos :: rest) env) Q E s :=
  wpAny_execs_cons (wpAny_Assign_Name h hs)
theorem sAsgA {e ob : Expr} {attr : Str} {p' : Pos} (h : wpAny M A (eval e env) (fun v s₁ => wpAny M A (eval ob env) (fun ov s₂ => wpAny M A (setAttr ov attr v) (fun _ s' => wpAny M A (execs rest env) Q E s') E s₂) E s₁) E s)
    (hs : swapsWith e (some (.Attribute ob attr p')) pos.line env = pure false := by with_unfolding_all exact rfl) : wpAny M A (execs (.Assign [.Attribute ob attr p'] e pos :: rest) env) Q E s :=
  wpAny_execs_cons (plainObj_wpAny_Assign_Attribute h hs)
theorem sAsgS {e ob i : Expr} {p' : Pos} (h : wpAny M A (eval e env) (fun v s₁ => wpAny M A (eval ob env) (fun ov s₂ => wpAny M A (eval i env) (fun iv s₃ => wpAny M A (setItem ov iv v) (fun _ s' => wpAny M A (execs rest env) Q E s') E s₃) E s₂) E s₁) E s)
    (hs : swapsWith e (some (.Subscript ob i p')) pos.line env = pure false := by with_unfolding_all exact rfl) : wpAny M A (execs (.Assign [.Subscript ob i p'] e pos :: rest) env) Q E s :=
  wpAny_execs_cons (wpAny_Assign_Subscript h hs)
theorem sAsgT {elts : List Expr} {k : Nat} {tpos : Pos} {e : Expr} (h : wpAny M A (eval e env) (fun v s₁ => wpAny M A (assign (.Tuple elts k tpos) env v) (fun _ s' => wpAny M A (execs rest env) Q E s') E s₁) E s)
    (hs : swapsWithSole [.Tuple elts k tpos] e pos.line env = pure false := by with_unfolding_all exact rfl) (hw : swappedStores [.Tuple elts k tpos] e env = pure none := by with_unfolding_all exact rfl) :
    wpAny M A (execs (.Assign [.Tuple elts k tpos] e pos :: rest) env) Q E s := wpAny_execs_cons (Assign_Tuple h hs hw)
theorem sAsgW {elts : List Expr} {k : Nat} {tpos : Pos} {e : Expr} {names : List Str}
    (hw : swappedStores [.Tuple elts k tpos] e env = pure (some names))
    (h : wpAny M A (eval e env) (fun v s₁ => wpAny M A (unpackItems v names.length none) (fun items s₂ => wpAny M A (assignInOrder (names.reverse.map fun n => bindName env n) items.reverse) (fun _ s' => wpAny M A (execs rest env) Q E s') E s₂) E s₁) E s)
    (hs : swapsWithSole [.Tuple elts k tpos] e pos.line env = pure false := by with_unfolding_all exact rfl) :
    wpAny M A (execs (.Assign [.Tuple elts k tpos] e pos :: rest) env) Q E s := wpAny_execs_cons (Assign_Tuple_swapped h hs hw)
theorem sExpr {e : Expr} (h : wpAny M A (eval e env) (fun v s' => v = .none ∧ wpAny M A (execs rest env) Q E s') E s)
    (hi : interactive env = false := by with_unfolding_all exact rfl) (hs : swapsWith e none pos.line env = pure false := by with_unfolding_all exact rfl) : wpAny M A (execs (.Expr e pos :: rest) env) Q E s :=
  wpAny_execs_cons (wpAny_Expr (wpAny_mono h (fun v s' h' => by obtain ⟨rfl, h'⟩ := h'; exact h') fun _ _ e => e) hi hs)
theorem sIf {test : Expr} (h : wpAny M A (isTrue test env (eval test env)) (fun b s₂ => (b = true → wpAny M A (execs (body ++ rest) env) Q E s₂) ∧ (b = false → wpAny M A (execs (orelse ++ rest) env) Q E s₂)) E s) :
    wpAny M A (execs (.If test body orelse pos :: rest) env) Q E s := by
  have key : ∀ {l : List Stmt} {s₂ : Shared}, wpAny M A (execs (l ++ rest) env) Q E s₂ → ∀ Γ p, Γ.In A → Sem.wp M Γ (execs l env >>= fun f => match f with | .next => execs rest env | f => pure f) (fun a _ s' => Q a s') (fun e _ s' => E e s') p s₂ := by
    intro l s₂ h Γ p hΓ
    have := h Γ p hΓ
    rw [execs_append] at this
    exact this
  refine fun Γ p hΓ => ?_
  rw [execs_cons, exec_If, bind_assoc, bind_assoc]
  simp only [Sem.wp_bind', Sem.wp_cmd_standAt]
  refine Sem.wp_mono M Γ _ (fun b p₂ s₂ h₂ => ?_) (fun _ _ _ h' => h') _ _ (h Γ _ hΓ)
  cases b with
  | true =>
    have := key (h₂.1 rfl) Γ p₂ hΓ
    simp only [Sem.wp_bind', if_true] at this ⊢
    exact Sem.wp_mono M Γ _ (fun f p' s' h' => by cases f <;> exact h') (fun _ _ _ h => h) _ _ this
  | false =>
    have := key (h₂.2 rfl) Γ p₂ hΓ
    simp only [Sem.wp_bind', if_false, Bool.false_eq_true] at this ⊢
    exact Sem.wp_mono M Γ _ (fun f p' s' h' => by cases f <;> exact h') (fun _ _ _ h => h) _ _ this

theorem sWhile {test : Expr} {E : Value → Shared → Prop} (I : Nat → Shared → Prop) (n : Nat) (h0 : I n s)
    (turn : ∀ n (QB : Flow → Shared → Prop), (∀ f m s₃, f = .next ∨ f = .cont → m < n → I m s₃ → QB f s₃) → (∀ s₃, wpAny (model prog w) A (execs rest env) Q E s₃ → QB .brk s₃) → (∀ v s₃, Q (.ret v) s₃ → QB (.ret v) s₃) →
      ∀ s, I n s → wpAny (model prog w) A (isTrue test env (eval test env)) (fun b s₂ => (b = true → wpAny (model prog w) A (execs body env) QB (fun _ _ => False) s₂) ∧ (b = false → wpAny (model prog w) A (execs rest env) Q E s₂)) (fun _ _ => False) s) :
    wpAny (model prog w) A (execs (.While test body [] pos :: rest) env) Q E s := by
  refine wpAny_execs_cons (wpAny_While (codeAny_whileLoop I (fun n s hI => ?_) n h0))
  refine wpAny_mono (turn n (fun f s₃ => match f with
        | .next | .cont => ∃ m, m < n ∧ I m s₃
        | .brk => wpAny (model prog w) A (execs rest env) Q E s₃
        | .ret v => Q (.ret v) s₃) (fun f m s₃ hf h1 h2 => by rcases hf with rfl | rfl <;> exact ⟨m, h1, h2⟩) (fun _ h => h) (fun _ _ h => h) s hI) (fun b s₂ h₂ => ?_) fun _ _ e => e.elim
  cases b with
  | true =>
    simp only [if_true]
    refine wpAny_mono (h₂.1 rfl) (fun f s₃ h₃ => ?_) fun _ _ e => e.elim
    cases f <;> exact h₃
  | false => simp only [Bool.false_eq_true, if_false]; exact wpAny_execs_nil (h₂.2 rfl)

theorem sFor {target iter : Expr} {E : Value → Shared → Prop}
    (h : wpAny (model prog w) A (eval iter env) (fun xv s₁ => wpAny (model prog w) A (pyIter xv) (fun it s₂ => ∃ (I : Nat → Shared → Prop) (n : Nat), I n s₂ ∧
      ∀ n s, I n s → wpAny (model prog w) A (pyNext it) (fun r s₁ => match r with
        | none => wpAny (model prog w) A (execs rest env) Q E s₁
        | some v => wpAny (model prog w) A (letOwnedTupleGo target it v) (fun _ s₁' => wpAny (model prog w) A (assign target env v) (fun _ s₂ => wpAny (model prog w) A (execs body env) (fun f s₃ => match f with
          | .next | .cont => ∃ m, m < n ∧ I m s₃
          | .brk => wpAny (model prog w) A (execs rest env) Q E s₃
          | .ret v => Q (.ret v) s₃) (fun _ _ => False) s₂) (fun _ _ => False) s₁') (fun _ _ => False) s₁) (fun _ _ => False) s) E s₁) E s)
    (hs : ∀ x, foldedSetIterable iter env x = pure x := by intro _; with_unfolding_all exact rfl) :
    wpAny (model prog w) A (execs (.For target iter body [] pos :: rest) env) Q E s := by
  refine wpAny_execs_cons ?_
  rw [exec_For]
  refine wpAny_bind (wpAny_standAt (wpAny_bind (wpAny_mono h (fun xv s₁ h₁ => ?_) fun _ _ e => e)))
  rw [hs]
  refine wpAny_bind (wpAny_pure (wpAny_bind (wpAny_standAt (wpAny_bind (wpAny_holding (wpAny_mono h₁ (fun it s₂ h₂ => ?_) fun _ _ e => e))))))
  obtain ⟨I, n, h0, turn⟩ := h₂
  refine wpAny_runOwn (codeAny_forLoop_any I (fun n s hI => ?_) n h0)
  refine wpAny_mono (turn n s hI) (fun r s₁ h₁ => ?_) fun _ _ e => e.elim
  cases r with
  | none => exact wpAny_execs_nil h₁
  | some v =>
    refine wpAny_mono h₁ (fun _ s₁' h₁' => wpAny_mono h₁' (fun _ s₂ h₂ => wpAny_mono h₂ (fun f s₃ h₃ => ?_) fun _ _ e => e.elim) fun _ _ e => e.elim) fun _ _ e => e.elim
    cases f <;> exact h₃
/-- the loop's own look at the iterator's tuple: nothing for a list's iterator -/
theorem goT {elts : List Expr} {x1 : Nat} {pos : Pos} {I l : Addr} {i : Nat} {E : Value → Shared → Prop} {Q : Unit → Shared → Prop} (v : Value) (hit : s.heap.IsListIter I l i) (hQ : Q () s) :
    wpAny (model prog w) A (letOwnedTupleGo (.Tuple elts x1 pos) (.ref I) v) Q E s := by
  cases v with
  | ref T => exact wpAny_letOwnedTupleGo_listiter hit hQ
  | _ => exact wpAny_pure hQ
end
end
section
open PySem.W.KBy Builtin

abbrev slcO (lv uv : Value) : Obj := { cls := .type "slice", data := .fields #[lv, uv, .none] }
abbrev tupO (vs : List Value) : Obj := { cls := .type "tuple", data := .seq vs.toArray }

theorem filterMap_range (l : List UInt8) (i n : Nat) : (List.range n).filterMap (fun k => l[i + k]?) = (l.drop i).take n := by
  induction n with
  | zero => simp
  | succ n ih =>
    rw [List.range_succ, List.filterMap_append, ih, List.take_add_one]
    congr 1
    simp only [List.filterMap_cons, List.filterMap_nil, List.getElem?_drop]
    cases l[i + n]? <;> rfl

theorem ite_yes {c : Prop} [Decidable c] {X Y : Prop} (hc : c) (h : X) : if c then X else Y := by rw [if_pos hc]; exact h

section
variable {prog : Program} {w : World} {M : Model} {A : Around} {E : Value → Shared → Prop} {K : Frag} {g : Heap} {L : Addr} {o : OsState} {s : Shared} {m : Str → Option Value} {news news' : List (Addr × Obj)}
variable {name : Str} {scope : Scope} {a : Addr} {cd : Value} {env : Env}

theorem xSliceLU {l u : Expr} {p : Pos} {Q : Value → Shared → Prop} (h : wpAny M A (eval l env) (fun lv s₁ => wpAny M A (eval u env) (fun uv s₂ => wpAny M A (newFields "slice" [lv, uv, .none]) Q E s₂) E s₁) E s) :
    wpAny M A (eval (.Slice (some l) (some u) none p) env) Q E s := by
  rw [arm_eval_Slice]
  exact wpAny_bind (wpAny_mono h (fun l s₁ h₁ => wpAny_bind (wpAny_holding (wpAny_mono h₁ (fun u s₂ h₂ => wpAny_bind (wpAny_holding (wpAny_pure h₂))) fun _ _ x => x))) fun _ _ x => x)
theorem xSliceL {l : Expr} {p : Pos} {Q : Value → Shared → Prop} (h : wpAny M A (eval l env) (fun lv s₁ => wpAny M A (newFields "slice" [lv, .none, .none]) Q E s₁) E s) :
    wpAny M A (eval (.Slice (some l) none none p) env) Q E s := by
  rw [arm_eval_Slice]
  exact wpAny_bind (wpAny_mono h (fun l s₁ h₁ => wpAny_bind (wpAny_holding (wpAny_pure (wpAny_bind (wpAny_holding (wpAny_pure h₁)))))) fun _ _ x => x)
theorem xSliceU {u : Expr} {p : Pos} {Q : Value → Shared → Prop} (h : wpAny M A (eval u env) (fun uv s₁ => wpAny M A (newFields "slice" [.none, uv, .none]) Q E s₁) E s) :
    wpAny M A (eval (.Slice none (some u) none p) env) Q E s := by
  rw [arm_eval_Slice]
  exact wpAny_bind (wpAny_pure (wpAny_bind (wpAny_holding (wpAny_mono h (fun u s₂ h₂ => wpAny_bind (wpAny_holding (wpAny_pure h₂))) fun _ _ x => x))))
theorem xNewSl (C : Cx K g L o s m news) {lv uv : Value} {Q : Value → Shared → Prop} (h : ∀ D s', Cx K g L o s' m ((D, slcO lv uv) :: news) → Q (.ref D) s') : wpAny M A (newFields "slice" [lv, uv, .none]) Q E s :=
  wpAny_newObj_type (h _ _ (C.push (tk := s.toks) _))

theorem meets_slice_any (b : Array UInt8) (t : Tok) (a : Addr) {l u : Value} {lo hi : Option Int} (hl : IsPart l lo) (hu : IsPart u hi) :
    Meets («bytes.__getitem__» ⟨[.bytes b t, .ref a], []⟩) (fun _ R s => s.heap.IsSliceOf a l u .none ∧ (picked b lo hi).size ≤ sizeLine ∧ (∀ t' k, R (.ok (.ret (.bytes (if whole b lo hi then b else picked b lo hi) t'))) { s with toks := k })) := by
  refine .of_wp fun prog w A R s hS => ?_
  obtain ⟨⟨o, ho, hc, hd⟩, hsz, h⟩ := hS
  have hT : s.TypeIs (.ref a) "slice" := ⟨o, ho, hc⟩
  show wpAny _ _ (Bytes.payload (.bytes b t) >>= fun r => _) _ _ s
  refine wpAny_bind (wpAny_of_eq (a := b) rfl ?_)
  show wpAny _ _ (Bytes.subscript? (.ref a) >>= fun r => _) _ _ s
  refine wpAny_bind ?_
  unfold Bytes.subscript?
  refine wpAny_bind (wpAny_specialOf hT slice_no_index (wpAny_pure ?_))
  refine wpAny_bind (wpAny_typeOf hT ?_)
  show wpAny _ _ (Bytes.sliceParts (.ref a) >>= fun r => _) _ _ s
  refine wpAny_bind ?_
  unfold Bytes.sliceParts
  refine wpAny_bind (wpAny_field (x := .none) ho hd rfl ?_)
  kby_none
  refine wpAny_ite (ite_no (show ¬ ((Value.none == rawInt 0) = true) from Bool.false_ne_true) ?_)
  refine wpAny_bind (wpAny_field (x := l) ho hd rfl ?_)
  have go : wpAny (model prog w) A.in1 (sliceIndices (rawPart lo) (rawPart hi) (rawPart none) b.size) (fun r s' => r = sliceBounds lo hi none b.size ∧ s' = s) (fun _ _ => False) s :=
    wpAny_of_eq (sliceIndices_raw lo hi none b.size (fun e => nomatch e)) ⟨rfl, rfl⟩
  cases hl <;> cases hu <;> (first
    | (kby_none; (refine wpAny_bind (wpAny_field (x := .none) ho hd rfl ?_)); kby_none)
    | (kby_none; (refine wpAny_bind (wpAny_field (x := .int _ _) ho hd rfl ?_)); kby_int)
    | (kby_int; (refine wpAny_bind (wpAny_field (x := .none) ho hd rfl ?_)); kby_none)
    | (kby_int; (refine wpAny_bind (wpAny_field (x := .int _ _) ho hd rfl ?_)); kby_int)) <;> refine wpAny_pure ?_
  all_goals
    refine wpAny_bind (wpAny_mono go (fun r s' hr => ?_) fun _ _ e => e.elim)
    obtain ⟨hr1, hr2⟩ := hr
    subst hr1 hr2
    cases hw : whole b _ _ with
    | false =>
      rw [hw] at h
      have hn := ne_true_of_eq_false hw
      refine wpAny_ite (ite_no hn ?_)
      exact wpAny_bind (wpAny_mkBytes (wpAny_pure ⟨_, rfl, h _ _⟩) hsz)
    | true =>
      rw [hw] at h
      refine wpAny_ite (ite_yes hw ?_)
      refine wpAny_bind (wpAny_typeOf (typeIs_bytes _ _ _) ?_)
      refine wpAny_ite (ite_yes rfl ?_)
      exact wpAny_bind (wpAny_rule (wpAny_bind (wpAny_pure (wpAny_pure ⟨_, rfl, h t _⟩))))
end

theorem sliced_list (l : List UInt8) (i j : Nat) : Bytes.sliced l.toArray i j 1 = ((l.drop i).take (j - i)).toArray := by
  unfold Bytes.sliced
  rw [sliceRange_one, List.filterMap_map]
  congr 1
  rw [← filterMap_range]
  congr 1
  funext x
  simp
/-- l[lo:hi] -/
def cut (l : List UInt8) (lo hi : Option Int) : List UInt8 := (l.drop (lo.getD 0).toNat).take ((hi.getD l.length).toNat - (lo.getD 0).toNat)
theorem picked_cut (l : List UInt8) (lo hi : Option Int) (h0 : 0 ≤ lo.getD 0) (h1 : 0 ≤ hi.getD 0) : picked l.toArray lo hi = (cut l lo hi).toArray := by
  have e1 : ∃ i : Nat, (sliceBounds lo hi none l.length).1 = (i : Int) ∧ i = min (lo.getD 0).toNat l.length := by
    refine ⟨_, ?_, rfl⟩
    cases lo with
    | none => simp [sliceBounds]
    | some x =>
      simp only [sliceBounds, Option.getD_some, Option.getD_none] at *
      simp only [show ¬ x < 0 by omega, if_false, show ((1 : Int) > 0) = True from eq_true (by decide), if_true]
      omega
  have e2 : ∃ j : Nat, (sliceBounds lo hi none l.length).2.1 = (j : Int) ∧ j = min (hi.getD l.length).toNat l.length := by
    refine ⟨_, ?_, rfl⟩
    cases hi with
    | none => simp [sliceBounds]
    | some x =>
      simp only [sliceBounds, Option.getD_some, Option.getD_none] at *
      simp only [show ¬ x < 0 by omega, if_false, show ((1 : Int) > 0) = True from eq_true (by decide), if_true]
      omega
  obtain ⟨i, a1, a2⟩ := e1
  obtain ⟨j, b1, b2⟩ := e2
  unfold picked
  rw [List.size_toArray, a1, b1, show (sliceBounds lo hi none l.length).2.2 = 1 from rfl, sliced_list]
  congr 1
  unfold cut
  by_cases c : (lo.getD 0).toNat ≤ l.length
  · have : i = (lo.getD 0).toNat := by omega
    rw [this]
    by_cases d : (hi.getD l.length).toNat ≤ l.length
    · have : j = (hi.getD l.length).toNat := by omega
      rw [this]
    · have : j = l.length := by omega
      rw [this, List.take_of_length_le (by rw [List.length_drop]; omega), List.take_of_length_le (by rw [List.length_drop]; omega)]
  · rw [List.drop_eq_nil_of_le (by omega), List.drop_eq_nil_of_le (by omega)]; simp
theorem whole_cut (l : List UInt8) (lo hi : Option Int) (h0 : 0 ≤ lo.getD 0) (h1 : 0 ≤ hi.getD 0) : (if whole l.toArray lo hi then l.toArray else picked l.toArray lo hi) = (cut l lo hi).toArray := by
  rw [picked_cut l lo hi h0 h1]
  split
  · rename_i hw
    unfold whole at hw
    simp only [Bool.and_eq_true, beq_iff_eq, List.size_toArray] at hw
    obtain ⟨⟨⟨q1, _⟩, q2⟩, _⟩ := hw
    have p : picked l.toArray lo hi = l.toArray := by
      unfold picked
      rw [List.size_toArray, q1, q2, show (sliceBounds lo hi none l.length).2.2 = 1 from rfl]
      have := sliced_list l 0 l.length
      simpa using this
    rw [← picked_cut l lo hi h0 h1, p]
  · rfl
theorem cut_length (l : List UInt8) (lo hi : Option Int) : (cut l lo hi).length ≤ l.length := by unfold cut; simp; omega

section
variable {prog : Program} {w : World} {M : Model} {A : Around} {E : Value → Shared → Prop} {K : Frag} {g : Heap} {L : Addr} {o : OsState} {s : Shared} {m : Str → Option Value} {news news' : List (Addr × Obj)}
variable {name : Str} {scope : Scope} {a : Addr} {cd : Value} {env : Env}
theorem xSubB {lv uv : Value} (C : Cx K g L o s m ((a, slcO lv uv) :: news)) {value slice : Expr} {l : List UInt8} {t : Tok} {lo hi : Option Int} {Q : Value → Shared → Prop}
    (hl : IsPart lv lo) (hu : IsPart uv hi) (h0 : 0 ≤ lo.getD 0) (h1 : 0 ≤ hi.getD 0) (hz : l.length ≤ 1000000)
    (hs : subscripted slice false (.bytes l.toArray t) (.ref a) = operate [.ref a, .bytes l.toArray t] (getItem (.bytes l.toArray t) (.ref a))) (h : ∀ t' s', Cx K g L o s' m news → Q (.bytes (cut l lo hi).toArray t') s') :
    wpAny (model prog w) A (subscriptTail value slice (.bytes l.toArray t) (.ref a)) Q E s := by
  refine tail_any (typeIs_bytes _ _ _) FB.slot_bytes_getitem.lookup (getItem_meets (typeIs_bytes _ _ _) (by decide) FB.slot_bytes_getitem FB.entry_bytes_getitem (FB.args_bytes_getitem_2 _ _) (meets_slice_any l.toArray t _ hl hu)
    ⟨⟨slcO lv uv, C.get (.head _), rfl, rfl⟩, ?_, fun t' k => ?_⟩) hs
  · rw [picked_cut l lo hi h0 h1, sizeLine_eq, List.size_toArray]; have := cut_length l lo hi; omega
  · rw [whole_cut l lo hi h0 h1]; exact h _ _ C.drop1.toks
theorem xSubB2 {i j : Int} {ti tj : Tok} (C : Cx K g L o s m ((a, slcO (.int i ti) (.int j tj)) :: news)) {value slice : Expr} {l : List UInt8} {t : Tok} {Q : Value → Shared → Prop}
    (h0 : 0 ≤ i) (h1 : 0 ≤ j) (hz : l.length ≤ 1000000)
    (hs : subscripted slice false (.bytes l.toArray t) (.ref a) = operate [.ref a, .bytes l.toArray t] (getItem (.bytes l.toArray t) (.ref a))) (h : ∀ t' s', Cx K g L o s' m news → Q (.bytes (cut l (some i) (some j)).toArray t') s') :
    wpAny (model prog w) A (subscriptTail value slice (.bytes l.toArray t) (.ref a)) Q E s := xSubB C (.int _ _) (.int _ _) h0 h1 hz hs h
theorem xSubB1 {i : Int} {ti : Tok} (C : Cx K g L o s m ((a, slcO (.int i ti) .none) :: news)) {value slice : Expr} {l : List UInt8} {t : Tok} {Q : Value → Shared → Prop}
    (h0 : 0 ≤ i) (hz : l.length ≤ 1000000)
    (hs : subscripted slice false (.bytes l.toArray t) (.ref a) = operate [.ref a, .bytes l.toArray t] (getItem (.bytes l.toArray t) (.ref a))) (h : ∀ t' s', Cx K g L o s' m news → Q (.bytes (cut l (some i) none).toArray t') s') :
    wpAny (model prog w) A (subscriptTail value slice (.bytes l.toArray t) (.ref a)) Q E s := xSubB C (.int _ _) .none h0 (Int.le_refl _) hz hs h
theorem xSubB0 {j : Int} {tj : Tok} (C : Cx K g L o s m ((a, slcO .none (.int j tj)) :: news)) {value slice : Expr} {l : List UInt8} {t : Tok} {Q : Value → Shared → Prop}
    (h1 : 0 ≤ j) (hz : l.length ≤ 1000000)
    (hs : subscripted slice false (.bytes l.toArray t) (.ref a) = operate [.ref a, .bytes l.toArray t] (getItem (.bytes l.toArray t) (.ref a))) (h : ∀ t' s', Cx K g L o s' m news → Q (.bytes (cut l none (some j)).toArray t') s') :
    wpAny (model prog w) A (subscriptTail value slice (.bytes l.toArray t) (.ref a)) Q E s := xSubB C .none (.int _ _) (Int.le_refl _) h1 hz hs h
theorem xLenB (C : Cx K g L o s m news) {l : List UInt8} {t : Tok} {Q : Value → Shared → Prop} (hz : l.length ≤ 1000000) (h : ∀ t s', Cx K g L o s' m news → Q (.int (l.length : Int) t) s') :
    wpAny (model prog w) A (call (.builtin "len") [.bytes l.toArray t] []) Q E s :=
  len_bytes (by rw [List.size_toArray]; omega) (by rw [List.size_toArray]; exact h _ _ C.toks)
theorem xEqB {l c : List UInt8} {t u : Tok} {Q : Value → Shared → Prop} (h : Q (.bool (l == c)) s) : wpAny (model prog w) A (compareOp .Eq (.bytes l.toArray t) (.bytes c.toArray u)) Q E s := eq_bytes h
theorem xNeB {l c : List UInt8} {t u : Tok} {Q : Value → Shared → Prop} (h : Q (.bool (l != c)) s) : wpAny (model prog w) A (compareOp .NotEq (.bytes l.toArray t) (.bytes c.toArray u)) Q E s := ne_bytes h
theorem xAddB (C : Cx K g L o s m news) {l c : List UInt8} {t u : Tok} {Q : Value → Shared → Prop} (hz : l.length + c.length ≤ 1000000) (h : ∀ t s', Cx K g L o s' m news → Q (.bytes (l ++ c).toArray t) s') :
    wpAny (model prog w) A (binaryOp .Add (.bytes l.toArray t) (.bytes c.toArray u)) Q E s :=
  add_bytes (by simp only [List.size_toArray]; omega) fun t' k => by rw [List.append_toArray]; exact h _ _ C.toks
theorem xItemB (C : Cx K g L o s m news) {value slice : Expr} {l : List UInt8} {t : Tok} {i : Int} {ui : Tok} {Q : Value → Shared → Prop} (hz : l.length ≤ 1000000) (h0 : 0 ≤ i) (h1 : i < (l.length : Int))
    (hs : subscripted slice false (.bytes l.toArray t) (.int i ui) = operate [.bytes l.toArray t, .int i ui] (getItem (.bytes l.toArray t) (.int i ui))) (h : ∀ t s', Cx K g L o s' m news → Q (.int ((l.getD i.toNat 0).toNat : Int) t) s') :
    wpAny (model prog w) A (subscriptTail value slice (.bytes l.toArray t) (.int i ui)) Q E s :=
  tail_any (typeIs_bytes _ _ _) FB.slot_bytes_getitem.lookup (getItem_bytes (by omega) h0 h1 (h _ _ C.toks)) hs
end
end
section
open Builtin
abbrev lstO (vs : List Value) (n : Nat) : Obj := listOf vs.toArray n

inductive PartsIn (news : List (Addr × Obj)) : List Value → List (Int × List UInt8) → Prop
  | nil : PartsIn news [] []
  | cons {a : Addr} {q : Int} {t u : Tok} {d : List UInt8} {vs ps} : (a, tupO [.int q t, .bytes d.toArray u]) ∈ news → PartsIn news vs ps → PartsIn news (.ref a :: vs) ((q, d) :: ps)
theorem PartsIn.mono {news news' : List (Addr × Obj)} {vs ps} (h : PartsIn news vs ps) (hs : ∀ p ∈ news, p ∈ news') : PartsIn news' vs ps := by
  induction h with
  | nil => exact .nil
  | cons hm _ ih => exact .cons (hs _ hm) ih
theorem PartsIn.length {news : List (Addr × Obj)} {vs ps} (h : PartsIn news vs ps) : vs.length = ps.length := by
  induction h with
  | nil => rfl
  | cons _ _ ih => simp [ih]
theorem PartsIn.append {news : List (Addr × Obj)} {vs ps vs' ps'} (h : PartsIn news vs ps) (h' : PartsIn news vs' ps') : PartsIn news (vs ++ vs') (ps ++ ps') := by
  induction h with
  | nil => exact h'
  | cons hm _ ih => exact .cons hm ih
theorem PartsIn.get {news : List (Addr × Obj)} {vs ps} (h : PartsIn news vs ps) : ∀ (i : Nat) (v : Value), vs[i]? = some v → ∃ a q t u d, v = .ref a ∧ ps[i]? = some (q, d) ∧ (a, tupO [.int q t, .bytes d.toArray u]) ∈ news := by
  induction h with
  | nil => intro i v h; simp at h
  | cons hm _ ih =>
    intro i v h
    cases i with
    | zero => simp at h; subst h; exact ⟨_, _, _, _, _, rfl, rfl, hm⟩
    | succ i => exact ih i v (by simpa using h)

section
variable {prog : Program} {w : World} {M : Model} {A : Around} {E : Value → Shared → Prop} {K : Frag} {g : Heap} {L : Addr} {o : OsState} {s : Shared} {m : Str → Option Value} {news news' : List (Addr × Obj)}
variable {name : Str} {scope : Scope} {a : Addr} {cd : Value} {env : Env} {D D2 : Addr} {vs ws : List Value} {n n2 : Nat} {value slice : Expr}

theorem tPlain {e : Expr} {whole : Sem Value} {Q : Bool → Shared → Prop} (h : wpAny M A whole (fun v s₁ => wpAny M A (truthy v) Q E s₁) E s)
    (he : isTrue e env whole = (do let v ← whole; standAt e.pos; holding [v] (truthy v)) := by with_unfolding_all exact rfl) : wpAny M A (isTrue e env whole) Q E s := isTrue_plain h he
theorem xNone {v : Value} {Q : Value → Shared → Prop} (h : Q (.bool (v == .none)) s) : wpAny M A (compareOp .Is v .none) Q E s := is_none h
theorem xNotNone {v : Value} {Q : Value → Shared → Prop} (h : Q (.bool (!(v == .none))) s) : wpAny M A (compareOp .IsNot v .none) Q E s := isNot_none h
theorem Cx.isList (C : Cx K g L o s m news) (h : (D, lstO vs n) ∈ news) : s.heap.IsList D vs.toArray := ⟨_, C.get h, rfl, _, rfl⟩
theorem Cx.isTup (C : Cx K g L o s m news) (h : (D, tupO vs) ∈ news) : IsTup s.heap D vs.toArray := ⟨_, C.get h, rfl, 0, rfl⟩

theorem xMethL {nm : Str} {id : String} {pl : Sem Bool} {Q : Value × List Value → Shared → Prop} (C : Cx K g L o s m news) (hm : (D, lstO vs n) ∈ news) (slot : Slot "list" nm id) (hty : typeOf (.builtin id) = pure (.type "method_descriptor"))
    (h : Q (.builtin id, [.ref D]) s) : wpAny (model prog w) A (getMethod (.ref D) nm pl) Q E s := kl_method C.nw hm slot hty h
theorem xMethApp {pl : Sem Bool} {Q : Value × List Value → Shared → Prop} (C : Cx K g L o s m news) (hm : (D, lstO vs n) ∈ news) (h : Q (.builtin "list.append", [.ref D]) s) : wpAny (model prog w) A (getMethod (.ref D) "append" pl) Q E s :=
  xMethL C hm PySem.F.slot_list_append PySem.F.type_list_append h
theorem xMethPop {pl : Sem Bool} {Q : Value × List Value → Shared → Prop} (C : Cx K g L o s m news) (hm : (D, lstO vs n) ∈ news) (h : Q (.builtin "list.pop", [.ref D]) s) : wpAny (model prog w) A (getMethod (.ref D) "pop" pl) Q E s :=
  xMethL C hm PySem.F.slot_list_pop PySem.F.type_list_pop h
theorem xAppend {x : Value} {Q : Value → Shared → Prop} (C : Cx K g L o s m news) (U : At D (lstO vs n) (lstO (vs ++ [x]) (n + 1)) news news') (hz : vs.length ≤ 1000000)
    (h : ∀ s', Cx K g L o s' m news' → Q .none s') : wpAny (model prog w) A (call (.builtin "list.append") [.ref D, x] []) Q E s := by
  have e : (vs ++ [x]).toArray = vs.toArray.push x := by simp
  have V := U.upd C.nd
  rw [lstO, lstO, e] at V
  exact append_K C.fr C.nw V (fun h' F N => h _ (C.mk0 F N (by rw [U.map]; exact C.nd))) (by rw [List.size_toArray, sizeLine_eq]; omega)
theorem xPop0 {x : Value} {u : Tok} {Q : Value → Shared → Prop} (C : Cx K g L o s m news) (U : At D (lstO (x :: vs) n) (lstO vs (n + 1)) news news') (hz : vs.length ≤ 1000000)
    (h : ∀ s', Cx K g L o s' m news' → Q x s') : wpAny (model prog w) A (call (.builtin "list.pop") [.ref D, .int 0 u] []) Q E s :=
  kl_popAt (p := []) (k := 0) C.fr C.nw rfl (by simp [seqIndex?]) rfl (U.upd C.nd) (by rw [sizeLine_eq]; show vs.length + 1 ≤ _; omega) (fun h' F N => h _ (C.mk0 F N (by rw [U.map]; exact C.nd)))
theorem xItemL {i : Int} {u : Tok} {x : Value} {Q : Value → Shared → Prop} (C : Cx K g L o s m news) (hm : (D, lstO vs n) ∈ news) (hx : vs[i.toNat]? = some x) (h0 : 0 ≤ i) (h1 : i < 1000000) 
    (hs : subscripted slice false (.ref D) (.int i u) = operate [.ref D, .int i u] (getItem (.ref D) (.int i u))) (h : Q x s) :
    wpAny (model prog w) A (subscriptTail value slice (.ref D) (.int i u)) Q E s :=
  tail_any (C.isList hm).typeIs slot_list_getitem.lookup (wpAny_getItem_list (C.isList hm) h0 (by omega) (by simpa using hx) h) hs
theorem xItemLast {u : Tok} {x : Value} {Q : Value → Shared → Prop} (C : Cx K g L o s m news) (hm : (D, lstO (vs ++ [x]) n) ∈ news) 
    (hs : subscripted slice false (.ref D) (.int (-1) u) = operate [.ref D, .int (-1) u] (getItem (.ref D) (.int (-1) u))) (h : Q x s) :
    wpAny (model prog w) A (subscriptTail value slice (.ref D) (.int (-1) u)) Q E s :=
  tail_any (C.isList hm).typeIs slot_list_getitem.lookup (wpAny_getItem_list_neg (C.isList hm) (by decide) (by simp; omega) (by decide) (by
    have e : ((-1 : Int) + ((vs ++ [x]).toArray.size : Int)).toNat = vs.length := by simp; omega
    rw [e]; simp) h) hs
theorem xSetLast {u : Tok} {x y : Value} {Q : Unit → Shared → Prop} (C : Cx K g L o s m news) (U : At D (lstO (vs ++ [x]) n) (lstO (vs ++ [y]) n) news news') (h : ∀ s', Cx K g L o s' m news' → Q () s') :
    wpAny (model prog w) A (setItem (.ref D) (.int (-1) u) y) Q E s := by
  have hl := C.isList U.mem
  have ho := C.get U.mem
  unfold setItem
  try with_reducible refine wpAny_holding ?_
  first | refine wpAny_bind (wpAny_pure ?_) | skip
  refine wpAny_bind (wpAny_sequenceKey hl.typeIs (by decide) ?_)
  refine wpAny_bind (wpAny_callSpecial?_slot (name := Str.ofString "__setitem__") hl.typeIs slot_list_setitem
    (wpAny_call_entry slot_list_setitem hl.typeIs entry_list_setitem ?_ (args_list_setitem _ _ _)))
  show wpAny _ _ (Builtin.List.listSubscript? (.int (-1) u) >>= _) _ _ s
  refine wpAny_bind (wpAny_listSubscript_int (by decide) ?_)
  have hidx : seqIndex? (Int.negSucc 0) (vs ++ [x]).toArray.size = some vs.length := by
    have := seqIndex_neg (k := -1) (n := (vs ++ [x]).toArray.size) (by decide) (by simp; omega)
    rw [show Int.negSucc 0 = -1 from rfl, this]
    congr 1; simp; omega
  show wpAny _ _ ((Builtin.List.listItems (.ref D) >>= fun xs => pure ((seqIndex? (Int.negSucc 0) xs.size).bind fun i => xs[i]?.map (i, ·))) >>= _) _ _ s
  refine wpAny_bind (wpAny_bind ?_)
  show wpAny _ _ (seqItems? (.ref D) >>= _) _ _ s
  refine wpAny_bind (wpAny_seqItems ho rfl (wpAny_pure (wpAny_pure ?_)))
  rw [hidx]
  have hx : (vs ++ [x]).toArray[vs.length]? = some x := by simp
  simp only [Option.bind_some, hx, Option.map_some]
  show wpAny _ _ (setSeqItemAt D vs.length y >>= _) _ _ s
  refine wpAny_bind (wpAny_setSeqItemAt ho rfl ?_)
  have C' := C.upd (tk := s.toks) (f := Obj.mapSeq (·.setIfInBounds vs.length y)) U (by simp [Obj.mapSeq, lstO]) rfl
  first
    | exact wpAny_bind (wpAny_pure (wpAny_pure ⟨.none, rfl, wpAny_pure (h _ C')⟩))
    | exact wpAny_pure ⟨.none, rfl, wpAny_pure (h _ C')⟩
theorem xItemT {i : Int} {u : Tok} {x : Value} {Q : Value → Shared → Prop} (C : Cx K g L o s m news) (hm : (D, tupO vs) ∈ news) (hx : vs[i.toNat]? = some x) (h0 : 0 ≤ i) (h1 : i < vs.length) (hz : vs.length ≤ 1000) 
    (hs : subscripted slice false (.ref D) (.int i u) = operate [.ref D, .int i u] (getItem (.ref D) (.int i u))) (h : Q x s) :
    wpAny (model prog w) A (subscriptTail value slice (.ref D) (.int i u)) Q E s :=
  item_tupleT (C.isTup hm) (by omega) (by omega) (seqIndex_of h0 h1) hx h hs
theorem xAddL {Q : Value → Shared → Prop} (C : Cx K g L o s m news) (h1 : (D, lstO vs n) ∈ news) (h2 : (D2, lstO ws n2) ∈ news) (hz : vs.length + ws.length ≤ 1000000)
    (h : ∀ l s', Cx K g L o s' m ((l, lstO (vs ++ ws) 0) :: news) → Q (.ref l) s') : wpAny (model prog w) A (binaryOp .Add (.ref D) (.ref D2)) Q E s :=
  add_lists C.fr C.nw (C.isList h1) (C.isList h2) (fun h' F N => h _ _ (C.mk0 F N (nodup_cons_lt C.lt C.nd))) (by rw [sizeLine_eq]; omega)
theorem xListL {Q : Value → Shared → Prop} (C : Cx K g L o s m news) (h1 : (D, lstO vs n) ∈ news) (hz : vs.length ≤ 1000000)
    (h : ∀ l c s', Cx K g L o s' m ((l, lstO vs c) :: news) → Q (.ref l) s') : wpAny (model prog w) A (call (.type "list") [.ref D] []) Q E s :=
  kup_listOf (zs := vs) C.fr C.nw h1 rfl (fun l c h' F N lt => h l c _ (C.mk0 F N (nodup_cons_lt lt C.nd))) (by rw [sizeLine_eq]; show vs.length ≤ _; omega)
theorem xListT {Q : Value → Shared → Prop} (C : Cx K g L o s m news) (h1 : (D, tupO vs) ∈ news) (hz : vs.length ≤ 1000000)
    (h : ∀ l c s', Cx K g L o s' m ((l, lstO vs c) :: news) → Q (.ref l) s') : wpAny (model prog w) A (call (.type "list") [.ref D] []) Q E s :=
  kup_listOfT (zs := vs) C.fr C.nw h1 rfl (fun l c h' F N lt => h l c _ (C.mk0 F N (nodup_cons_lt lt C.nd))) (by rw [sizeLine_eq]; show vs.length ≤ _; omega)
theorem xEqNil {Q : Value → Shared → Prop} (C : Cx K g L o s m ((D2, lstO [] n2) :: news)) (h1 : (D, lstO vs n) ∈ news) (hA : Room A 1) (h : Cx K g L o s m news → Q (.bool vs.isEmpty) s) : wpAny (model prog w) A (compareOp .Eq (.ref D) (.ref D2)) Q E s := by
  have hu : A.units < cLine := by have := hA.u; show A.units < 9900; omega
  have l1 := C.isList (.tail _ h1)
  have l2 := C.isList (.head _)
  cases vs with
  | nil => exact SeqAt.eq_listAt (e := fun _ => true) l1 l2 rfl hu (fun j h => (nomatch h)) (h C.drop1)
  | cons x r => exact SeqAt.eq_list_lengthsAt l1 l2 rfl hu (h C.drop1)
theorem xNeNil {Q : Value → Shared → Prop} (C : Cx K g L o s m ((D2, lstO [] n2) :: news)) (h1 : (D, lstO vs n) ∈ news) (hA : Room A 1) (h : Cx K g L o s m news → Q (.bool (!vs.isEmpty)) s) : wpAny (model prog w) A (compareOp .NotEq (.ref D) (.ref D2)) Q E s := by
  have hu : A.units < cLine := by have := hA.u; show A.units < 9900; omega
  have l1 := C.isList (.tail _ h1)
  have l2 := C.isList (.head _)
  show wpAny _ _ (richCompare .NotEq _ _) _ _ _
  cases vs with
  | nil => exact SeqAt.RcNeAt.lists (e := fun _ => true) l1 l2 rfl hu (fun j h => (nomatch h)) prog w E Q (h C.drop1)
  | cons x r => exact SeqAt.RcNeAt.lists_lengths l1 l2 rfl hu prog w E Q (h C.drop1)

theorem xUnp {x y : Value} {n1 n2 : Str} {p1 p2 pos : Pos} {k : Nat} {Q : Unit → Shared → Prop} (C : Cx K g L o s m news) (hm : (a, tupO [x, y]) ∈ news) (hh : A.handled = none)
    (h : ∀ s', Cx K g L o s' m news → wpAny (model prog w) A (storeName env n1 x) (fun _ s₁ => wpAny (model prog w) A (storeName env n2 y) Q E s₁) E s') :
    wpAny (model prog w) A (assign (.Tuple [.Name n1 p1, .Name n2 p2] k pos) env (.ref a)) Q E s := by
  refine unpackN_ C.fr C.nw (C.isTup hm) hh rfl rfl fun h' F N => ?_
  have h := h _ (C.mk0 F N C.nd)
  show wpAny _ _ (do holding [y] (assign (.Name n1 p1) env x); assignInOrder [fun v => assign (.Name n2 p2) env v] [y]) _ _ _
  refine wpAny_bind (wpAny_holding (assign_Name (wpAny_mono h (fun _ s₁ h₁ => ?_) fun _ _ e => e)))
  show wpAny _ _ (do holding [] (assign (.Name n2 p2) env y); assignInOrder [] []) _ _ _
  exact wpAny_bind (wpAny_holding (assign_Name (wpAny_mono h₁ (fun _ s₂ h₂ => wpAny_pure h₂) fun _ _ e => e)))
theorem xSwap {x y : Value} {n1 n2 : Str} {Q : Unit → Shared → Prop} (C : Cx K g L o s m ((a, tupO [x, y]) :: news)) (hh : A.handled = none)
    (h : ∀ s', Cx K g L o s' m news → wpAny (model prog w) A (storeName env n2 y) (fun _ s₁ => wpAny (model prog w) A (storeName env n1 x) Q E s₁) E s') :
    wpAny (model prog w) A (unpackItems (.ref a) [n1, n2].length none) (fun items s₂ => wpAny (model prog w) A (assignInOrder ([n1, n2].reverse.map fun n => bindName env n) items.reverse) Q E s₂) E s := by
  refine unpackItems_tuple (items := #[x, y]) hh (C.isTup (.head _)) fun h' he => ?_
  have h := h _ (C.drop1.mk0 (C.fr.extBut he (Nat.le_refl _)) (C.drop1.nw.extBut he (Nat.le_refl _)) C.drop1.nd)
  show wpAny _ _ (do holding [x] (bindName env n2 y); assignInOrder [fun v => bindName env n1 v] [x]) _ _ _
  refine wpAny_bind (wpAny_holding (bindName_ (wpAny_mono h (fun _ s₁ h₁ => ?_) fun _ _ e => e)))
  show wpAny _ _ (do holding [] (bindName env n1 x); assignInOrder [] []) _ _ _
  exact wpAny_bind (wpAny_holding (bindName_ (wpAny_mono h₁ (fun _ s₂ h₂ => wpAny_pure h₂) fun _ _ e => e)))
end
end
section
abbrev LL := List (Str × Value)
abbrev lj (P junk : LL) : Str → Option Value := lk (P ++ junk)
def agree (l : List (Str × Value)) : List (Str × Value) → Prop
  | [] => True
  | (x, v) :: P => l.lookup x = some v ∧ agree l P
theorem lk_pres (P l : List (Str × Value)) (h : agree l P) : lk l = lk (P ++ l) := by
  funext y
  unfold lk
  induction P with
  | nil => rfl
  | cons p P ih =>
    obtain ⟨x, v⟩ := p
    show List.lookup y l = List.lookup y ((x, v) :: (P ++ l))
    rw [List.lookup_cons]
    by_cases e : y = x
    · subst e; simp [h.1]
    · have : (y == x) = false := by simpa using e
      rw [this]; exact ih h.2
theorem Cx.norm {K : Frag} {g : Heap} {L : Addr} {o : OsState} {s : Shared} {l : LL} {news : List (Addr × Obj)} (C : Cx K g L o s (lk l) news) (P : LL) (h : agree l P) : Cx K g L o s (lj P l) news := C.map (lk_pres P l h)
theorem Cx.rot2 {K : Frag} {g : Heap} {L : Addr} {o : OsState} {s : Shared} {m : Str → Option Value} {a b : Addr × Obj} {l : List (Addr × Obj)} (C : Cx K g L o s m (a :: b :: l)) : Cx K g L o s m (b :: a :: l) := C.perm (List.Perm.swap _ _ _)
theorem Cx.rot3 {K : Frag} {g : Heap} {L : Addr} {o : OsState} {s : Shared} {m : Str → Option Value} {a b c : Addr × Obj} {l : List (Addr × Obj)} (C : Cx K g L o s m (a :: b :: c :: l)) : Cx K g L o s m (b :: c :: a :: l) :=
  C.perm ((List.Perm.cons _ (List.Perm.swap _ _ _)).trans (List.Perm.swap _ _ _))
section
variable {prog : Program} {w : World} {A : Around} {K : Frag} {g : Heap} {L : Addr} {o : OsState} {s : Shared} {env : Env} {rest body : List Stmt} {Q : Flow → Shared → Prop} {pos : Pos} {target iter : Expr} {D : Addr} {vs : List Value} {n : Nat}

/-- dropping an entry whose object has changed -/
theorem Cx.lose {m : Str → Option Value} {news : List (Addr × Obj)} {I : Addr} {ob : Obj} {h' : Heap} {tk : Nat} (C : Cx K g L o s m ((I, ob) :: news)) (e : Heap.ExtBut I s.heap h') : Cx K g L o { s with heap := h', toks := tk } m news := by
  have z := C.nw (I, ob) (.head _)
  have nd := C.nd
  rw [List.map_cons, List.nodup_cons] at nd
  refine ⟨C.st, ⟨C.fr.ns.extBut e z.2.1.symm, fun b x q => e b x (fun h => by rw [h, z.2.2] at q; cases q) (C.fr.keep b x q), C.fr.above⟩, fun p hp => ?_, nd.2, C.gn, C.os⟩
  have P := C.nw p (.tail _ hp)
  exact ⟨e _ _ (fun h => nd.1 (List.mem_map.mpr ⟨p, hp, h⟩)) P.1, P.2⟩

theorem sForL {m0 : Str → Option Value} {led0 : List (Addr × Obj)} {s0 : Shared} (C0 : Cx K g L o s0 m0 led0) (hm0 : (D, lstO vs n) ∈ led0) (J : Nat → (Str → Option Value) → List (Addr × Obj) → Prop) (hh : A.handled = none)
    (h : ∀ QI : Value → Shared → Prop, (∀ m led s₁, Cx K g L o s₁ m led → (D, lstO vs n) ∈ led → J 0 m led → QI (.ref D) s₁) → wpAny (model prog w) A (eval iter env) QI (fun _ _ => False) s)
    (turn : ∀ i I ob (QB : Flow → Shared → Prop), (∀ f m' led' s₃, f = .next ∨ f = .cont → Cx K g L o s₃ m' ((I, ob) :: led') → (D, lstO vs n) ∈ led' → J (i + 1) m' led' → QB f s₃) → (∀ s₃, wpAny (model prog w) A (execs rest env) Q (fun _ _ => False) s₃ → QB .brk s₃) → (∀ v s₃, Q (.ret v) s₃ → QB (.ret v) s₃) → ∀ v m led s, vs[i]? = some v → J i m led → (D, lstO vs n) ∈ led → Cx K g L o s m ((I, ob) :: led) →
      wpAny (model prog w) A (assign target env v) (fun _ s₂ => wpAny (model prog w) A (execs body env) QB (fun _ _ => False) s₂) (fun _ _ => False) s)
    (done : ∀ m led s, J vs.length m led → Cx K g L o s m led → wpAny (model prog w) A (execs rest env) Q (fun _ _ => False) s)
    (hs : ∀ x, foldedSetIterable iter env x = pure x := by intro _; with_unfolding_all exact rfl) (ht : ∀ (I : Addr) (i : Nat) (v : Value) (s : Shared) (Q : Unit → Shared → Prop), s.heap.IsListIter I D i → Q () s → wpAny (model prog w) A (letOwnedTupleGo target (.ref I) v) Q (fun _ _ => False) s := by first | exact fun _ _ v _ _ h1 h2 => goT v h1 h2 | exact fun _ _ _ _ _ _ h2 => wpAny_pure h2) :
    wpAny (model prog w) A (execs (.For target iter body [] pos :: rest) env) Q (fun _ _ => False) s := by
  refine sFor (wpAny_mono (h (fun xv s₁ => xv = .ref D ∧ ∃ m led, Cx K g L o s₁ m led ∧ (D, lstO vs n) ∈ led ∧ J 0 m led) fun m led s₁ a b c => ⟨rfl, m, led, a, b, c⟩) (fun xv s₁ h₁ => ?_) fun _ _ e => e) hs
  obtain ⟨rfl, m, led, C, hm, hJ⟩ := h₁
  refine wpAny_pyIter_list (C.isList hm) ?_
  have C₁ := C.push (tk := s₁.toks) { cls := .type "list_iterator", data := .fields #[.ref D, .int 0 0] }
  refine ⟨fun k s => ∃ i m led ob, k = vs.length + 1 - i ∧ i ≤ vs.length ∧ ob.cls = .type "list_iterator" ∧ ob.data = .fields #[.ref D, .int (i : Nat) 0] ∧ Cx K g L o s m ((s₁.heap.objs.size, ob) :: led) ∧ (D, lstO vs n) ∈ led ∧ J i m led,
    vs.length + 1, ⟨0, m, led, _, rfl, Nat.zero_le _, rfl, rfl, C₁, hm, hJ⟩, ?_⟩
  rintro k s ⟨i, m, led, ob, rfl, hi, hc, hd, C, hm, hJ⟩
  have hit : s.heap.IsListIter s₁.heap.objs.size D i := ⟨ob, C.get (.head _), hc, hd⟩
  have hl := C.isList (.tail _ hm)
  by_cases hlt : i < vs.length
  · refine wpAny_pyNext_list_item hit hl (x := vs[i]) (by simp [hlt]) fun h' hit' hs' => ?_
    obtain ⟨ob', ho', hc', hd'⟩ := hit'
    have C' : Cx K g L o { s with heap := h', toks := s.toks } m ((s₁.heap.objs.size, ob') :: led) := C.but .head hs' ho'
    refine ht _ _ _ _ _ ⟨ob', ho', hc', hd'⟩ ?_
    refine wpAny_mono (turn i _ ob' (fun f s₃ => match f with
        | .next | .cont => ∃ m' led', Cx K g L o s₃ m' ((s₁.heap.objs.size, ob') :: led') ∧ (D, lstO vs n) ∈ led' ∧ J (i + 1) m' led'
        | .brk => wpAny (model prog w) A (execs rest env) Q (fun _ _ => False) s₃
        | .ret v => Q (.ret v) s₃) (fun f m' led' s₃ hf h1 h2 h3 => by rcases hf with rfl | rfl <;> exact ⟨m', led', h1, h2, h3⟩) (fun _ h => h) (fun _ _ h => h) vs[i] m led _ (by simp [hlt]) hJ hm C') (fun _ s₂ h₂ => wpAny_mono h₂ (fun f s₃ h₃ => ?_) fun _ _ e => e) fun _ _ e => e
    cases f with
    | next => obtain ⟨m', led', C'', hm', hJ'⟩ := h₃; exact ⟨vs.length + 1 - (i + 1), by omega, i + 1, m', led', ob', rfl, hlt, hc', hd', C'', hm', hJ'⟩
    | cont => obtain ⟨m', led', C'', hm', hJ'⟩ := h₃; exact ⟨vs.length + 1 - (i + 1), by omega, i + 1, m', led', ob', rfl, hlt, hc', hd', C'', hm', hJ'⟩
    | brk => exact h₃
    | ret v => exact h₃
  · have hin : i = vs.length := by omega
    subst hin
    refine wpAny_pyNext_list_end hh hit hl (by simp) fun h' he' => ?_
    exact done m led _ hJ (C.lose (tk := s.toks) he')
theorem sForB {m0 : Str → Option Value} {led0 : List (Addr × Obj)} {s0 : Shared} (C0 : Cx K g L o s0 m0 led0) (hm0 : (D, lstO vs n) ∈ led0) (J : Nat → (Str → Option Value) → List (Addr × Obj) → Prop) (X : (Str → Option Value) → List (Addr × Obj) → Prop) (hh : A.handled = none)
    (h : ∀ QI : Value → Shared → Prop, (∀ m led s₁, Cx K g L o s₁ m led → (D, lstO vs n) ∈ led → J 0 m led → QI (.ref D) s₁) → wpAny (model prog w) A (eval iter env) QI (fun _ _ => False) s)
    (turn : ∀ i I ob (QB : Flow → Shared → Prop), (∀ f m' led' s₃, f = .next ∨ f = .cont → Cx K g L o s₃ m' ((I, ob) :: led') → (D, lstO vs n) ∈ led' → J (i + 1) m' led' → QB f s₃) → (∀ m' led' s₃, Cx K g L o s₃ m' ((I, ob) :: led') → X m' led' → QB .brk s₃) → (∀ v s₃, Q (.ret v) s₃ → QB (.ret v) s₃) → ∀ v m led s, vs[i]? = some v → J i m led → (D, lstO vs n) ∈ led → Cx K g L o s m ((I, ob) :: led) →
      wpAny (model prog w) A (assign target env v) (fun _ s₂ => wpAny (model prog w) A (execs body env) QB (fun _ _ => False) s₂) (fun _ _ => False) s)
    (last : ∀ m led, J vs.length m led → X m led)
    (done : ∀ m led s, X m led → Cx K g L o s m led → wpAny (model prog w) A (execs rest env) Q (fun _ _ => False) s)
    (hs : ∀ x, foldedSetIterable iter env x = pure x := by intro _; with_unfolding_all exact rfl) (ht : ∀ (I : Addr) (i : Nat) (v : Value) (s : Shared) (Q : Unit → Shared → Prop), s.heap.IsListIter I D i → Q () s → wpAny (model prog w) A (letOwnedTupleGo target (.ref I) v) Q (fun _ _ => False) s := by first | exact fun _ _ v _ _ h1 h2 => goT v h1 h2 | exact fun _ _ _ _ _ _ h2 => wpAny_pure h2) :
    wpAny (model prog w) A (execs (.For target iter body [] pos :: rest) env) Q (fun _ _ => False) s := by
  exact sForL C0 hm0 J hh h (fun i I ob QB hN hB hR v m led s h1 h2 h3 C => turn i I ob QB hN (fun m' led' s₃ C' hX => hB s₃ (done m' led' s₃ hX C'.drop1)) hR v m led s h1 h2 h3 C) (fun m led s hJ C => done m led s (last m led hJ) C) hs ht
end
end
section
section
variable {M : Model} {A : Around} {E : Value → Shared → Prop} {s : Shared}
theorem gX {l : List Stmt} {env : Env} {Q : Flow → Shared → Prop} (h : wpAny M A (execs l env) Q E s) : wpAny M A (execs l env) Q E s := h
theorem gE {e : Expr} {env : Env} {Q : Value → Shared → Prop} (h : wpAny M A (eval e env) Q E s) : wpAny M A (eval e env) Q E s := h
theorem gNm {x : Str} {p : Pos} {env : Env} {Q : Value → Shared → Prop} (h : wpAny M A (eval (.Name x p) env) Q E s) : wpAny M A (eval (.Name x p) env) Q E s := h
theorem gC {op : CmpOp} {a b : Value} {Q : Value → Shared → Prop} (h : wpAny M A (compareOp op a b) Q E s) : wpAny M A (compareOp op a b) Q E s := h
theorem gB {op : Operator} {a b : Value} {Q : Value → Shared → Prop} (h : wpAny M A (binaryOp op a b) Q E s) : wpAny M A (binaryOp op a b) Q E s := h
theorem gS {x y : Expr} {a b : Value} {Q : Value → Shared → Prop} (h : wpAny M A (subscriptTail x y a b) Q E s) : wpAny M A (subscriptTail x y a b) Q E s := h
theorem gW {p : Pos} {f : Value} {l : List Value} {as : List (Bool × Sem Value)} {ks} {Q : Value → Shared → Prop} (h : wpAny M A (callWith p f l as ks) Q E s) : wpAny M A (callWith p f l as ks) Q E s := h
theorem gL {f : Value} {l : List Value} {ks} {Q : Value → Shared → Prop} (h : wpAny M A (call f l ks) Q E s) : wpAny M A (call f l ks) Q E s := h
theorem gM {v : Value} {n : Str} {pl : Sem Bool} {Q : Value × List Value → Shared → Prop} (h : wpAny M A (getMethod v n pl) Q E s) : wpAny M A (getMethod v n pl) Q E s := h
theorem gG {v : Value} {n : Str} {ex : Bool} {Q : Value → Shared → Prop} (h : wpAny M A (getAttr v n ex) Q E s) : wpAny M A (getAttr v n ex) Q E s := h
theorem gSA {v x : Value} {n : Str} {Q : Unit → Shared → Prop} (h : wpAny M A (setAttr v n x) Q E s) : wpAny M A (setAttr v n x) Q E s := h
theorem gSI {v x i : Value} {Q : Unit → Shared → Prop} (h : wpAny M A (setItem v i x) Q E s) : wpAny M A (setItem v i x) Q E s := h
theorem gAs {t : Expr} {env : Env} {v : Value} {Q : Unit → Shared → Prop} (h : wpAny M A (assign t env v) Q E s) : wpAny M A (assign t env v) Q E s := h
theorem gN {env : Env} {x : Str} {v : Value} {Q : Unit → Shared → Prop} (h : wpAny M A (storeName env x v) Q E s) : wpAny M A (storeName env x v) Q E s := h
theorem gT {v : Value} {Q : Bool → Shared → Prop} (h : wpAny M A (truthy v) Q E s) : wpAny M A (truthy v) Q E s := h
theorem gI {e : Expr} {env : Env} {x : Sem Value} {Q : Bool → Shared → Prop} (h : wpAny M A (isTrue e env x) Q E s) : wpAny M A (isTrue e env x) Q E s := h
theorem gAr {as : List (Bool × Sem Value)} {Q : List Value → Shared → Prop} (h : wpAny M A (spliced as) Q E s) : wpAny M A (spliced as) Q E s := h
theorem gTu {vs : List Value} {Q : Value → Shared → Prop} (h : wpAny M A (newTuple vs) Q E s) : wpAny M A (newTuple vs) Q E s := h
theorem gLi {vs : List Value} {Q : Value → Shared → Prop} (h : wpAny M A (newList vs) Q E s) : wpAny M A (newList vs) Q E s := h
theorem At.app {d : Addr} {ob ob' : Obj} {l l' : List (Addr × Obj)} (h : At d ob ob' l l') : ∀ T, At d ob ob' (T ++ l) (T ++ l')
  | [] => h
  | _ :: T => .tail (h.app T)
theorem xNeI {prog : Program} {w : World} {x y : Int} {t u : Tok} {Q : Value → Shared → Prop} (h : Q (.bool (x != y)) s) : wpAny (model prog w) A (compareOp .NotEq (.int x t) (.int y u)) Q E s := ne_int h
/-- an if whose two ways meet again in P -/
theorem sIfJ (P : Shared → Prop) {test : Expr} {body orelse rest : List Stmt} {pos : Pos} {env : Env} {Q : Flow → Shared → Prop}
    (h : ∀ QB : Flow → Shared → Prop, (∀ s, P s → QB .next s) → wpAny M A (isTrue test env (eval test env)) (fun b s₂ => (b = true → wpAny M A (execs body env) QB E s₂) ∧ (b = false → wpAny M A (execs orelse env) QB E s₂)) E s)
    (hr : ∀ s, P s → wpAny M A (execs rest env) Q E s) : wpAny M A (execs (.If test body orelse pos :: rest) env) Q E s := by
  have key : ∀ {l : List Stmt} {s₂ : Shared}, wpAny M A (execs l env) (fun f s => f = .next ∧ P s) E s₂ → wpAny M A (execs (l ++ rest) env) Q E s₂ := by
    intro l s₂ h
    rw [execs_append]
    refine wpAny_bind (wpAny_mono h (fun f s₃ h₃ => ?_) fun _ _ e => e)
    obtain ⟨rfl, h₃⟩ := h₃
    exact hr _ h₃
  exact sIf (wpAny_mono (h _ fun s h => ⟨rfl, h⟩) (fun b s₂ h₂ => ⟨fun e => key (h₂.1 e), fun e => key (h₂.2 e)⟩) fun _ _ e => e)
end
end
section
section
variable {M : Model} {A : Around} {E : Value → Shared → Prop} {K : Frag} {g : Heap} {L : Addr} {o : OsState} {s : Shared} {m : Str → Option Value} {news : List (Addr × Obj)} {name : Str} {scope : Scope} {a : Addr} {cd : Value} {x : Str} {v : Value} {p pos : Pos}
theorem zArgL {rest : List Expr} {Q : List Value → Shared → Prop} (C : Cx K g L o s m news) (hv : m x = some v) (h : wpAny M A (spliced (backTo pos (starEach rest (envOf name scope L a cd)))) (fun vs s₂ => Q (v :: vs) s₂) E s)
    (hk : scope.kind = .function := by with_unfolding_all exact rfl) (hl : (envOf name scope L a cd).kindOf x = some .local := by with_unfolding_all exact rfl) (hd : (x == ("__debug__" : Str)) = false := by with_unfolding_all decide) :
    wpAny M A (spliced (backTo pos (starEach (.Name x p :: rest) (envOf name scope L a cd)))) Q E s := xArg (xLocal C hv h hk hl hd) rfl
theorem zBinL {op : Operator} {b : Expr} {Q : Value → Shared → Prop} (C : Cx K g L o s m news) (hv : m x = some v) (h : wpAny M A (eval b (envOf name scope L a cd)) (fun bv s₂ => wpAny M A (binaryOp op v bv) Q E s₂) E s)
    (hk : scope.kind = .function := by with_unfolding_all exact rfl) (hl : (envOf name scope L a cd).kindOf x = some .local := by with_unfolding_all exact rfl) (hd : (x == ("__debug__" : Str)) = false := by with_unfolding_all decide) :
    wpAny M A (eval (.BinOp (.Name x p) op b pos) (envOf name scope L a cd)) Q E s := wpAny_BinOp (xLocal C hv h hk hl hd)
theorem zAttL {prog : Program} {w : World} {nm : Str} {Q : Value → Shared → Prop} (C : Cx K g L o s m news) (hv : m x = some v) (h : wpAny (model prog w) A (getAttr v nm true) Q E s)
    (hk : scope.kind = .function := by with_unfolding_all exact rfl) (hl : (envOf name scope L a cd).kindOf x = some .local := by with_unfolding_all exact rfl) (hd : (x == ("__debug__" : Str)) = false := by with_unfolding_all decide) :
    wpAny (model prog w) A (eval (.Attribute (.Name x p) nm pos) (envOf name scope L a cd)) Q E s := Attribute_any_ (xLocal C hv h hk hl hd)
end
end
set_option hygiene false in
local macro_rules | `(tactic| wtm_at "0") => `(tactic| (clear C; intro C))
set_option hygiene false in
local macro_rules | `(tactic| wtm_at "3") => `(tactic| (clear C; intro D t1 t2 t3 s C))
set_option hygiene false in
local macro_rules | `(tactic| wtm_at "c") => `(tactic| (clear C; intro D c s C))
set_option hygiene false in
local macro_rules | `(tactic| wtm_at "D") => `(tactic| (clear C; intro D s C))
set_option hygiene false in
local macro_rules | `(tactic| wtm_at "1") => `(tactic| (clear C; intro s C))
set_option hygiene false in
local macro_rules | `(tactic| wtm_at "2") => `(tactic| (clear C; intro t s C))
set_option hygiene false in
local macro_rules | `(tactic| wtm_at "u") => `(tactic| (with_unfolding_all exact rfl))
set_option hygiene false in
local macro_rules | `(tactic| wtm_at "d") => `(tactic| (with_unfolding_all exact of_decide_eq_true rfl))
set_option hygiene false in
local macro_rules | `(tactic| wtm_at "r") => `(tactic| (with_unfolding_all exact Room.le (Room.deeper hA _) (by decide)))
set_option hygiene false in
local macro_rules | `(tactic| wtm_at "h") => `(tactic| (with_unfolding_all exact Room.hh (Room.deeper hA _)))
local macro_rules | `(tactic| wtm_at "ag") => `(tactic| first | exact trivial | (refine ⟨rfl, ?_⟩; wtm_at "ag"))
local macro_rules | `(tactic| wtm_at "mm") => `(tactic| first | assumption | exact List.mem_cons_self | (refine List.mem_cons_of_mem _ ?_; wtm_at "mm") | (refine List.mem_append_right _ ?_; wtm_at "mm") | (refine List.mem_append_left _ ?_; wtm_at "mm"))
local macro_rules | `(tactic| wtm_at "at") => `(tactic| first | assumption | exact At.head | (apply At.tail; wtm_at "at") | (apply At.app; wtm_at "at"))
set_option hygiene false in
local macro_rules | `(tactic| wtm_at "m") => `(tactic| with_reducible first
  | (refine gX ?_; first
      | refine sApp ?_
      | refine sApp0 ?_
      | refine sAsg ?_
      | refine sIf ?_
      | refine sRet ?_
      | refine sExpr ?_
      | refine sAsgA ?_
      | refine sAsgS ?_
      | refine sNil ?_
      | refine sRet0 ?_
      | refine sCont ?_
      | refine sBrk ?_
      | refine sAsgW (names := [_, _]) (by wtm_at "u") ?_
      | refine sAsgT ?_
    )
  | (refine gNm ?_; first
      | refine xLocal C (by wtm_at "u") ?_
      | refine xGlob C (gAll (by wtm_at "u")) ?_
      | refine xBiT C (by wtm_at "u") ?_
      | refine yLocal C (by wtm_at "u") ?_
      | refine yGlob C (gAll (by wtm_at "u")) ?_
      | refine yBiT C (by wtm_at "u") ?_
      | refine yCell C (by wtm_at "mm") HC (by wtm_at "u") ?_
    )
  | (refine gE ?_; first
      | refine zBinL C (by wtm_at "u") ?_
      | refine zAttL C (by wtm_at "u") ?_
      | (refine xInt C ?_; wtm_at "2")
      | refine Attribute_any_ ?_
      | refine xMCall ?_
      | refine xCall ?_
      | refine Subscript_ ?_
      | refine wpAny_BinOp ?_
      | refine wpAny_Compare1 ?_
      | (refine xStr C ?_; wtm_at "2")
      | (refine xByt C ?_; wtm_at "2")
      | refine Constant_none ?_
      | refine Constant_bool ?_
      | refine Tuple_ ?_
      | refine List_ ?_
      | refine xIfE ?_
      | refine xAnd ?_
      | refine xOr ?_
      | refine BoolOp_one ?_
      | refine UnaryOp_ ?_
      | refine xSliceLU ?_
      | refine xSliceL ?_
      | refine xSliceU ?_
    )
  | (refine gAr ?_; first
      | refine zArgL C (by wtm_at "u") ?_
      | refine xArg ?_
      | refine xArg0 ?_
    )
  | (refine gN ?_; first
      | ((first | refine xStore C ?_ | refine yStore C ?_); wtm_at "1")
    )
  | (refine gW ?_; first
      | refine xCallF C (kAll (by wtm_at "u")) ?_
      | refine xCallM C (kAll (by wtm_at "u")) ?_
      | refine xCallM0 C (kAll (by wtm_at "u")) ?_
      | refine xCallB ?_
      | refine xCallBM ?_
      | refine xCallT ?_
    )
  | (refine gG ?_; first
      | (refine aRing C (by wtm_at "mm") (by wtm_at "mm") ?_; wtm_at "1")
      | (refine aParts C (by wtm_at "mm") (by wtm_at "mm") ?_; wtm_at "1")
      | (refine r_ring C (by wtm_at "mm") (by wtm_at "mm") ?_; wtm_at "1")
      | (refine r_room C (by wtm_at "mm") (by wtm_at "mm") ?_; wtm_at "1")
      | (refine r_mss C (by wtm_at "mm") (by wtm_at "mm") ?_; wtm_at "1")
      | (refine r_next C (by wtm_at "mm") (by wtm_at "mm") ?_; wtm_at "1")
      | (refine r_ready C (by wtm_at "mm") (by wtm_at "mm") ?_; wtm_at "1")
      | (refine r_assembly C (by wtm_at "mm") (by wtm_at "mm") ?_; wtm_at "1")
      | (refine r_told_edge C (by wtm_at "mm") (by wtm_at "mm") ?_; wtm_at "1")
      | (refine r_fin_at C (by wtm_at "mm") (by wtm_at "mm") ?_; wtm_at "1")
      | (refine r_has_fin C (by wtm_at "mm") (by wtm_at "mm") ?_; wtm_at "1")
    )
  | (refine gM ?_; first
      | refine xMethApp C (by wtm_at "mm") ?_
      | refine xMethPop C (by wtm_at "mm") ?_
      | refine aMethA (by wtm_at "u") (by wtm_at "u") C (by wtm_at "mm") (by wtm_at "mm") ?_
      | refine rMethA (by wtm_at "u") (by wtm_at "u") C (by wtm_at "mm") (by wtm_at "mm") ?_
    )
  | (refine gB ?_; first
      | (refine xAdd C ?_; wtm_at "2")
      | (refine xSub C ?_; wtm_at "2")
      | (refine xFdiv C ?_ ?_ ?_; (· first | assumption | omega); (· first | assumption | omega); wtm_at "2")
      | (refine xMod C ?_ ?_; (· first | assumption | omega); wtm_at "2")
      | (refine xMul C ?_ ?_; (· first | assumption | exact mulOkR (by wtm_at "d") (by wtm_at "d") | exact mulOkL (by wtm_at "d") (by wtm_at "d") | exact mulOkL (by omega) (by omega)); wtm_at "2")
      | (refine xAddB C ?_ ?_; (· first | omega | (simp at *; omega)); wtm_at "2")
      | (refine xAddL C (by wtm_at "mm") (by wtm_at "mm") ?_ ?_; (· first | omega | (simp at *; omega)); wtm_at "D")
      | (refine xMulB1 C ?_ ?_ ?_; (· omega); (· omega); wtm_at "2")
      | (refine xPow C ?_ ?_ ?_ ?_; (· decide); (· decide); (· decide); wtm_at "2")
    )
  | (refine gI ?_; first
      | refine wpAny_isTrue_Compare1 ?_
      | refine isTrue_not ?_
      | refine tAnd ?_
      | refine tOr ?_
      | refine isTrue_and_nil ?_
      | refine isTrue_or_nil ?_
      | refine tPlain ?_
    )
  | (refine gC ?_; first
      | refine xEqI ?_
      | refine xLtI ?_
      | refine xGtI ?_
      | refine xLeI ?_
      | refine xGeI ?_
      | refine xNone ?_
      | refine xNotNone ?_
      | refine EqNone.eq_none_int ?_
      | refine EqNone.eq_int_none ?_
      | refine xNeB ?_
      | refine xNeI ?_
      | (refine xEqNil C (by wtm_at "mm") ?_ ?_; (· wtm_at "r"); wtm_at "0")
      | (refine xNeNil C (by wtm_at "mm") ?_ ?_; (· wtm_at "r"); wtm_at "0")
      | refine xBoolNe ?_
      | refine xBoolEq ?_
    )
  | (refine gS ?_; first
      | (refine xW0 HW C ?_ ?_ ?_; (· wtm_at "mm"); (· wtm_at "u"); wtm_at "1")
      | (refine xW1 HW C ?_ ?_ ?_; (· wtm_at "mm"); (· wtm_at "u"); wtm_at "1")
      | (refine xW2 HW C ?_ ?_ ?_; (· wtm_at "mm"); (· wtm_at "u"); wtm_at "1")
      | (refine xW3 HW C ?_ ?_ ?_; (· wtm_at "mm"); (· wtm_at "u"); wtm_at "1")
      | (refine xW4 HW C ?_ ?_ ?_; (· wtm_at "mm"); (· wtm_at "u"); wtm_at "1")
      | (refine xW5 HW C ?_ ?_ ?_; (· wtm_at "mm"); (· wtm_at "u"); wtm_at "1")
      | (refine xW6 HW C ?_ ?_ ?_; (· wtm_at "mm"); (· wtm_at "u"); wtm_at "1")
      | (refine xSubB2 C ?_ ?_ ?_ ?_ ?_; (· omega); (· omega); (· omega); (· wtm_at "u"); wtm_at "2")
      | (refine xSubB1 C ?_ ?_ ?_ ?_; (· omega); (· omega); (· wtm_at "u"); wtm_at "2")
      | (refine xSubB0 C ?_ ?_ ?_ ?_; (· omega); (· omega); (· wtm_at "u"); wtm_at "2")
      | (refine xItemL (x := ?_) C (by wtm_at "mm") ?_ ?_ ?_ ?_ ?_; rotate_left; (· wtm_at "u"); (· wtm_at "d"); (· wtm_at "d"); (· wtm_at "u"))
      | (refine xItemT (x := ?_) C (by wtm_at "mm") ?_ ?_ ?_ ?_ ?_ ?_; rotate_left; (· wtm_at "u"); (· wtm_at "d"); (· wtm_at "d"); (· wtm_at "d"); (· wtm_at "u"))
      | (refine xItemLast C (by wtm_at "mm") ?_ ?_; (· wtm_at "u"))
      | (refine xSubA1 C (by wtm_at "mm") ?_ ?_ ?_ ?_; (· omega); (· omega); (· wtm_at "u"); wtm_at "D")
      | (refine xSubA0 C (by wtm_at "mm") ?_ ?_ ?_ ?_; (· omega); (· omega); (· wtm_at "u"); wtm_at "D")
    )
  | (refine gL ?_; first
      | (refine xMax2 C ?_ ?_; (· wtm_at "h"); wtm_at "2")
      | (refine xMin2 C ?_ ?_; (· wtm_at "h"); wtm_at "2")
      | (refine xLenB C ?_ ?_; (· first | omega | (simp at *; omega)); wtm_at "2")
      | (refine xAppend C (by wtm_at "at") ?_ ?_; (· first | omega | (simp at *; omega)); wtm_at "1")
      | (refine xPop0 C (by wtm_at "at") ?_ ?_; (· first | omega | (simp at *; omega)); wtm_at "1")
      | (refine xListL C (by wtm_at "mm") ?_ ?_; (· first | omega | (simp at *; omega)); wtm_at "c")
      | (refine xLenA C (by wtm_at "mm") ?_ ?_; (· first | omega | (simp at *; omega)); wtm_at "2")
      | (refine xBytesA C (by wtm_at "mm") ?_ ?_; (· first | omega | (simp at *; omega)); wtm_at "2")
      | refine xBytesB ?_
      | (refine xRange1 C ?_; wtm_at "3")
      | (refine xRange2 C ?_; wtm_at "3")
      | (refine xIntB C ?_; wtm_at "2")
    )
  | (refine gAs ?_; first
      | (refine xUnp C (by wtm_at "mm") ?_ ?_; (· wtm_at "h"); wtm_at "1")
      | refine assign_Name ?_
      | (refine xUnp3 C (by wtm_at "mm") ?_ ?_; (· wtm_at "h"); wtm_at "1")
    )
  | (refine gSA ?_; first
      | (refine rs_next C (by wtm_at "mm") (by wtm_at "at") ?_; wtm_at "1")
      | (refine rs_ready C (by wtm_at "mm") (by wtm_at "at") ?_; wtm_at "1")
      | (refine rs_told_edge C (by wtm_at "mm") (by wtm_at "at") ?_; wtm_at "1")
      | (refine rs_fin_at C (by wtm_at "mm") (by wtm_at "at") ?_; wtm_at "1")
      | (refine rs_has_fin C (by wtm_at "mm") (by wtm_at "at") ?_; wtm_at "1")
      | (refine aSetParts C (by wtm_at "mm") (by wtm_at "at") ?_; wtm_at "1")
    )
  | (refine gSI ?_; first
      | (refine xSet2_0 C (by wtm_at "at") ?_; wtm_at "1")
      | (refine xSet2_1 C (by wtm_at "at") ?_; wtm_at "1")
      | (refine xSetLast C (by wtm_at "at") ?_; wtm_at "1")
    )
  | refine not_of ?_
  | (refine xNeg C ?_; wtm_at "2")
  | (refine gN ?_; (first | refine xStore C ?_ | refine yStore C ?_); wtm_at "1")
  | refine wpAny_truthy_bool ?_
  | (refine gAr ?_; first | refine xArg ?_ | refine xArg0 ?_)
  | (refine gTu ?_; refine xTup C ?_ ?_; (· wtm_at "d"); wtm_at "D")
  | (refine gLi ?_; refine xLst C ?_ ?_; (· wtm_at "d"); wtm_at "D")
  | (refine xNewSl C ?_; wtm_at "D")
  | refine And.intro (Cx.kin C) ?_
  | refine andT ?_
  | refine andF ?_
  | refine And.intro rfl ?_
  | (refine xSwap C ?_ ?_; (· wtm_at "h"); wtm_at "1")
  | refine pairTrees_cons_walk ?_
  | refine pairTrees_nil_walk ?_
  )
set_option hygiene false in
local macro_rules | `(tactic| wtm_at "g") => `(tactic| repeat wtm_at "m")
set_option hygiene false in
local macro_rules | `(tactic| wtm_at "gi") => `(tactic| repeat ((fail_if_success (with_reducible refine sIf ?_)); wtm_at "m"))

section
noncomputable abbrev KK (w : World) : Frag := KKp w.params
section
variable {w : World}
theorem gplus : nsIn (KK w) mainGlobals "plus" = some (some (.ref 28)) := by kernel_rfl!
theorem gdistance : nsIn (KK w) mainGlobals "distance" = some (some (.ref 35)) := by kernel_rfl!
theorem gis_before : nsIn (KK w) mainGlobals "is_before" = some (some (.ref 42)) := by kernel_rfl!
theorem gis_at_most : nsIn (KK w) mainGlobals "is_at_most" = some (some (.ref 49)) := by kernel_rfl!
theorem gAssembly : nsIn (KK w) mainGlobals "Assembly" = some (some (.ref 141)) := by kernel_rfl!
theorem gReceiver : nsIn (KK w) mainGlobals "Receiver" = some (some (.ref 275)) := by kernel_rfl!
theorem g_law_pool : nsIn (KK w) mainGlobals "_law_pool" = some (some (.ref 286)) := by kernel_rfl!
theorem g_law_take : nsIn (KK w) mainGlobals "_law_take" = some (some (.ref 293)) := by kernel_rfl!
theorem g_law_segment : nsIn (KK w) mainGlobals "_law_segment" = some (some (.ref 300)) := by kernel_rfl!
theorem g_law_twin : nsIn (KK w) mainGlobals "_law_twin" = some (some (.ref 307)) := by kernel_rfl!
theorem g_law_holes : nsIn (KK w) mainGlobals "_law_holes" = some (some (.ref 312)) := by kernel_rfl!
theorem g_law_window_right : nsIn (KK w) mainGlobals "_law_window_right" = some (some (.ref 319)) := by kernel_rfl!
theorem g_law_read_right : nsIn (KK w) mainGlobals "_law_read_right" = some (some (.ref 324)) := by kernel_rfl!
theorem g_law_step_right : nsIn (KK w) mainGlobals "_law_step_right" = some (some (.ref 331)) := by kernel_rfl!
theorem blen : nsIn (KK w) mainGlobals "len" = some none := by kernel_rfl!
theorem bmax : nsIn (KK w) mainGlobals "max" = some none := by kernel_rfl!
theorem bmin : nsIn (KK w) mainGlobals "min" = some none := by kernel_rfl!
theorem brange : nsIn (KK w) mainGlobals "range" = some none := by kernel_rfl!
theorem bbytes : nsIn (KK w) mainGlobals "bytes" = some none := by kernel_rfl!
theorem bbytearray : nsIn (KK w) mainGlobals "bytearray" = some none := by kernel_rfl!
theorem blist : nsIn (KK w) mainGlobals "list" = some none := by kernel_rfl!
theorem bint : nsIn (KK w) mainGlobals "int" = some none := by kernel_rfl!
theorem k28 : keepIn (KK w) (.ref 28) = true := by kernel_rfl!
theorem k35 : keepIn (KK w) (.ref 35) = true := by kernel_rfl!
theorem k42 : keepIn (KK w) (.ref 42) = true := by kernel_rfl!
theorem k49 : keepIn (KK w) (.ref 49) = true := by kernel_rfl!
theorem k141 : keepIn (KK w) (.ref 141) = true := by kernel_rfl!
theorem k275 : keepIn (KK w) (.ref 275) = true := by kernel_rfl!
theorem k286 : keepIn (KK w) (.ref 286) = true := by kernel_rfl!
theorem k293 : keepIn (KK w) (.ref 293) = true := by kernel_rfl!
theorem k300 : keepIn (KK w) (.ref 300) = true := by kernel_rfl!
theorem k307 : keepIn (KK w) (.ref 307) = true := by kernel_rfl!
theorem k312 : keepIn (KK w) (.ref 312) = true := by kernel_rfl!
theorem k319 : keepIn (KK w) (.ref 319) = true := by kernel_rfl!
theorem k324 : keepIn (KK w) (.ref 324) = true := by kernel_rfl!
theorem k331 : keepIn (KK w) (.ref 331) = true := by kernel_rfl!
theorem cAplain (n : Str) : plainGet (KK w) 141 n = true := by kernel_rfl!
theorem cAdict : hasDictIn (KK w) 141 = true := by kernel_rfl!
theorem cAset : findIn (KK w) (.ref 141) "__setattr__" = some (some (.builtin "object.__setattr__")) := by kernel_rfl!
theorem cAover : plainOver (KK w) 141 = true := by kernel_rfl!
theorem cAmakes : makesIn (KK w) 141 = true := by kernel_rfl!
theorem fA_ring : findIn (KK w) (.ref 141) "ring" = some none := by kernel_rfl!
theorem tA_ring : takerIn (KK w) 141 "ring" = some none := by kernel_rfl!
theorem fA_parts : findIn (KK w) (.ref 141) "parts" = some none := by kernel_rfl!
theorem tA_parts : takerIn (KK w) 141 "parts" = some none := by kernel_rfl!
theorem mA___init__ : findIn (KK w) (.ref 141) "__init__" = some (some (.ref 63)) := by kernel_rfl!
theorem i63 : isFn (KK w) (.ref 63) = true := by kernel_rfl!
theorem k63 : keepIn (KK w) (.ref 63) = true := by kernel_rfl!
theorem mA_is_empty : findIn (KK w) (.ref 141) "is_empty" = some (some (.ref 75)) := by kernel_rfl!
theorem i75 : isFn (KK w) (.ref 75) = true := by kernel_rfl!
theorem k75 : keepIn (KK w) (.ref 75) = true := by kernel_rfl!
theorem mA_offset : findIn (KK w) (.ref 141) "offset" = some (some (.ref 82)) := by kernel_rfl!
theorem i82 : isFn (KK w) (.ref 82) = true := by kernel_rfl!
theorem k82 : keepIn (KK w) (.ref 82) = true := by kernel_rfl!
theorem mA_put : findIn (KK w) (.ref 141) "put" = some (some (.ref 89)) := by kernel_rfl!
theorem i89 : isFn (KK w) (.ref 89) = true := by kernel_rfl!
theorem k89 : keepIn (KK w) (.ref 89) = true := by kernel_rfl!
theorem mA_missing : findIn (KK w) (.ref 141) "missing" = some (some (.ref 96)) := by kernel_rfl!
theorem i96 : isFn (KK w) (.ref 96) = true := by kernel_rfl!
theorem k96 : keepIn (KK w) (.ref 96) = true := by kernel_rfl!
theorem mA_merged : findIn (KK w) (.ref 141) "merged" = some (some (.ref 103)) := by kernel_rfl!
theorem i103 : isFn (KK w) (.ref 103) = true := by kernel_rfl!
theorem k103 : keepIn (KK w) (.ref 103) = true := by kernel_rfl!
theorem mA_joined : findIn (KK w) (.ref 141) "joined" = some (some (.ref 110)) := by kernel_rfl!
theorem i110 : isFn (KK w) (.ref 110) = true := by kernel_rfl!
theorem k110 : keepIn (KK w) (.ref 110) = true := by kernel_rfl!
theorem mA_forget : findIn (KK w) (.ref 141) "forget" = some (some (.ref 117)) := by kernel_rfl!
theorem i117 : isFn (KK w) (.ref 117) = true := by kernel_rfl!
theorem k117 : keepIn (KK w) (.ref 117) = true := by kernel_rfl!
theorem mA_take : findIn (KK w) (.ref 141) "take" = some (some (.ref 124)) := by kernel_rfl!
theorem i124 : isFn (KK w) (.ref 124) = true := by kernel_rfl!
theorem k124 : keepIn (KK w) (.ref 124) = true := by kernel_rfl!
theorem mA_holes : findIn (KK w) (.ref 141) "holes" = some (some (.ref 131)) := by kernel_rfl!
theorem i131 : isFn (KK w) (.ref 131) = true := by kernel_rfl!
theorem k131 : keepIn (KK w) (.ref 131) = true := by kernel_rfl!
theorem mA_cut_behind : findIn (KK w) (.ref 141) "cut_behind" = some (some (.ref 138)) := by kernel_rfl!
theorem i138 : isFn (KK w) (.ref 138) = true := by kernel_rfl!
theorem k138 : keepIn (KK w) (.ref 138) = true := by kernel_rfl!
theorem cRplain (n : Str) : plainGet (KK w) 275 n = true := by kernel_rfl!
theorem cRdict : hasDictIn (KK w) 275 = true := by kernel_rfl!
theorem cRset : findIn (KK w) (.ref 275) "__setattr__" = some (some (.builtin "object.__setattr__")) := by kernel_rfl!
theorem cRover : plainOver (KK w) 275 = true := by kernel_rfl!
theorem cRmakes : makesIn (KK w) 275 = true := by kernel_rfl!
theorem fR_ring : findIn (KK w) (.ref 275) "ring" = some none := by kernel_rfl!
theorem tR_ring : takerIn (KK w) 275 "ring" = some none := by kernel_rfl!
theorem fR_room : findIn (KK w) (.ref 275) "room" = some none := by kernel_rfl!
theorem tR_room : takerIn (KK w) 275 "room" = some none := by kernel_rfl!
theorem fR_mss : findIn (KK w) (.ref 275) "mss" = some none := by kernel_rfl!
theorem tR_mss : takerIn (KK w) 275 "mss" = some none := by kernel_rfl!
theorem fR_next : findIn (KK w) (.ref 275) "next" = some none := by kernel_rfl!
theorem tR_next : takerIn (KK w) 275 "next" = some none := by kernel_rfl!
theorem fR_ready : findIn (KK w) (.ref 275) "ready" = some none := by kernel_rfl!
theorem tR_ready : takerIn (KK w) 275 "ready" = some none := by kernel_rfl!
theorem fR_assembly : findIn (KK w) (.ref 275) "assembly" = some none := by kernel_rfl!
theorem tR_assembly : takerIn (KK w) 275 "assembly" = some none := by kernel_rfl!
theorem fR_told_edge : findIn (KK w) (.ref 275) "told_edge" = some none := by kernel_rfl!
theorem tR_told_edge : takerIn (KK w) 275 "told_edge" = some none := by kernel_rfl!
theorem fR_fin_at : findIn (KK w) (.ref 275) "fin_at" = some none := by kernel_rfl!
theorem tR_fin_at : takerIn (KK w) 275 "fin_at" = some none := by kernel_rfl!
theorem fR_has_fin : findIn (KK w) (.ref 275) "has_fin" = some none := by kernel_rfl!
theorem tR_has_fin : takerIn (KK w) 275 "has_fin" = some none := by kernel_rfl!
theorem fR_urgent_at : findIn (KK w) (.ref 275) "urgent_at" = some none := by kernel_rfl!
theorem tR_urgent_at : takerIn (KK w) 275 "urgent_at" = some none := by kernel_rfl!
theorem mR___init__ : findIn (KK w) (.ref 275) "__init__" = some (some (.ref 160)) := by kernel_rfl!
theorem i160 : isFn (KK w) (.ref 160) = true := by kernel_rfl!
theorem k160 : keepIn (KK w) (.ref 160) = true := by kernel_rfl!
theorem mR_free_edge : findIn (KK w) (.ref 275) "free_edge" = some (some (.ref 167)) := by kernel_rfl!
theorem i167 : isFn (KK w) (.ref 167) = true := by kernel_rfl!
theorem k167 : keepIn (KK w) (.ref 167) = true := by kernel_rfl!
theorem mR_should_tell : findIn (KK w) (.ref 275) "should_tell" = some (some (.ref 174)) := by kernel_rfl!
theorem i174 : isFn (KK w) (.ref 174) = true := by kernel_rfl!
theorem k174 : keepIn (KK w) (.ref 174) = true := by kernel_rfl!
theorem mR_told_window : findIn (KK w) (.ref 275) "told_window" = some (some (.ref 181)) := by kernel_rfl!
theorem i181 : isFn (KK w) (.ref 181) = true := by kernel_rfl!
theorem k181 : keepIn (KK w) (.ref 181) = true := by kernel_rfl!
theorem mR_window : findIn (KK w) (.ref 275) "window" = some (some (.ref 188)) := by kernel_rfl!
theorem i188 : isFn (KK w) (.ref 188) = true := by kernel_rfl!
theorem k188 : keepIn (KK w) (.ref 188) = true := by kernel_rfl!
theorem mR_arrive : findIn (KK w) (.ref 275) "arrive" = some (some (.ref 195)) := by kernel_rfl!
theorem i195 : isFn (KK w) (.ref 195) = true := by kernel_rfl!
theorem k195 : keepIn (KK w) (.ref 195) = true := by kernel_rfl!
theorem mR_let_in : findIn (KK w) (.ref 275) "let_in" = some (some (.ref 202)) := by kernel_rfl!
theorem i202 : isFn (KK w) (.ref 202) = true := by kernel_rfl!
theorem k202 : keepIn (KK w) (.ref 202) = true := by kernel_rfl!
theorem mR_note_fin : findIn (KK w) (.ref 275) "note_fin" = some (some (.ref 209)) := by kernel_rfl!
theorem i209 : isFn (KK w) (.ref 209) = true := by kernel_rfl!
theorem k209 : keepIn (KK w) (.ref 209) = true := by kernel_rfl!
theorem mR_ahead_of_fin : findIn (KK w) (.ref 275) "ahead_of_fin" = some (some (.ref 216)) := by kernel_rfl!
theorem i216 : isFn (KK w) (.ref 216) = true := by kernel_rfl!
theorem k216 : keepIn (KK w) (.ref 216) = true := by kernel_rfl!
theorem mR_gather : findIn (KK w) (.ref 275) "gather" = some (some (.ref 223)) := by kernel_rfl!
theorem i223 : isFn (KK w) (.ref 223) = true := by kernel_rfl!
theorem k223 : keepIn (KK w) (.ref 223) = true := by kernel_rfl!
theorem mR_has_holes : findIn (KK w) (.ref 275) "has_holes" = some (some (.ref 230)) := by kernel_rfl!
theorem i230 : isFn (KK w) (.ref 230) = true := by kernel_rfl!
theorem k230 : keepIn (KK w) (.ref 230) = true := by kernel_rfl!
theorem mR_available : findIn (KK w) (.ref 275) "available" = some (some (.ref 237)) := by kernel_rfl!
theorem i237 : isFn (KK w) (.ref 237) = true := by kernel_rfl!
theorem k237 : keepIn (KK w) (.ref 237) = true := by kernel_rfl!
theorem mR_read : findIn (KK w) (.ref 275) "read" = some (some (.ref 244)) := by kernel_rfl!
theorem i244 : isFn (KK w) (.ref 244) = true := by kernel_rfl!
theorem k244 : keepIn (KK w) (.ref 244) = true := by kernel_rfl!
theorem mR_is_over : findIn (KK w) (.ref 275) "is_over" = some (some (.ref 251)) := by kernel_rfl!
theorem i251 : isFn (KK w) (.ref 251) = true := by kernel_rfl!
theorem k251 : keepIn (KK w) (.ref 251) = true := by kernel_rfl!
end
end
section
theorem boot_len : bootBuiltins "len" = some (.builtin "len") := by decide +kernel
theorem boot_max : bootBuiltins "max" = some (.builtin "max") := by decide +kernel
theorem boot_min : bootBuiltins "min" = some (.builtin "min") := by decide +kernel
theorem boot_range : bootBuiltins "range" = some (.type "range") := by decide +kernel
theorem boot_bytes : bootBuiltins "bytes" = some (.type "bytes") := by decide +kernel
theorem boot_list : bootBuiltins "list" = some (.type "list") := by decide +kernel
theorem boot_int : bootBuiltins "int" = some (.type "int") := by decide +kernel
theorem boot_bytearray : bootBuiltins "bytearray" = some (.type "bytearray") := by decide +kernel
end
section
theorem mem_lookup {β : Type} {x : Str} {a : β} : ∀ {l : List (Str × β)}, l.lookup x = some a → (x, a) ∈ l
  | [], h => nomatch h
  | (y, b) :: l, h => by
    rw [List.lookup_cons] at h
    cases e : x == y with
    | true => rw [e] at h; cases h; rw [eq_of_beq e]; exact .head _
    | false => rw [e] at h; exact .tail _ (mem_lookup h)
def tG : List (Str × Addr) := [("plus", 28), ("distance", 35), ("is_before", 42), ("is_at_most", 49), ("Assembly", 141), ("Receiver", 275), ("_law_pool", 286), ("_law_take", 293), ("_law_segment", 300), ("_law_twin", 307), ("_law_holes", 312), ("_law_window_right", 319), ("_law_read_right", 324), ("_law_step_right", 331)]
def tA : List (Str × Addr) := [("is_empty", 75), ("offset", 82), ("put", 89), ("missing", 96), ("merged", 103), ("joined", 110), ("forget", 117), ("take", 124), ("holes", 131), ("cut_behind", 138)]
def tR : List (Str × Addr) := [("free_edge", 167), ("should_tell", 174), ("told_window", 181), ("window", 188), ("arrive", 195), ("let_in", 202), ("note_fin", 209), ("ahead_of_fin", 216), ("gather", 223), ("has_holes", 230), ("available", 237), ("read", 244), ("is_over", 251)]
def tB : List (Str × Value) := [("len", .builtin "len"), ("max", .builtin "max"), ("min", .builtin "min"), ("range", .type "range"), ("bytes", .type "bytes"), ("bytearray", .type "bytearray"), ("list", .type "list"), ("int", .type "int")]
def kF : List Addr := [28, 35, 42, 49, 286, 293, 300, 307, 312, 319, 324, 331, 75, 82, 89, 96, 103, 110, 117, 124, 131, 138, 167, 174, 181, 188, 195, 202, 209, 216, 223, 230, 237, 244, 251]
section
variable {prog : Program} {w : World} {M : Model} {A : Around} {E : Value → Shared → Prop} {g : Heap} {L : Addr} {o : OsState} {s : Shared} {m : Str → Option Value} {news : List (Addr × Obj)} {x : Str} {fa : Addr} {v : Value} {name : Str} {scope : Scope} {a : Addr} {cd : Value} {pos : Pos} {cl : List (Str × Addr)}
theorem gAll (h : tG.lookup x = some fa) : nsIn (KK w) mainGlobals x = some (some (.ref fa)) :=
  (show ∀ p ∈ tG, nsIn (KK w) mainGlobals p.1 = some (some (.ref p.2)) from List.forall_mem_cons.mpr ⟨gplus, List.forall_mem_cons.mpr ⟨gdistance, List.forall_mem_cons.mpr ⟨gis_before, List.forall_mem_cons.mpr ⟨gis_at_most, List.forall_mem_cons.mpr ⟨gAssembly, List.forall_mem_cons.mpr ⟨gReceiver, List.forall_mem_cons.mpr ⟨g_law_pool, List.forall_mem_cons.mpr ⟨g_law_take, List.forall_mem_cons.mpr ⟨g_law_segment, List.forall_mem_cons.mpr ⟨g_law_twin, List.forall_mem_cons.mpr ⟨g_law_holes, List.forall_mem_cons.mpr ⟨g_law_window_right, List.forall_mem_cons.mpr ⟨g_law_read_right, List.forall_mem_cons.mpr ⟨g_law_step_right, fun _ h => nomatch h⟩⟩⟩⟩⟩⟩⟩⟩⟩⟩⟩⟩⟩⟩) _ (mem_lookup h)
theorem kAll (h : kF.contains fa = true) : keepIn (KK w) (.ref fa) = true :=
  (show ∀ p ∈ kF, keepIn (KK w) (.ref p) = true from List.forall_mem_cons.mpr ⟨k28, List.forall_mem_cons.mpr ⟨k35, List.forall_mem_cons.mpr ⟨k42, List.forall_mem_cons.mpr ⟨k49, List.forall_mem_cons.mpr ⟨k286, List.forall_mem_cons.mpr ⟨k293, List.forall_mem_cons.mpr ⟨k300, List.forall_mem_cons.mpr ⟨k307, List.forall_mem_cons.mpr ⟨k312, List.forall_mem_cons.mpr ⟨k319, List.forall_mem_cons.mpr ⟨k324, List.forall_mem_cons.mpr ⟨k331, List.forall_mem_cons.mpr ⟨k75, List.forall_mem_cons.mpr ⟨k82, List.forall_mem_cons.mpr ⟨k89, List.forall_mem_cons.mpr ⟨k96, List.forall_mem_cons.mpr ⟨k103, List.forall_mem_cons.mpr ⟨k110, List.forall_mem_cons.mpr ⟨k117, List.forall_mem_cons.mpr ⟨k124, List.forall_mem_cons.mpr ⟨k131, List.forall_mem_cons.mpr ⟨k138, List.forall_mem_cons.mpr ⟨k167, List.forall_mem_cons.mpr ⟨k174, List.forall_mem_cons.mpr ⟨k181, List.forall_mem_cons.mpr ⟨k188, List.forall_mem_cons.mpr ⟨k195, List.forall_mem_cons.mpr ⟨k202, List.forall_mem_cons.mpr ⟨k209, List.forall_mem_cons.mpr ⟨k216, List.forall_mem_cons.mpr ⟨k223, List.forall_mem_cons.mpr ⟨k230, List.forall_mem_cons.mpr ⟨k237, List.forall_mem_cons.mpr ⟨k244, List.forall_mem_cons.mpr ⟨k251, fun _ h => nomatch h⟩⟩⟩⟩⟩⟩⟩⟩⟩⟩⟩⟩⟩⟩⟩⟩⟩⟩⟩⟩⟩⟩⟩⟩⟩⟩⟩⟩⟩⟩⟩⟩⟩⟩⟩) _ (List.contains_iff_mem.mp h)
theorem mAall (h : tA.lookup x = some fa) : findIn (KK w) (.ref 141) x = some (some (.ref fa)) ∧ isFn (KK w) (.ref fa) = true :=
  (show ∀ p ∈ tA, findIn (KK w) (.ref 141) p.1 = some (some (.ref p.2)) ∧ isFn (KK w) (.ref p.2) = true from List.forall_mem_cons.mpr ⟨⟨mA_is_empty, i75⟩, List.forall_mem_cons.mpr ⟨⟨mA_offset, i82⟩, List.forall_mem_cons.mpr ⟨⟨mA_put, i89⟩, List.forall_mem_cons.mpr ⟨⟨mA_missing, i96⟩, List.forall_mem_cons.mpr ⟨⟨mA_merged, i103⟩, List.forall_mem_cons.mpr ⟨⟨mA_joined, i110⟩, List.forall_mem_cons.mpr ⟨⟨mA_forget, i117⟩, List.forall_mem_cons.mpr ⟨⟨mA_take, i124⟩, List.forall_mem_cons.mpr ⟨⟨mA_holes, i131⟩, List.forall_mem_cons.mpr ⟨⟨mA_cut_behind, i138⟩, fun _ h => nomatch h⟩⟩⟩⟩⟩⟩⟩⟩⟩⟩) _ (mem_lookup h)
theorem mRall (h : tR.lookup x = some fa) : findIn (KK w) (.ref 275) x = some (some (.ref fa)) ∧ isFn (KK w) (.ref fa) = true :=
  (show ∀ p ∈ tR, findIn (KK w) (.ref 275) p.1 = some (some (.ref p.2)) ∧ isFn (KK w) (.ref p.2) = true from List.forall_mem_cons.mpr ⟨⟨mR_free_edge, i167⟩, List.forall_mem_cons.mpr ⟨⟨mR_should_tell, i174⟩, List.forall_mem_cons.mpr ⟨⟨mR_told_window, i181⟩, List.forall_mem_cons.mpr ⟨⟨mR_window, i188⟩, List.forall_mem_cons.mpr ⟨⟨mR_arrive, i195⟩, List.forall_mem_cons.mpr ⟨⟨mR_let_in, i202⟩, List.forall_mem_cons.mpr ⟨⟨mR_note_fin, i209⟩, List.forall_mem_cons.mpr ⟨⟨mR_ahead_of_fin, i216⟩, List.forall_mem_cons.mpr ⟨⟨mR_gather, i223⟩, List.forall_mem_cons.mpr ⟨⟨mR_has_holes, i230⟩, List.forall_mem_cons.mpr ⟨⟨mR_available, i237⟩, List.forall_mem_cons.mpr ⟨⟨mR_read, i244⟩, List.forall_mem_cons.mpr ⟨⟨mR_is_over, i251⟩, fun _ h => nomatch h⟩⟩⟩⟩⟩⟩⟩⟩⟩⟩⟩⟩⟩) _ (mem_lookup h)
theorem bAll (h : tB.lookup x = some v) : nsIn (KK w) mainGlobals x = some none ∧ bootBuiltins x = some v :=
  (show ∀ p ∈ tB, nsIn (KK w) mainGlobals p.1 = some none ∧ bootBuiltins p.1 = some p.2 from List.forall_mem_cons.mpr ⟨⟨blen, boot_len⟩, List.forall_mem_cons.mpr ⟨⟨bmax, boot_max⟩, List.forall_mem_cons.mpr ⟨⟨bmin, boot_min⟩, List.forall_mem_cons.mpr ⟨⟨brange, boot_range⟩, List.forall_mem_cons.mpr ⟨⟨bbytes, boot_bytes⟩, List.forall_mem_cons.mpr ⟨⟨bbytearray, boot_bytearray⟩, List.forall_mem_cons.mpr ⟨⟨blist, boot_list⟩, List.forall_mem_cons.mpr ⟨⟨bint, boot_int⟩, fun _ h => nomatch h⟩⟩⟩⟩⟩⟩⟩⟩) _ (mem_lookup h)
theorem xBiT (C : Cx (KK w) g L o s m news) {Q : Value → Shared → Prop} (e : tB.lookup x = some v) (h : Q v s) (hn : x ≠ "__name__" := by with_unfolding_all decide)
    (hk : scope.kind = .function := by with_unfolding_all exact rfl) (hx : (envOf name scope L a cd).kindOf x = some .globalImplicit := by with_unfolding_all exact rfl) (hd : (x == ("__debug__" : Str)) = false := by with_unfolding_all decide) :
    wpAny M A (eval (.Name x pos) (envOf name scope L a cd)) Q E s := xBi C (bAll e).1 (bAll (w := w) e).2 h hn hk hx hd
end
end
section
section
variable {prog : Program} {w : World} {A : Around} {g : Heap} {L : Addr} {o : OsState} {s : Shared} {m : Str → Option Value} {news : List (Addr × Obj)} {R : Result → Shared → Prop}
theorem plus_spec {a n r : Int} {ta tn tr : Tok} (C : Cx (KK w) g L o s m news) (hA : Room A 1) (hr : 0 < r) (k : ∀ t s', Cx (KK w) g L o s' m news → R (.ok (.ret (.int ((a + n) % r) t))) s') :
    codeAny (model prog w) A (.call (.ref 28) ⟨[.int a ta, .int n tn, .int r tr], []⟩) R s := by
  refine call_fn [("a", .int a ta), ("n", .int n tn), ("ring", .int r tr)] [("ring", .int r tr), ("n", .int n tn), ("a", .int a ta)] C hA.dep (by rfl) (by rfl) (BindsTo.of_eq rfl) (by rfl) (by rfl) ?_
  clear C
  intro g' L' s' C back
  wtm_at "g"
  exact k _ _ (back _ _ _ C)
theorem distance_spec {a n r : Int} {ta tn tr : Tok} (C : Cx (KK w) g L o s m news) (hA : Room A 1) (hr : 0 < r) (k : ∀ t s', Cx (KK w) g L o s' m news → R (.ok (.ret (.int ((n - a) % r) t))) s') :
    codeAny (model prog w) A (.call (.ref 35) ⟨[.int a ta, .int n tn, .int r tr], []⟩) R s := by
  refine call_fn [("a", .int a ta), ("b", .int n tn), ("ring", .int r tr)] [("ring", .int r tr), ("b", .int n tn), ("a", .int a ta)] C hA.dep (by rfl) (by rfl) (BindsTo.of_eq rfl) (by rfl) (by rfl) ?_
  clear C
  intro g' L' s' C back
  wtm_at "g"
  exact k _ _ (back _ _ _ C)
theorem before_spec {a b r : Int} {ta tb tr : Tok} (C : Cx (KK w) g L o s m news) (hA : Room A 2) (hr : 0 < r)
    (k : ∀ s', Cx (KK w) g L o s' m news → R (.ok (.ret (.bool (decide (0 < (b - a) % r) && decide (2 * ((b - a) % r) < r))))) s') :
    codeAny (model prog w) A (.call (.ref 42) ⟨[.int a ta, .int b tb, .int r tr], []⟩) R s := by
  refine call_fn [("a", .int a ta), ("b", .int b tb), ("ring", .int r tr)] [("ring", .int r tr), ("b", .int b tb), ("a", .int a ta)] C hA.dep (by rfl) (by rfl) (BindsTo.of_eq rfl) (by rfl) (by rfl) ?_
  clear C
  intro g' L' s' C back
  wtm_at "g"
  refine distance_spec C (hA.deeper _) hr ?_
  clear C
  intro t s C
  wtm_at "g"
  refine ⟨fun hb => ?_, fun hb => ?_⟩
  · wtm_at "g"
    rw [show decide (0 < (b - a) % r) = true from hb] at k
    exact k _ (back _ _ _ C)
  · rw [hb] at k ⊢
    exact k _ (back _ _ _ C)
theorem atmost_spec {a b r : Int} {ta tb tr : Tok} (C : Cx (KK w) g L o s m news) (hA : Room A 3) (hr : 0 < r)
    (k : ∀ s', Cx (KK w) g L o s' m news → R (.ok (.ret (.bool ((a == b) || (decide (0 < (b - a) % r) && decide (2 * ((b - a) % r) < r)))))) s') :
    codeAny (model prog w) A (.call (.ref 49) ⟨[.int a ta, .int b tb, .int r tr], []⟩) R s := by
  refine call_fn [("a", .int a ta), ("b", .int b tb), ("ring", .int r tr)] [("ring", .int r tr), ("b", .int b tb), ("a", .int a ta)] C hA.dep (by rfl) (by rfl) (BindsTo.of_eq rfl) (by rfl) (by rfl) ?_
  clear C
  intro g' L' s' C back
  wtm_at "g"
  refine ⟨fun hb => ?_, fun hb => ?_⟩
  · rw [hb] at k ⊢
    exact k _ (back _ _ _ C)
  · wtm_at "g"
    refine before_spec C (hA.deeper _) hr ?_
    clear C
    intro s C
    rw [hb] at k
    exact k _ (back _ _ _ C)
end
end
section
/-- the ring number of the place p -/
def W (f r p : Int) : Int := (f + p) % r
theorem W_sub {f r p q : Int} : (W f r q - W f r p) % r = (q - p) % r := by
  unfold W
  rw [← Int.sub_emod]
  congr 1; omega
theorem W_plus {f r p n : Int} : (W f r p + n) % r = W f r (p + n) := by
  unfold W
  rw [Int.emod_add_emod]
  congr 1; omega
theorem W_before {f r p q : Int} (hr : 256 ≤ r) (h : -128 < p - q ∧ p - q < 128) :
    (decide (0 < (W f r q - W f r p) % r) && decide (2 * ((W f r q - W f r p) % r) < r)) = decide (p < q) := by
  rw [W_sub]
  by_cases c : p < q
  · rw [Int.emod_eq_of_lt (by omega) (by omega)]
    simp only [c, decide_true, Bool.and_eq_true, decide_eq_true_eq]; omega
  · by_cases d : p = q
    · subst d; simp
    · have e : (q - p) % r = q - p + r := by
        rw [← Int.add_emod_right]; exact Int.emod_eq_of_lt (by omega) (by omega)
      rw [e]
      simp only [c, decide_false, Bool.and_eq_false_iff, decide_eq_false_iff_not]; omega
theorem W_inj {f r p q : Int} (hr : 256 ≤ r) (h : -128 < p - q ∧ p - q < 128) : (W f r p == W f r q) = decide (p = q) := by
  by_cases c : p = q
  · subst c; simp
  · rw [decide_eq_false c, beq_eq_false_iff_ne]
    intro e
    have := @W_sub f r p q
    rw [e, Int.sub_self, Int.zero_emod] at this
    by_cases d : p < q
    · rw [Int.emod_eq_of_lt (by omega) (by omega)] at this; omega
    · rw [← Int.add_emod_right, Int.emod_eq_of_lt (by omega) (by omega)] at this; omega
theorem W_atmost {f r p q : Int} (hr : 256 ≤ r) (h : -128 < p - q ∧ p - q < 128) :
    ((W f r p == W f r q) || (decide (0 < (W f r q - W f r p) % r) && decide (2 * ((W f r q - W f r p) % r) < r))) = decide (p ≤ q) := by
  rw [W_before hr h, W_inj hr h, ← Bool.decide_or]
  congr 1; exact propext (by omega)
section
variable {prog : Program} {w : World} {A : Around} {g : Heap} {L : Addr} {o : OsState} {s : Shared} {m : Str → Option Value} {news : List (Addr × Obj)} {R : Result → Shared → Prop}
variable {f r p q n : Int} {t u v : Tok}
theorem plusW (C : Cx (KK w) g L o s m news) (hA : Room A 1) (hr : 256 ≤ r) (k : ∀ t s', Cx (KK w) g L o s' m news → R (.ok (.ret (.int (W f r (p + n)) t))) s') :
    codeAny (model prog w) A (.call (.ref 28) ⟨[.int (W f r p) t, .int n u, .int r v], []⟩) R s :=
  plus_spec C hA (by omega) fun t s' C => by rw [W_plus]; exact k t s' C
theorem distW (C : Cx (KK w) g L o s m news) (hA : Room A 1) (hr : 256 ≤ r) (h : 0 ≤ q - p ∧ q - p < 128) (k : ∀ t s', Cx (KK w) g L o s' m news → R (.ok (.ret (.int (q - p) t))) s') :
    codeAny (model prog w) A (.call (.ref 35) ⟨[.int (W f r p) t, .int (W f r q) u, .int r v], []⟩) R s :=
  distance_spec C hA (by omega) fun t s' C => by rw [W_sub, Int.emod_eq_of_lt h.1 (by omega)]; exact k t s' C
theorem beforeW (C : Cx (KK w) g L o s m news) (hA : Room A 2) (hr : 256 ≤ r) (h : -128 < p - q ∧ p - q < 128) (k : ∀ s', Cx (KK w) g L o s' m news → R (.ok (.ret (.bool (decide (p < q))))) s') :
    codeAny (model prog w) A (.call (.ref 42) ⟨[.int (W f r p) t, .int (W f r q) u, .int r v], []⟩) R s :=
  before_spec C hA (by omega) fun s' C => by rw [W_before hr h]; exact k s' C
theorem atmostW (C : Cx (KK w) g L o s m news) (hA : Room A 3) (hr : 256 ≤ r) (h : -128 < p - q ∧ p - q < 128) (k : ∀ s', Cx (KK w) g L o s' m news → R (.ok (.ret (.bool (decide (p ≤ q))))) s') :
    codeAny (model prog w) A (.call (.ref 49) ⟨[.int (W f r p) t, .int (W f r q) u, .int r v], []⟩) R s :=
  atmost_spec C hA (by omega) fun s' C => by rw [W_atmost hr h]; exact k s' C
end

/-- an Assembly: its address, its dict's, its ring -/
structure AH where
  x : Addr
  dx : Addr
  t1 : Tok
  t2 : Tok
  tr : Tok
  ring : Int
def AH.es (w : World) (a : AH) (pl : Addr) : List DictEntry := [⟨PyData.keyHash w.params "ring", .str "ring" a.t1, .int a.ring a.tr⟩, ⟨PyData.keyHash w.params "parts", .str "parts" a.t2, .ref pl⟩]
section
variable {prog : Program} {w : World} {A : Around} {E : Value → Shared → Prop} {g : Heap} {L : Addr} {o : OsState} {s : Shared} {m : Str → Option Value} {news news' : List (Addr × Obj)} {a : AH} {pl pl' : Addr}
theorem aRing (C : Cx (KK w) g L o s m news) {expr : Bool} {Q : Value → Shared → Prop} (h1 : (a.x, instObj 141 a.dx) ∈ news) (h2 : (a.dx, dictOf (a.es w pl) 2) ∈ news) (h : ∀ s', Cx (KK w) g L o s' m news → Q (.int a.ring a.tr) s') :
    wpAny (model prog w) A (getAttr (.ref a.x) "ring" expr) Q E s := xAttr C h1 h2 rfl (cAplain _) cAdict fA_ring rfl rfl h
theorem aParts (C : Cx (KK w) g L o s m news) {expr : Bool} {Q : Value → Shared → Prop} (h1 : (a.x, instObj 141 a.dx) ∈ news) (h2 : (a.dx, dictOf (a.es w pl) 2) ∈ news) (h : ∀ s', Cx (KK w) g L o s' m news → Q (.ref pl) s') :
    wpAny (model prog w) A (getAttr (.ref a.x) "parts" expr) Q E s := xAttr C h1 h2 rfl (cAplain _) cAdict fA_parts rfl rfl h
theorem aSetParts (C : Cx (KK w) g L o s m news) {Q : Unit → Shared → Prop} (h1 : (a.x, instObj 141 a.dx) ∈ news) (U : At a.dx (dictOf (a.es w pl) 2) (dictOf (a.es w pl') 2) news news') (h : ∀ s', Cx (KK w) g L o s' m news' → Q () s') :
    wpAny (model prog w) A (setAttr (.ref a.x) "parts" (.ref pl')) Q E s :=
  xSetAttr C h1 rfl cAset cAover tA_parts cAdict (fun tk => rfl) U (by show 2 ≤ 1000; decide) h
theorem aMeth {nm : Str} {fa : Addr} (hf : findIn (KK w) (.ref 141) nm = some (some (.ref fa))) (ht : isFn (KK w) (.ref fa) = true) (hl : getL nm (a.es w pl) = some none) (C : Cx (KK w) g L o s m news) {pq : Sem Bool} {Q : Value × List Value → Shared → Prop}
    (h1 : (a.x, instObj 141 a.dx) ∈ news) (h2 : (a.dx, dictOf (a.es w pl) 2) ∈ news) (h : Q (.ref fa, [.ref a.x]) s) : wpAny (model prog w) A (getMethod (.ref a.x) nm pq) Q E s :=
  xMeth C h1 h2 hl (cAplain _) hf ht h
theorem aMethA {x : Str} {fa : Addr} (hf : tA.lookup x = some fa) (hl : getL x (a.es w pl) = some none) (C : Cx (KK w) g L o s m news) {pq : Sem Bool} {Q : Value × List Value → Shared → Prop}
    (h1 : (a.x, instObj 141 a.dx) ∈ news) (h2 : (a.dx, dictOf (a.es w pl) 2) ∈ news) (h : Q (.ref fa, [.ref a.x]) s) : wpAny (model prog w) A (getMethod (.ref a.x) x pq) Q E s := aMeth (mAall hf).1 (mAall hf).2 hl C h1 h2 h
end
end
section
section
variable {prog : Program} {w : World} {A : Around} {E : Value → Shared → Prop} {K : Frag} {g : Heap} {L : Addr} {o : OsState} {s : Shared} {m : Str → Option Value} {news : List (Addr × Obj)} {a b : Int} {t u : Tok}
theorem xMax2 (C : Cx K g L o s m news) {Q : Value → Shared → Prop} (hh : A.handled = none) (h : ∀ t s', Cx K g L o s' m news → Q (.int (max a b) t) s') : wpAny (model prog w) A (call (.builtin "max") [.int a t, .int b u]) Q E s :=
  max_two_N hh C.fr C.nw fun h' tk F N => by
    have e : (if b > a then b else a) = max a b := by rw [Int.max_def]; split <;> split <;> omega
    rw [e]; exact h _ _ (C.mk' F N C.nd)
theorem xMin2 (C : Cx K g L o s m news) {Q : Value → Shared → Prop} (hh : A.handled = none) (h : ∀ t s', Cx K g L o s' m news → Q (.int (min a b) t) s') : wpAny (model prog w) A (call (.builtin "min") [.int a t, .int b u]) Q E s :=
  min_two_N hh C.fr C.nw fun h' tk F N => by
    have e : (if b < a then b else a) = min a b := by rw [Int.min_def]; split <;> split <;> omega
    rw [e]; exact h _ _ (C.mk' F N C.nd)
theorem xFdiv (C : Cx K g L o s m news) {Q : Value → Shared → Prop} (hb : 0 < b) (hb2 : b < 1000000000000) (h : ∀ t s', Cx K g L o s' m news → Q (.int (a / b) t) s') : wpAny (model prog w) A (binaryOp .FloorDiv (.int a t) (.int b u)) Q E s :=
  floordiv_int (Int.ne_of_gt hb) (by rw [Int.fdiv_eq_ediv_of_nonneg a (Int.le_of_lt hb)]; exact h _ _ C.toks) (Or.inl (PyProof.noPylong_of_log2 (by
    have h1 : b.natAbs < 2 ^ 40 := by omega
    have h2 := Nat.log2_lt (n := b.natAbs) (k := 40) (by omega)
    have := h2.mpr h1
    omega)))
end
end
section
open PySem.W.KBy Builtin
abbrev bytO (l : List UInt8) : Obj := { cls := .type "bytearray", data := .bytearray l.toArray 0 }
theorem owner_ba : Manifest.owners.lookup (String.ofList ['y', 'a', 'r', 'r', 'a', 'e', 't', 'y', 'b'].reverse) = some Manifest.sig_bytearray := by kernel_rfl
theorem slot_ba_len : Slot "bytearray" "__len__" "bytearray.__len__" :=
  .of (owner := "bytearray") (n := "__len__") (by rw [typeLookup_type, builtinLookup_eq_fast]; kernel_rfl) (by decide +kernel) (by decide +kernel) (by decide +kernel)
    (by first | exact .inl (by decide +kernel) | exact .inr (by decide +kernel)) (by rw [isSubtype_type]; kernel_rfl)
theorem entry_ba_len : entryFor table "bytearray.__len__" = some Builtin.«bytearray.__len__» := entryFor_of_tree (by kernel_rfl)
theorem args_ba_len (a : Value) : argsOk "bytearray.__len__" ⟨[a], []⟩ := by
  unfold argsOk; rw [signature?_of (id := "bytearray.__len__") (n := ['_', '_', 'n', 'e', 'l', '_', '_']) (o := ['y', 'a', 'r', 'r', 'a', 'e', 't', 'y', 'b']) (by kernel_rfl) owner_ba]; kernel_rfl
theorem slot_ba_getitem : Slot "bytearray" "__getitem__" "bytearray.__getitem__" :=
  .of (owner := "bytearray") (n := "__getitem__") (by rw [typeLookup_type, builtinLookup_eq_fast]; kernel_rfl) (by decide +kernel) (by decide +kernel) (by decide +kernel)
    (by first | exact .inl (by decide +kernel) | exact .inr (by decide +kernel)) (by rw [isSubtype_type]; kernel_rfl)
theorem entry_ba_getitem : entryFor table "bytearray.__getitem__" = some Builtin.«bytearray.__getitem__» := entryFor_of_tree (by kernel_rfl)
theorem args_ba_getitem (a b : Value) : argsOk "bytearray.__getitem__" ⟨[a, b], []⟩ := by
  unfold argsOk; rw [signature?_of (id := "bytearray.__getitem__") (n := ['_', '_', 'm', 'e', 't', 'i', 't', 'e', 'g', '_', '_']) (o := ['y', 'a', 'r', 'r', 'a', 'e', 't', 'y', 'b']) (by kernel_rfl) owner_ba]; kernel_rfl
section
variable {prog : Program} {w : World} {A : Around} {E : Value → Shared → Prop} {K : Frag} {g : Heap} {L : Addr} {o : OsState} {s : Shared} {m : Str → Option Value} {news news' : List (Addr × Obj)} {D a : Addr} {l : List UInt8} {M : Model}
theorem pay_ba {Q : Array UInt8 → Shared → Prop} (ho : s.heap.get? D = some (bytO l)) (h : Q l.toArray s) : wpAny M A (Bytes.payload (.ref D)) Q E s := by
  unfold Bytes.payload Bytes.payload?
  exact wpAny_bind (wpAny_bind (wpAny_load ho (wpAny_pure (wpAny_pure h))))
theorem xLenA (C : Cx K g L o s m news) (hm : (D, bytO l) ∈ news) {Q : Value → Shared → Prop} (hz : l.length ≤ 1000000) (h : ∀ t s', Cx K g L o s' m news → Q (.int (l.length : Int) t) s') :
    wpAny (model prog w) A (call (.builtin "len") [.ref D] []) Q E s := by
  have ho := C.get hm
  have hT : s.TypeIs (.ref D) "bytearray" := ⟨_, ho, rfl⟩
  refine Calls.call_function_entry kind_len plain_len entry_len (args_len1 _) ?_
  unfold Builtin.«len»
  refine wpAny_bind (m := oneArg "len" _) (wpAny_pure ?_)
  refine wpAny_bind (m := callSpecial? (.ref D) (Str.ofString "__len__")) (wpAny_callSpecial?_slot (name := Str.ofString "__len__") hT slot_ba_len
    (wpAny_call_entry slot_ba_len hT entry_ba_len ?_ (args_ba_len _)))
  show wpAny _ _ (do retInt (← Bytes.payload (.ref D)).size) _ _ s
  refine wpAny_bind (pay_ba ho ?_)
  refine wpAny_bind (wpAny_mkInt (wpAny_pure ⟨_, rfl, ?_⟩))
  refine wpAny_bind (wpAny_holding (wpAny_pure ?_))
  refine wpAny_bind (wpAny_letGo ?_)
  show wpAny _ _ (if ((l.toArray.size : Nat) : Int) < 0 then _ else _) _ _ _
  rw [if_neg (by omega)]
  show wpAny _ _ (if ((l.toArray.size : Nat) : Int) ≥ 2 ^ 63 then _ else _) _ _ _
  rw [if_neg (by rw [List.size_toArray]; omega)]
  exact wpAny_bind (wpAny_mkInt (wpAny_pure ⟨_, rfl, by rw [List.size_toArray]; exact h _ _ C.toks⟩))
theorem meets_slice_ba (a : Addr) {lv uv : Value} {lo hi : Option Int} (hl : IsPart lv lo) (hu : IsPart uv hi) :
    Meets («bytearray.__getitem__» ⟨[.ref D, .ref a], []⟩) (fun _ R s => s.heap.get? D = some (bytO l) ∧ s.heap.IsSliceOf a lv uv .none ∧ (picked l.toArray lo hi).size ≤ sizeLine ∧
      R (.ok (.ret (.ref s.heap.objs.size))) { s with heap := s.heap.push { cls := .type "bytearray", data := .bytearray (picked l.toArray lo hi) 0 } }) := by
  refine .of_wp fun prog w A R s hS => ?_
  obtain ⟨hD, ⟨o, ho, hc, hd⟩, hsz, h⟩ := hS
  have hT : s.TypeIs (.ref a) "slice" := ⟨o, ho, hc⟩
  show wpAny _ _ (Bytes.subscript? (.ref a) >>= fun r => _) _ _ s
  refine wpAny_bind ?_
  unfold Bytes.subscript?
  refine wpAny_bind (wpAny_specialOf hT slice_no_index (wpAny_pure ?_))
  refine wpAny_bind (wpAny_typeOf hT ?_)
  show wpAny _ _ (Bytes.sliceParts (.ref a) >>= fun r => _) _ _ s
  refine wpAny_bind ?_
  unfold Bytes.sliceParts
  refine wpAny_bind (wpAny_field (x := .none) ho hd rfl ?_)
  kby_none
  refine wpAny_ite (ite_no (show ¬ ((Value.none == rawInt 0) = true) from Bool.false_ne_true) ?_)
  refine wpAny_bind (wpAny_field (x := lv) ho hd rfl ?_)
  have go : wpAny (model prog w) A.in1 (sliceIndices (rawPart lo) (rawPart hi) (rawPart none) l.toArray.size) (fun r s' => r = sliceBounds lo hi none l.toArray.size ∧ s' = s) (fun _ _ => False) s :=
    wpAny_of_eq (sliceIndices_raw lo hi none l.toArray.size (fun e => nomatch e)) ⟨rfl, rfl⟩
  cases hl <;> cases hu <;> (first
    | (kby_none; (refine wpAny_bind (wpAny_field (x := .none) ho hd rfl ?_)); kby_none)
    | (kby_none; (refine wpAny_bind (wpAny_field (x := .int _ _) ho hd rfl ?_)); kby_int)
    | (kby_int; (refine wpAny_bind (wpAny_field (x := .none) ho hd rfl ?_)); kby_none)
    | (kby_int; (refine wpAny_bind (wpAny_field (x := .int _ _) ho hd rfl ?_)); kby_int)) <;> refine wpAny_pure ?_
  all_goals
    refine wpAny_bind (pay_ba hD ?_)
    refine wpAny_bind (wpAny_mono go (fun r s' hr => ?_) fun _ _ e => e.elim)
    obtain ⟨hr1, hr2⟩ := hr
    subst hr1 hr2
    refine wpAny_bind (wpAny_newObj_type (wpAny_pure ⟨_, rfl, h⟩) hsz)
theorem xSubA {lv uv : Value} {lo hi : Option Int} (C : Cx K g L o s m ((a, slcO lv uv) :: news)) (hm : (D, bytO l) ∈ news) {value slice : Expr} {Q : Value → Shared → Prop}
    (hl : IsPart lv lo) (hu : IsPart uv hi) (h0 : 0 ≤ lo.getD 0) (h1 : 0 ≤ hi.getD 0) (hz : l.length ≤ 1000000)
    (hs : subscripted slice false (.ref D) (.ref a) = operate [.ref a, .ref D] (getItem (.ref D) (.ref a))) (h : ∀ D' s', Cx K g L o s' m ((D', bytO (cut l lo hi)) :: news) → Q (.ref D') s') :
    wpAny (model prog w) A (subscriptTail value slice (.ref D) (.ref a)) Q E s := by
  have hT : s.TypeIs (.ref D) "bytearray" := ⟨_, C.get (.tail _ hm), rfl⟩
  refine tail_any hT slot_ba_getitem.lookup (getItem_meets hT (by decide) slot_ba_getitem entry_ba_getitem (args_ba_getitem _ _) (meets_slice_ba a hl hu)
    ⟨C.get (.tail _ hm), ⟨slcO lv uv, C.get (.head _), rfl, rfl⟩, ?_, ?_⟩) hs
  · rw [picked_cut l lo hi h0 h1, sizeLine_eq, List.size_toArray]; have := cut_length l lo hi; omega
  · rw [picked_cut l lo hi h0 h1]; exact h _ _ (C.drop1.push (tk := s.toks) _)
end
end
section
open PySem.W.KBy Builtin
theorem ba_no_bytes : typeLookup (.type "bytearray") "__bytes__" = pure none := by rw [typeLookup_type, builtinLookup_eq_fast]; kernel_rfl
theorem ba_no_index : typeLookup (.type "bytearray") "__index__" = pure none := by rw [typeLookup_type, builtinLookup_eq_fast]; kernel_rfl
theorem ba_buffer : typeLookup (.type "bytearray") "__buffer__" = pure (some (.builtin "bytearray.__buffer__")) := by rw [typeLookup_type, builtinLookup_eq_fast]; kernel_rfl
theorem ba_release : typeLookup (.type "bytearray") "__release_buffer__" = pure (some (.builtin "bytearray.__release_buffer__")) := by rw [typeLookup_type, builtinLookup_eq_fast]; kernel_rfl
theorem by_bytes : typeLookup (.type "bytes") "__bytes__" = pure (some (.builtin "bytes.__bytes__")) := by rw [typeLookup_type, builtinLookup_eq_fast]; kernel_rfl
theorem ba_sub : isSubtype (.type "bytearray") (.type "bytearray") = pure true := by rw [isSubtype_type]; kernel_rfl
section
variable {prog : Program} {w : World} {A : Around} {E : Value → Shared → Prop} {K : Frag} {g : Heap} {L : Addr} {o : OsState} {s : Shared} {m : Str → Option Value} {news news' : List (Addr × Obj)} {D a : Addr} {l : List UInt8} {M : Model}
theorem own_ba {x id : String} {Q : Bool → Shared → Prop} (hT : s.TypeIs (.ref D) "bytearray") (hl : typeLookup (.type "bytearray") (x : Str) = pure (some (.builtin id))) (he : id.endsWith ("." ++ x) = true) (hd : id.dropRight (x.length + 1) = "bytearray") (h : Q true s) :
    wpAny M A (Bytes.slotIsOwn (.ref D) x) Q E s := by
  unfold Bytes.slotIsOwn
  refine wpAny_bind (wpAny_specialOf hT hl ?_)
  dsimp only
  rw [he, hd]
  exact wpAny_isInstance hT ba_sub h
theorem buf_ba {id : String} {full : Bool} {Q : Option (Array UInt8) → Shared → Prop} (ho : s.heap.get? D = some (bytO l)) (h : Q (some l.toArray) s) : wpAny M A (Bytes.buffer? id (.ref D) full) Q E s := by
  have hT : s.TypeIs (.ref D) "bytearray" := ⟨_, ho, rfl⟩
  unfold Bytes.buffer?
  refine wpAny_bind (wpAny_specialOf hT ba_buffer ?_)
  dsimp only
  refine wpAny_bind (own_ba hT ba_buffer (by decide +kernel) (by decide +kernel) ?_)
  refine wpAny_ite (ite_no (by decide) ?_)
  refine wpAny_bind (wpAny_specialOf hT ba_buffer ?_)
  show wpAny _ _ (Bytes.ownRelease (.ref D) >>= _) _ _ _
  refine wpAny_bind ?_
  unfold Bytes.ownRelease
  refine wpAny_bind (own_ba hT ba_release (by decide +kernel) (by decide +kernel) (wpAny_pure ?_))
  refine wpAny_ite (ite_no (by decide) ?_)
  exact wpAny_bind (pay_ba ho (wpAny_pure h))
theorem new_A {Q : Value → Shared → Prop} (ho : s.heap.get? D = some (bytO l)) (hz : l.length ≤ 1000000) (hQ : ∀ t k, Q (.bytes l.toArray t) { s with toks := k }) :
    codeAny (model prog w) A (.call (.builtin "bytes.__new__") ⟨[.type "bytes", .ref D], []⟩) (wants Q E) s := by
  refine codeAny_of_tree ?_
  show wpAny _ A.in1 (do checkBuiltinCall "bytes.__new__" ⟨[.type "bytes", .ref D], []⟩; again (.builtin "bytes.__new__" ⟨[.type "bytes", .ref D], []⟩)) _ _ s
  refine wpAny_bind (wpAny_of_eq (F.bm_newCall _) (wpAny_pure ⟨plainId_quiet F.bm_plain _, codeAny_builtin F.bm_entry ?_⟩))
  rw [Around.under_plainId F.bm_plain _]
  have hT : s.TypeIs (.ref D) "bytearray" := ⟨_, ho, rfl⟩
  unfold Builtin.«bytes.__new__»
  refine wpAny_bind (wpAny_of_eq (a := true) rfl ?_)
  refine bm_if_false rfl ?_
  refine wpAny_bind (wpAny_of_eq F.bm_sub ?_)
  refine bm_if_false rfl ?_
  refine wpAny_bind (wpAny_of_eq (F.bm_bind _) ?_)
  refine wpAny_bind (wpAny_of_eq (a := ()) rfl ?_)
  refine wpAny_bind (wpAny_of_eq (a := ()) rfl ?_)
  refine bm_if_false rfl ?_
  refine wpAny_bind (wpAny_specialOf hT ba_no_bytes ?_)
  refine wpAny_bind (wpAny_bind ?_)
  show wpAny _ _ (load D >>= _) _ _ _
  refine wpAny_bind (wpAny_load ho ?_)
  refine wpAny_pure (wpAny_pure ?_)
  refine bm_if_false rfl ?_
  refine wpAny_bind (wpAny_specialOf hT ba_no_index ?_)
  refine bm_if_true rfl ?_
  first
    | show wpAny _ _ (Builtin.Bytes.buffer? "bytes.__new__" (.ref D) true >>= _) _ _ _
    | (refine wpAny_bind ?_; show wpAny _ _ (Builtin.Bytes.buffer? "bytes.__new__" (.ref D) true >>= _) _ _ _)
  refine wpAny_bind (buf_ba ho ?_)
  refine wpAny_bind (wpAny_rule (wpAny_bind (wpAny_mkBytes ?_ (by rw [List.size_toArray, sizeLine_eq]; omega))))
  show wpAny _ _ (if (Value.type "bytes" == Value.type "bytes") = true then _ else _) _ _ _
  refine bm_if_true (by decide) ?_
  first
    | exact wpAny_pure (hQ _ _)
    | exact wpAny_bind (wpAny_pure (wpAny_pure (hQ _ _)))
theorem call_A {Q : Value → Shared → Prop} (ho : s.heap.get? D = some (bytO l)) (hz : l.length ≤ 1000000) (hQ : ∀ t k, Q (.bytes l.toArray t) { s with toks := k }) : wpAny (model prog w) A (call (.type "bytes") [.ref D]) Q E s := by
  refine callType_codes (Q₁ := fun obj s₁ => s₁.TypeIs obj "bytes" ∧ Q obj s₁) F.bm_called (F.bm_typeCall _) F.entry_object_init
    (new_A ho hz fun t k => ⟨PySem.W.typeIs_bytes _ _ _, hQ t k⟩) fun obj s₁ h₁ => ?_
  exact ⟨h₁.1, F.args_object_init_2 obj _, object_init_meets F.bm_called.init.lookup F.bm_called.made (by decide) prog w A.in1 _ s₁ ⟨h₁.1, rfl, h₁.2⟩⟩
theorem xBytesA (C : Cx K g L o s m news) (hm : (D, bytO l) ∈ news) {Q : Value → Shared → Prop} (hz : l.length ≤ 1000000) (h : ∀ t s', Cx K g L o s' m news → Q (.bytes l.toArray t) s') : wpAny (model prog w) A (call (.type "bytes") [.ref D] []) Q E s :=
  call_A (C.get hm) hz fun _ _ => h _ _ C.toks
theorem new_B {l : Array UInt8} {t : Tok} {Q : Value → Shared → Prop} (hQ : Q (.bytes l t) s) :
    codeAny (model prog w) A (.call (.builtin "bytes.__new__") ⟨[.type "bytes", .bytes l t], []⟩) (wants Q E) s := by
  refine codeAny_of_tree ?_
  show wpAny _ A.in1 (do checkBuiltinCall "bytes.__new__" ⟨[.type "bytes", .bytes l t], []⟩; again (.builtin "bytes.__new__" ⟨[.type "bytes", .bytes l t], []⟩)) _ _ s
  refine wpAny_bind (wpAny_of_eq (F.bm_newCall _) (wpAny_pure ⟨plainId_quiet F.bm_plain _, codeAny_builtin F.bm_entry ?_⟩))
  rw [Around.under_plainId F.bm_plain _]
  unfold Builtin.«bytes.__new__»
  refine wpAny_bind (wpAny_of_eq (a := true) rfl ?_)
  refine bm_if_false rfl ?_
  refine wpAny_bind (wpAny_of_eq F.bm_sub ?_)
  refine bm_if_false rfl ?_
  refine wpAny_bind (wpAny_of_eq (F.bm_bind _) ?_)
  refine wpAny_bind (wpAny_of_eq (a := ()) rfl ?_)
  refine wpAny_bind (wpAny_of_eq (a := ()) rfl ?_)
  refine bm_if_false rfl ?_
  refine wpAny_bind (wpAny_specialOf (typeIs_bytes _ _ _) by_bytes ?_)
  show wpAny _ _ (rule "bytes.__new__.of-bytes" >>= _) _ _ _
  refine wpAny_bind (wpAny_rule ?_)
  refine wpAny_bind (wpAny_typeOf (typeIs_bytes _ _ _) ?_)
  refine bm_if_true (by decide) ?_
  show wpAny _ _ (if (Value.type "bytes" == Value.type "bytes") = true then _ else _) _ _ _
  refine bm_if_true (by decide) ?_
  first
    | exact wpAny_pure hQ
    | exact wpAny_bind (wpAny_pure (wpAny_pure hQ))
theorem xBytesB {l : Array UInt8} {t : Tok} {Q : Value → Shared → Prop} (hQ : Q (.bytes l t) s) : wpAny (model prog w) A (call (.type "bytes") [.bytes l t] []) Q E s := by
  refine callType_codes (Q₁ := fun obj s₁ => s₁.TypeIs obj "bytes" ∧ Q obj s₁) F.bm_called (F.bm_typeCall _) F.entry_object_init
    (new_B ⟨PySem.W.typeIs_bytes _ _ _, hQ⟩) fun obj s₁ h₁ => ?_
  exact ⟨h₁.1, F.args_object_init_2 obj _, object_init_meets F.bm_called.init.lookup F.bm_called.made (by decide) prog w A.in1 _ s₁ ⟨h₁.1, rfl, h₁.2⟩⟩
end
end
section
variable {prog : Program} {w : World} {A : Around} {g : Heap} {L : Addr} {o : OsState} {s : Shared} {m : Str → Option Value} {news : List (Addr × Obj)} {R : Result → Shared → Prop}
def WP (f r : Int) (ps : List (Int × List UInt8)) : List (Int × List UInt8) := ps.map fun x => (W f r x.1, x.2)
variable {a : AH} {pl : Addr} {f p q : Int} {t u : Tok}
theorem offset_spec (C : Cx (KK w) g L o s m news) (hA : Room A 4) (h1 : (a.x, instObj 141 a.dx) ∈ news) (h2 : (a.dx, dictOf (a.es w pl) 2) ∈ news) (hr : 256 ≤ a.ring) (hpq : -128 < p - q ∧ p - q < 128)
    (k : ∀ t s', Cx (KK w) g L o s' m news → R (.ok (.ret (.int (p - q) t))) s') :
    codeAny (model prog w) A (.call (.ref 82) ⟨[.ref a.x, .int (W f a.ring p) t, .int (W f a.ring q) u], []⟩) R s := by
  refine call_fn [("self", .ref a.x), ("seq", .int (W f a.ring p) t), ("next", .int (W f a.ring q) u)] [("next", .int (W f a.ring q) u), ("seq", .int (W f a.ring p) t), ("self", .ref a.x)] C hA.dep (by rfl) (by rfl) (BindsTo.of_eq rfl) (by rfl) (by rfl) ?_
  clear C
  intro g' L' s' C back
  wtm_at "g"
  refine beforeW C ((hA.deeper _).le (by decide)) hr hpq ?_
  clear C; intro s C
  wtm_at "g"
  refine ⟨fun hb => ?_, fun hb => ?_⟩
  · have hb := of_decide_eq_true hb
    wtm_at "g"
    refine distW C ((hA.deeper _).le (by decide)) hr (by omega) ?_
    clear C; intro t s C
    wtm_at "g"
    rw [show p - q = 0 - (q - p) by omega] at k
    exact k _ _ (back _ _ _ C)
  · have hb := of_decide_eq_false hb
    wtm_at "g"
    refine distW C ((hA.deeper _).le (by decide)) hr (by omega) ?_
    clear C; intro t s C
    exact k _ _ (back _ _ _ C)
theorem forget_spec {vs : List Value} {n : Nat} {ps : List (Int × List UInt8)} (C : Cx (KK w) g L o s m news) (hA : Room A 5) (h1 : (a.x, instObj 141 a.dx) ∈ news) (h2 : (a.dx, dictOf (a.es w pl) 2) ∈ news) (h3 : (pl, lstO vs n) ∈ news)
    (hP : PartsIn news vs (WP f a.ring ps)) (hr : 256 ≤ a.ring) (hpq : ∀ x ∈ ps, 0 ≤ x.1 - q ∧ x.1 - q < 128)
    (k : ∀ s', Cx (KK w) g L o s' m news → R (.ok (.ret .none)) s') :
    codeAny (model prog w) A (.call (.ref 117) ⟨[.ref a.x, .int (W f a.ring q) u], []⟩) R s := by
  refine call_fn [("self", .ref a.x), ("next", .int (W f a.ring q) u)] [("next", .int (W f a.ring q) u), ("self", .ref a.x)] C hA.dep (by rfl) (by rfl) (BindsTo.of_eq rfl) (by rfl) (by rfl) ?_
  clear C
  intro g' L' s' C back
  refine sWhile (I := fun _ s => Cx (KK w) g' L' o s _ news) 0 C ?_
  clear C; intro _ QB _ _ hR s C
  wtm_at "g"
  refine ⟨fun hb => ?_, fun hb => ?_⟩
  · cases ps with
    | nil => cases hP; simp at hb
    | cons x ps =>
      obtain ⟨p, d⟩ := x
      have hx := hpq _ (.head _)
      cases hP with
      | cons hm hP =>
        wtm_at "g"
        refine offset_spec C ((hA.deeper _).le (by decide)) h1 h2 hr (by simp at hx ⊢; omega) ?_
        clear C; intro t s C
        wtm_at "g"
        refine ⟨fun hb => ?_, fun hb => ?_⟩
        · wtm_at "g"
          exact hR _ _ (k _ (back _ _ _ C))
        · have := of_decide_eq_false hb
          simp at hx; omega
  · wtm_at "g"
    exact k _ (back _ _ _ C)

end
section
variable {prog : Program} {w : World} {A : Around} {g : Heap} {L : Addr} {o : OsState} {s : Shared} {m : Str → Option Value} {news : List (Addr × Obj)} {R : Result → Shared → Prop}
variable {a : AH} {pl : Addr} {f p q : Int} {t u : Tok}
/-- the pieces of oct (at the places beg ..) that no part holds; the parts' places from the next -/
def missFin (beg : Int) (oct : List UInt8) (at_ : Int) (acc : List (Int × List UInt8)) : List (Int × List UInt8) :=
  if at_ < beg + oct.length then acc ++ [(at_, cut oct (some (at_ - beg)) none)] else acc
def missLoop (beg : Int) (oct : List UInt8) : List (Int × List UInt8) → Int → List (Int × List UInt8) → List (Int × List UInt8)
  | [], at_, acc => missFin beg oct at_ acc
  | (p, d) :: ps, at_, acc =>
    if p + d.length ≤ at_ then missLoop beg oct ps at_ acc
    else if beg + oct.length ≤ p then missFin beg oct at_ acc
    else missLoop beg oct ps (p + d.length) (if at_ < p then acc ++ [(at_, cut oct (some (at_ - beg)) (some (p - beg)))] else acc)
def rel (q : Int) (ps : List (Int × List UInt8)) : List (Int × List UInt8) := ps.map fun x => (x.1 - q, x.2)
theorem WP_get {r : Int} {ps : List (Int × List UInt8)} {i : Nat} {q' : Int} {d : List UInt8} (h : (WP f r ps)[i]? = some (q', d)) : ∃ p, ps[i]? = some (p, d) ∧ q' = W f r p := by
  unfold WP at h
  rw [List.getElem?_map] at h
  cases e : ps[i]? with
  | none => rw [e] at h; cases h
  | some x => rw [e] at h; obtain ⟨p, d'⟩ := x; simp at h; exact ⟨p, by rw [h.2], h.1.symm⟩
theorem drop_at {α : Type} {l : List α} {i : Nat} {x : α} (h : l[i]? = some x) : l.drop i = x :: l.drop (i + 1) := by
  obtain ⟨h1, h2⟩ := List.getElem?_eq_some_iff.mp h
  rw [List.drop_eq_getElem_cons h1, h2]
theorem rel_at {q : Int} {ps : List (Int × List UInt8)} {i : Nat} {p : Int} {d : List UInt8} (h : ps[i]? = some (p, d)) : (rel q ps)[i]? = some (p - q, d) := by
  unfold rel; rw [List.getElem?_map, h]; rfl
theorem missing_spec {vs : List Value} {n : Nat} {ps : List (Int × List UInt8)} {beg : Int} {oct : List UInt8} {tb to_ : Tok} (C : Cx (KK w) g L o s m news) (hA : Room A 6) (h1 : (a.x, instObj 141 a.dx) ∈ news) (h2 : (a.dx, dictOf (a.es w pl) 2) ∈ news) (h3 : (pl, lstO vs n) ∈ news)
    (hP : PartsIn news vs (WP f a.ring ps)) (hr : 256 ≤ a.ring) (hpq : ∀ x ∈ ps, -128 < x.1 - q ∧ x.1 - q < 128) (hd : ∀ x ∈ ps, x.2.length ≤ 1000) (ho : oct.length ≤ 1000) (hps : ps.length ≤ 1000) (hb : 0 ≤ beg)
    (k : ∀ F fvs fn T s', Cx (KK w) g L o s' m ((F, lstO fvs fn) :: (T ++ news)) → PartsIn (T ++ news) fvs (missLoop beg oct (rel q ps) beg []) → R (.ok (.ret (.ref F))) s') :
    codeAny (model prog w) A (.call (.ref 96) ⟨[.ref a.x, .int beg tb, .bytes oct.toArray to_, .int (W f a.ring q) u], []⟩) R s := by
  refine call_fn [("self", .ref a.x), ("begin", .int beg tb), ("octets", .bytes oct.toArray to_), ("next", .int (W f a.ring q) u)] [("next", .int (W f a.ring q) u), ("octets", .bytes oct.toArray to_), ("begin", .int beg tb), ("self", .ref a.x)] C hA.dep (by rfl) (by rfl) (BindsTo.of_eq rfl) (by rfl) (by rfl) ?_
  clear C
  intro g' L' s' C back
  wtm_at "g"
  refine sForB C (.tail _ h3) (J := fun i m led => Any9 fun junk at_ ta te acc F fvs fn T => All6 (m = lj [("at", .int at_ ta), ("found", .ref F), ("end", .int (beg + oct.length) te), ("next", .int (W f a.ring q) u), ("octets", .bytes oct.toArray to_), ("begin", .int beg tb), ("self", .ref a.x)] junk) (led = (F, lstO fvs fn) :: (T ++ news)) (PartsIn (T ++ news) fvs acc) (missLoop beg oct ((rel q ps).drop i) at_ acc = missLoop beg oct (rel q ps) beg []) (acc.length ≤ i) (beg ≤ at_))
    (X := fun m led => Any9 fun junk at_ ta te acc F fvs fn T => All6 (m = lj [("at", .int at_ ta), ("found", .ref F), ("end", .int (beg + oct.length) te), ("next", .int (W f a.ring q) u), ("octets", .bytes oct.toArray to_), ("begin", .int beg tb), ("self", .ref a.x)] junk) (led = (F, lstO fvs fn) :: (T ++ news)) (PartsIn (T ++ news) fvs acc) (missFin beg oct at_ acc = missLoop beg oct (rel q ps) beg []) (acc.length ≤ 1000) (beg ≤ at_)) hA.hh ?_ ?_ ?_ ?_
  · intro QI hQI
    wtm_at "g"
    exact hQI _ _ _ (C.norm [("at", _), ("found", _), ("end", _), ("next", _), ("octets", _), ("begin", _), ("self", _)] (by wtm_at "ag")) (.tail _ h3) ⟨_, _, _, _, [], _, _, _, [], rfl, rfl, .nil, rfl, Nat.le_refl _, Int.le_refl _⟩
  · rintro i I ob QB hN hB _ v m led s hv ⟨junk, at_, ta, te, acc, F, fvs, fn, T, rfl, rfl, hF, hloop, hacc, hat⟩ hm C
    obtain ⟨b, q', tq, ud, d, rfl, hps', hbm⟩ := hP.get i v hv
    obtain ⟨p, hpi, rfl⟩ := WP_get hps'
    have hpm := List.mem_of_getElem? hpi
    rw [drop_at (rel_at hpi)] at hloop
    have hdl : d.length ≤ 1000 := hd _ hpm
    have hfl : fvs.length = acc.length := hF.length
    have hil : i < vs.length := (List.getElem?_eq_some_iff.mp hv).1
    have hvl : vs.length = ps.length := by rw [hP.length]; simp [WP]
    simp only [missLoop] at hloop
    wtm_at "g"
    refine offset_spec C ((hA.deeper _).le (by decide)) (by wtm_at "mm") (by wtm_at "mm") hr (hpq _ hpm) ?_
    clear C; intro t s C
    wtm_at "g"
    refine ⟨fun hb1 => ?_, fun hb1 => ?_⟩
    · rw [if_pos (of_decide_eq_true hb1)] at hloop
      wtm_at "g"
      exact hN _ _ _ _ (.inr rfl) (C.norm [("at", _), ("found", _), ("end", _), ("next", _), ("octets", _), ("begin", _), ("self", _)] (by wtm_at "ag")) hm ⟨_, at_, ta, te, acc, F, fvs, fn, T, rfl, rfl, hF, hloop, by omega, hat⟩
    · have hb1 := of_decide_eq_false hb1
      rw [if_neg hb1] at hloop
      wtm_at "g"
      refine ⟨fun hb2 => ?_, fun hb2 => ?_⟩
      · rw [if_pos (of_decide_eq_true hb2)] at hloop
        wtm_at "g"
        exact hB _ _ _ (C.norm [("at", _), ("found", _), ("end", _), ("next", _), ("octets", _), ("begin", _), ("self", _)] (by wtm_at "ag")) ⟨_, at_, ta, te, acc, F, fvs, fn, T, rfl, rfl, hF, hloop, by omega, hat⟩
      · rw [if_neg (of_decide_eq_false hb2)] at hloop
        wtm_at "g"
        refine ⟨fun hb3 => ?_, fun hb3 => ?_⟩
        · have hb3 := of_decide_eq_true hb3
          rw [if_pos hb3] at hloop
          wtm_at "g"
          exact hN _ _ _ _ (.inl rfl) (C.rot3.norm [("at", _), ("found", _), ("end", _), ("next", _), ("octets", _), ("begin", _), ("self", _)] (by wtm_at "ag")) (.tail _ (by wtm_at "mm")) ⟨_, _, _, te, _, F, _, _, (_, _) :: T, rfl, rfl, (hF.mono fun _ h => .tail _ h).append (.cons (.head _) .nil), hloop, by simp; omega, by omega⟩
        · rw [if_neg (of_decide_eq_false hb3)] at hloop
          wtm_at "g"
          exact hN _ _ _ _ (.inl rfl) (C.norm [("at", _), ("found", _), ("end", _), ("next", _), ("octets", _), ("begin", _), ("self", _)] (by wtm_at "ag")) hm ⟨_, _, _, te, acc, F, fvs, fn, T, rfl, rfl, hF, hloop, by omega, by omega⟩
  · rintro m led ⟨junk, at_, ta, te, acc, F, fvs, fn, T, rfl, rfl, hF, hloop, hacc, hat⟩
    have hvl : vs.length = ps.length := by rw [hP.length]; simp [WP]
    rw [List.drop_eq_nil_of_le (by simp [rel]; omega)] at hloop
    exact ⟨_, at_, ta, te, acc, F, fvs, fn, T, rfl, rfl, hF, hloop, by omega, hat⟩
  · rintro m led s ⟨junk, at_, ta, te, acc, F, fvs, fn, T, rfl, rfl, hF, hloop, hacc, hat⟩ C
    have hfl : fvs.length = acc.length := hF.length
    rw [← hloop] at k
    unfold missFin at k
    wtm_at "g"
    refine ⟨fun hb1 => ?_, fun hb1 => ?_⟩
    · rw [if_pos (of_decide_eq_true hb1)] at k
      wtm_at "g"
      exact k F _ _ ((_, _) :: T) _ (back _ _ _ C.rot2) ((hF.mono fun _ h => .tail _ h).append (.cons (.head _) .nil))
    · rw [if_neg (of_decide_eq_false hb1)] at k
      wtm_at "g"
      exact k F _ _ T _ (back _ _ _ C) hF

end
section
variable {prog : Program} {w : World} {A : Around} {g : Heap} {L : Addr} {o : OsState} {s : Shared} {m : Str → Option Value} {news : List (Addr × Obj)} {R : Result → Shared → Prop}
variable {a : AH} {pl : Addr} {f p q : Int} {t u : Tok}
/-- the fresh pieces put between the parts -/
def mergeLoop : List (Int × List UInt8) → List (Int × List UInt8) → List (Int × List UInt8) → List (Int × List UInt8)
  | [], rest, acc => acc ++ rest
  | (p, d) :: ps, rest, acc => mergeLoop ps (rest.dropWhile fun x => decide (x.1 < p)) (acc ++ rest.takeWhile (fun x => decide (x.1 < p)) ++ [(p, d)])
theorem PartsIn.tail' {news : List (Addr × Obj)} {v : Value} {vs ps} (h : PartsIn news (v :: vs) ps) : ∃ b x d tq ud r, v = .ref b ∧ ps = (x, d) :: r ∧ (b, tupO [.int x tq, .bytes d.toArray ud]) ∈ news ∧ PartsIn news vs r := by
  cases h with
  | cons hm h => exact ⟨_, _, _, _, _, _, rfl, rfl, hm, h⟩
theorem Cx.rot4 {K : Frag} {a b c d : Addr × Obj} {l : List (Addr × Obj)} (C : Cx K g L o s m (a :: b :: c :: d :: l)) : Cx K g L o s m (b :: c :: d :: a :: l) :=
  C.perm ((List.Perm.cons _ (List.Perm.cons _ (List.Perm.swap _ _ _))).trans ((List.Perm.cons _ (List.Perm.swap _ _ _)).trans (List.Perm.swap _ _ _)))
theorem merged_spec {vs fvs : List Value} {n fn : Nat} {Fl : Addr} {ps fr : List (Int × List UInt8)} (C : Cx (KK w) g L o s m news) (hA : Room A 6) (h1 : (a.x, instObj 141 a.dx) ∈ news) (h2 : (a.dx, dictOf (a.es w pl) 2) ∈ news) (h3 : (pl, lstO vs n) ∈ news)
    (h4 : (Fl, lstO fvs fn) ∈ news) (hP : PartsIn news vs (WP f a.ring ps)) (hF : PartsIn news fvs fr) (hr : 256 ≤ a.ring) (hpq : ∀ x ∈ ps, -128 < x.1 - q ∧ x.1 - q < 128) (hps : ps.length ≤ 1000) (hfr : fr.length ≤ 1001)
    (k : ∀ F fvs fn T s', Cx (KK w) g L o s' m ((F, lstO fvs fn) :: (T ++ news)) → PartsIn (T ++ news) fvs (mergeLoop (rel q ps) fr []) → R (.ok (.ret (.ref F))) s') :
    codeAny (model prog w) A (.call (.ref 103) ⟨[.ref a.x, .ref Fl, .int (W f a.ring q) u], []⟩) R s := by
  refine call_fn [("self", .ref a.x), ("fresh", .ref Fl), ("next", .int (W f a.ring q) u)] [("next", .int (W f a.ring q) u), ("fresh", .ref Fl), ("self", .ref a.x)] C hA.dep (by rfl) (by rfl) (BindsTo.of_eq rfl) (by rfl) (by rfl) ?_
  clear C
  intro g' L' s' C back
  have hfl := hF.length
  have hvl : vs.length = ps.length := by rw [hP.length]; simp [WP]
  wtm_at "g"
  refine sForL C (.tail _ (.tail _ h3)) (J := fun i m led => Any10 fun junk acc rst F rvs fvs fn Rl rn T => All6 (m = lj [("rest", .ref Rl), ("found", .ref F), ("next", .int (W f a.ring q) u), ("fresh", .ref Fl), ("self", .ref a.x)] junk) (led = (F, lstO fvs fn) :: (Rl, lstO rvs rn) :: (T ++ news)) (PartsIn (T ++ news) fvs acc) (PartsIn (T ++ news) rvs rst) (mergeLoop ((rel q ps).drop i) rst acc = mergeLoop (rel q ps) fr []) (acc.length + rst.length ≤ 1001 + i)) hA.hh ?_ ?_ ?_
  · intro QI hQI
    wtm_at "g"
    exact hQI _ _ _ (C.rot2.norm [("rest", _), ("found", _), ("next", _), ("fresh", _), ("self", _)] (by wtm_at "ag")) (.tail _ (.tail _ h3)) ⟨_, [], fr, _, _, _, _, _, _, [], rfl, rfl, .nil, hF, rfl, by simp; omega⟩
  · rintro i I ob QB hN _ _ v m led s hv ⟨junk, acc, rst, F, rvs, fvs, fn, Rl, rn, T, rfl, rfl, hF, hR, hloop, hacc⟩ hm C
    obtain ⟨b, q', tq, ud, d, rfl, hps', hbm⟩ := hP.get i v hv
    obtain ⟨p, hpi, rfl⟩ := WP_get hps'
    have hpm := List.mem_of_getElem? hpi
    rw [drop_at (rel_at hpi)] at hloop
    have hil : i < vs.length := (List.getElem?_eq_some_iff.mp hv).1
    simp only [mergeLoop] at hloop
    wtm_at "g"
    refine offset_spec C ((hA.deeper _).le (by decide)) (by wtm_at "mm") (by wtm_at "mm") hr (hpq _ hpm) ?_
    clear C; intro t s C
    wtm_at "g"
    refine sWhile (I := fun k s => Any8 fun acc' rst' fvs fn rvs rn T m => All8 (k = rst'.length) (m = lj [("first", .int (p - q) t), ("kept", .bytes d.toArray ud), ("seq", .int (W f a.ring p) tq), ("rest", .ref Rl), ("found", .ref F), ("next", .int (W f a.ring q) u), ("fresh", .ref Fl), ("self", .ref a.x)] junk) (Cx (KK w) g' L' o s m ((I, ob) :: (F, lstO fvs fn) :: (Rl, lstO rvs rn) :: (T ++ news))) (PartsIn (T ++ news) fvs acc') (PartsIn (T ++ news) rvs rst') (acc' ++ rst'.takeWhile (fun x => decide (x.1 < p - q)) = acc ++ rst.takeWhile (fun x => decide (x.1 < p - q))) (rst'.dropWhile (fun x => decide (x.1 < p - q)) = rst.dropWhile (fun x => decide (x.1 < p - q))) (acc'.length + rst'.length ≤ 1001 + i)) _
      ⟨acc, rst, fvs, fn, rvs, rn, T, _, rfl, rfl, C, hF, hR, rfl, rfl, hacc⟩ ?_
    clear C hF hR hacc
    rintro _ QW hW _ _ s ⟨acc', rst', fvs, fn, rvs, rn, T, m, rfl, rfl, C, hF, hR, e1, e2, hacc⟩
    have hfl := hF.length
    have hrl := hR.length
    wtm_at "g"
    have fin : rst'.takeWhile (fun x => decide (x.1 < p - q)) = [] → rst'.dropWhile (fun x => decide (x.1 < p - q)) = rst' → mergeLoop ((rel q ps).drop (i + 1)) rst' (acc' ++ [(p - q, d)]) = mergeLoop (rel q ps) fr [] := by
      intro f1 f2
      rw [f1, List.append_nil] at e1
      rw [f2] at e2
      rw [← hloop, e2, e1]
    refine ⟨fun hb => ?_, fun hb => ?_⟩
    · cases rvs with
      | nil => cases hb
      | cons v rvs =>
        obtain ⟨b', x, d', tq', ud', r, rfl, rfl, hbm', hR'⟩ := hR.tail'
        wtm_at "g"
        simp only [List.length_cons] at hfl hrl hacc
        refine ⟨fun hb => ?_, fun hb => ?_⟩
        · have hb := of_decide_eq_true hb
          rw [List.takeWhile_cons_of_pos (by simpa using hb)] at e1
          rw [List.dropWhile_cons_of_pos (by simpa using hb)] at e2
          wtm_at "g"
          refine hW _ _ _ (.inl rfl) (Nat.lt_succ_self _) ⟨acc' ++ [(x, d')], r, _, _, _, _, T, _, rfl, rfl, C, hF.append (.cons hbm' .nil), hR', by rw [← e1]; simp, e2, by simp; omega⟩
        · have hb := of_decide_eq_false hb
          have fin := fin (List.takeWhile_cons_of_neg (by simpa using hb)) (List.dropWhile_cons_of_neg (by simpa using hb))
          wtm_at "g"
          exact hN _ _ _ _ (.inl rfl) (C.rot4.norm [("rest", _), ("found", _), ("next", _), ("fresh", _), ("self", _)] (by wtm_at "ag")) (.tail _ (.tail _ (.tail _ (List.mem_append_right _ h3)))) ⟨_, _, _, F, _, _, _, Rl, _, (_, _) :: T, rfl, rfl, (hF.mono fun _ h => .tail _ h).append (.cons (.head _) .nil), hR.mono (fun _ h => .tail _ h), fin, by simp; omega⟩
    · cases rvs with
      | cons v rvs => cases hb
      | nil =>
        cases hR
        have fin := fin rfl rfl
        simp only [List.length_nil] at hacc
        wtm_at "g"
        exact hN _ _ _ _ (.inl rfl) (C.rot4.norm [("rest", _), ("found", _), ("next", _), ("fresh", _), ("self", _)] (by wtm_at "ag")) (.tail _ (.tail _ (.tail _ (List.mem_append_right _ h3)))) ⟨_, _, [], F, _, _, _, Rl, _, (_, _) :: T, rfl, rfl, (hF.mono fun _ h => .tail _ h).append (.cons (.head _) .nil), .nil, fin, by simp; omega⟩
  · rintro m led s ⟨junk, acc, rst, F, rvs, fvs, fn, Rl, rn, T, rfl, rfl, hF, hR, hloop, hacc⟩ C
    rw [List.drop_eq_nil_of_le (by simp [rel]; omega)] at hloop
    rw [← hloop] at k
    have hfl := hF.length
    have hrl := hR.length
    wtm_at "g"
    exact k _ _ _ ((_, _) :: (_, _) :: T) _ (back _ _ _ C) ((hF.append hR).mono fun _ h => .tail _ (.tail _ h))

end
section
variable {prog : Program} {w : World} {A : Around} {g : Heap} {L : Addr} {o : OsState} {s : Shared} {m : Str → Option Value} {news : List (Addr × Obj)} {R : Result → Shared → Prop}
variable {a : AH} {pl : Addr} {f p q : Int} {t u : Tok}
/-- pieces that meet put together -/
def joinLoop : List (Int × List UInt8) → Option Int → List (Int × List UInt8) → List (Int × List UInt8)
  | [], _, acc => acc
  | (p, d) :: ps, e, acc =>
    if e = some p then joinLoop ps (some (p + d.length)) (match acc.getLast? with | some x => acc.dropLast ++ [(x.1, x.2 ++ d)] | none => [])
    else joinLoop ps (some (p + d.length)) (acc ++ [(p, d)])
theorem PartsIn.last {news : List (Addr × Obj)} {vs : List Value} {ps : List (Int × List UInt8)} {x : Int} {d : List UInt8} (h : PartsIn news vs (ps ++ [(x, d)])) : ∃ ws b tq ud, vs = ws ++ [.ref b] ∧ PartsIn news ws ps ∧ (b, tupO [.int x tq, .bytes d.toArray ud]) ∈ news := by
  induction ps generalizing vs with
  | nil => cases h with | cons hm h => cases h; exact ⟨[], _, _, _, rfl, .nil, hm⟩
  | cons y ps ih =>
    cases h with
    | cons hm h =>
      obtain ⟨ws, b, tq, ud, rfl, h', hm'⟩ := ih h
      exact ⟨_ :: ws, b, tq, ud, rfl, .cons hm h', hm'⟩
def endV (e : Option Int) (t : Tok) : Value := match e with | some x => .int x t | none => .none
theorem xEqEnd {E : Value → Shared → Prop} {e : Option Int} {p : Int} {t u : Tok} {Q : Value → Shared → Prop} (h : Q (.bool (decide (e = some p))) s) : wpAny (model prog w) A (compareOp .Eq (endV e t) (.int p u)) Q E s := by
  cases e with
  | none => exact EqNone.eq_none_int (by simpa using h)
  | some x => refine xEqI ?_; have : (x == p) = decide (some x = some p) := by by_cases h : x = p <;> simp [h]
              rw [this]; exact h
/-- relative places to the ring's numbers -/
def WR (f r q : Int) (ps : List (Int × List UInt8)) : List (Int × List UInt8) := ps.map fun x => (W f r (q + x.1), x.2)
theorem joinLoop_big (x : Int × List UInt8) : ∀ ps e acc, (∃ y ∈ acc, x.1 = y.1 ∧ x.2.length ≤ y.2.length) → ∃ y ∈ joinLoop ps e acc, x.2.length ≤ y.2.length
  | [], e, acc, ⟨y, h, _, h2⟩ => ⟨y, h, h2⟩
  | (p, d) :: ps, e, acc, ⟨y, h, h1, h2⟩ => by
    rw [joinLoop]
    split
    · refine joinLoop_big x ps _ _ ?_
      rcases List.eq_nil_or_concat acc with rfl | ⟨ini, lst, rfl⟩
      · cases h
      · rw [List.concat_eq_append] at h ⊢
        rw [List.getLast?_concat, List.dropLast_concat]
        rcases List.mem_append.mp h with h | h
        · exact ⟨y, List.mem_append_left _ h, h1, h2⟩
        · simp at h; subst h; exact ⟨_, List.mem_append_right _ (.head _), h1, by simp; omega⟩
    · exact joinLoop_big x ps _ _ ⟨y, List.mem_append_left _ h, h1, h2⟩
theorem joined_spec {fvs : List Value} {fn : Nat} {Fl : Addr} {fr : List (Int × List UInt8)} (C : Cx (KK w) g L o s m news) (hA : Room A 6) (h1 : (a.x, instObj 141 a.dx) ∈ news) (h2 : (a.dx, dictOf (a.es w pl) 2) ∈ news)
    (h4 : (Fl, lstO fvs fn) ∈ news) (hF : PartsIn news fvs fr) (hr : 256 ≤ a.ring) (hfr : fr.length ≤ 10000) (hdf : ∀ x ∈ fr, x.2.length ≤ 1000) (hd : ∀ x ∈ joinLoop fr none [], x.2.length ≤ 1000)
    (k : ∀ F fvs fn T s', Cx (KK w) g L o s' m ((F, lstO fvs fn) :: (T ++ news)) → PartsIn T fvs (WR f a.ring q (joinLoop fr none [])) → R (.ok (.ret (.ref F))) s') :
    codeAny (model prog w) A (.call (.ref 110) ⟨[.ref a.x, .ref Fl, .int (W f a.ring q) u], []⟩) R s := by
  refine call_fn [("self", .ref a.x), ("pieces", .ref Fl), ("next", .int (W f a.ring q) u)] [("next", .int (W f a.ring q) u), ("pieces", .ref Fl), ("self", .ref a.x)] C hA.dep (by rfl) (by rfl) (BindsTo.of_eq rfl) (by rfl) (by rfl) ?_
  clear C
  intro g' L' s' C back
  have hfl := hF.length
  wtm_at "g"
  refine sForL C (.tail _ h4) (J := fun i m led => Any8 fun junk acc e te F fvs fn T => All6 (m = lj [("end", endV e te), ("found", .ref F), ("next", .int (W f a.ring q) u), ("pieces", .ref Fl), ("self", .ref a.x)] junk) (led = (F, lstO fvs fn) :: (T ++ news)) (PartsIn T fvs (WR f a.ring q acc)) (joinLoop (fr.drop i) e acc = joinLoop fr none []) (acc.length ≤ i) (e.isSome → acc ≠ [])) hA.hh ?_ ?_ ?_
  · intro QI hQI
    wtm_at "g"
    exact hQI _ _ _ (C.norm [("end", endV none 0), ("found", _), ("next", _), ("pieces", _), ("self", _)] (by wtm_at "ag")) (.tail _ h4) ⟨_, [], none, _, _, _, _, [], rfl, rfl, .nil, rfl, Nat.zero_le _, fun h => nomatch h⟩
  · rintro i I ob QB hN _ _ v m led s hv ⟨junk, acc, e, te, F, fvs', fn', T, rfl, rfl, hG, hloop, hacc, hne⟩ hm C
    obtain ⟨b, p, tq, ud, d, rfl, hpi, hbm⟩ := hF.get i v hv
    have hdf := hdf _ (List.mem_of_getElem? hpi)
    simp only at hdf
    rw [drop_at hpi] at hloop
    have hil : i < fvs.length := (List.getElem?_eq_some_iff.mp hv).1
    simp only [joinLoop] at hloop
    wtm_at "g"
    refine xEqEnd ?_
    wtm_at "g"
    refine ⟨fun hb => ?_, fun hb => ?_⟩
    · have hb := of_decide_eq_true hb
      rw [if_pos hb] at hloop
      have hne := hne (by rw [hb]; rfl)
      obtain ⟨ini, lst, rfl⟩ : ∃ ini lst, acc = ini ++ [lst] := ⟨acc.dropLast, acc.getLast hne, (List.dropLast_concat_getLast hne).symm⟩
      obtain ⟨p0, d0⟩ := lst
      rw [List.getLast?_concat, List.dropLast_concat] at hloop
      have hdl : (d0 ++ d).length ≤ 1000 := by
        obtain ⟨y, hy, hl⟩ := joinLoop_big (p0, d0 ++ d) _ _ _ ⟨(p0, d0 ++ d), List.mem_append_right _ (.head _), rfl, Nat.le_refl _⟩
        exact Nat.le_trans hl (hd _ (hloop ▸ hy))
      rw [List.length_append] at hdl
      rw [WR, List.map_append] at hG
      obtain ⟨ws, b0, tq0, ud0, rfl, hG1, hm0⟩ := hG.last
      simp only at hm0 hloop
      wtm_at "g"
      exact hN _ _ _ _ (.inl rfl) (C.rot3.norm [("end", endV (some _) _), ("found", _), ("next", _), ("pieces", _), ("self", _)] (by wtm_at "ag")) (.tail _ (.tail _ (List.mem_append_right _ h4))) ⟨_, ini ++ [(p0, d0 ++ d)], some _, _, F, _, _, (_, _) :: T, rfl, rfl, by rw [WR, List.map_append]; exact (hG1.mono fun _ h => .tail _ h).append (.cons (.head _) .nil), hloop, by simp at hacc ⊢; omega, fun _ => by simp⟩
    · rw [if_neg (of_decide_eq_false hb)] at hloop
      have hfl' : fvs'.length = acc.length := by rw [hG.length]; simp [WR]
      wtm_at "g"
      refine plusW C ((hA.deeper _).le (by decide)) hr ?_
      clear C; intro t s C
      wtm_at "g"
      exact hN _ _ _ _ (.inl rfl) (C.rot3.norm [("end", endV (some _) _), ("found", _), ("next", _), ("pieces", _), ("self", _)] (by wtm_at "ag")) (.tail _ (.tail _ (List.mem_append_right _ h4))) ⟨_, acc ++ [(p, d)], some _, _, F, _, _, (_, _) :: T, rfl, rfl, by rw [WR, List.map_append]; exact (hG.mono fun _ h => .tail _ h).append (.cons (.head _) .nil), hloop, by simp; omega, fun _ => by simp⟩
  · rintro m led s ⟨junk, acc, e, te, F, fvs', fn', T, rfl, rfl, hG, hloop, hacc, hne⟩ C
    rw [List.drop_eq_nil_of_le (by omega)] at hloop
    rw [← hloop] at k
    wtm_at "g"
    exact k _ _ _ T _ (back _ _ _ C) hG

end
section
variable {prog : Program} {w : World} {A : Around} {g : Heap} {L : Addr} {o : OsState} {s : Shared} {m : Str → Option Value} {news : List (Addr × Obj)} {R : Result → Shared → Prop}
variable {a : AH} {pl : Addr} {f p q : Int} {t u : Tok}
theorem At.refl {d : Addr} {ob : Obj} : ∀ {l : List (Addr × Obj)}, (d, ob) ∈ l → At d ob ob l l
  | _ :: _, .head _ => .head
  | _ :: _, .tail _ h => .tail (At.refl h)
theorem At.of_mem {d : Addr} {ob ob' : Obj} : ∀ {l : List (Addr × Obj)}, (d, ob) ∈ l → ∃ l', At d ob ob' l l'
  | _ :: _, .head _ => ⟨_, .head⟩
  | _ :: _, .tail _ h => let ⟨l', h'⟩ := At.of_mem h; ⟨_, .tail h'⟩
theorem At.keep {d : Addr} {ob ob' : Obj} {l l' : List (Addr × Obj)} (h : At d ob ob' l l') : ∀ p ∈ l, p ≠ (d, ob) → p ∈ l' := by
  induction h with
  | head => intro p hp hn; cases hp with | head => exact absurd rfl hn | tail _ h => exact .tail _ h
  | tail _ ih => intro p hp hn; cases hp with | head => exact .head _ | tail _ h => exact .tail _ (ih p h hn)
theorem At.mem' {d : Addr} {ob ob' : Obj} {l l' : List (Addr × Obj)} (h : At d ob ob' l l') : (d, ob') ∈ l' := by obtain ⟨pre, post, rfl, rfl⟩ := h.split; simp
theorem tup_ne_dict {vs : List Value} {es : List DictEntry} {n : Nat} (e : tupO vs = dictOf es n) : False := by
  have h := congrArg Obj.cls e
  simp only [tupO, dictOf, Value.type.injEq] at h
  exact absurd h (by decide)
theorem PartsIn.updO {news news' : List (Addr × Obj)} {d : Addr} {ob ob' : Obj} {vs ps} (h : PartsIn news vs ps) (U : At d ob ob' news news') (hn : ∀ ws, tupO ws ≠ ob) : PartsIn news' vs ps := by
  induction h with
  | nil => exact .nil
  | cons hm _ ih => exact .cons (U.keep _ hm (fun e => hn _ (congrArg (fun z => z.2) e))) ih
theorem PartsIn.upd {news news' : List (Addr × Obj)} {d : Addr} {es es' : List DictEntry} {n n' : Nat} {vs ps} (h : PartsIn news vs ps) (U : At d (dictOf es n) (dictOf es' n') news news') : PartsIn news' vs ps := h.updO U fun _ => tup_ne_dict
theorem tup_ne_list {vs ws : List Value} {n : Nat} (e : tupO vs = lstO ws n) : False := by
  have h := congrArg Obj.cls e
  simp only [tupO, lstO, W.listOf, Value.type.injEq] at h
  exact absurd h (by decide)
theorem PartsIn.updL {news news' : List (Addr × Obj)} {d : Addr} {ws : List Value} {n : Nat} {ob' : Obj} {vs ps} (h : PartsIn news vs ps) (U : At d (lstO ws n) ob' news news') : PartsIn news' vs ps := h.updO U fun _ => tup_ne_list

theorem is_empty_spec {vs : List Value} {n : Nat} (C : Cx (KK w) g L o s m news) (hA : Room A 4) (h1 : (a.x, instObj 141 a.dx) ∈ news) (h2 : (a.dx, dictOf (a.es w pl) 2) ∈ news) (h3 : (pl, lstO vs n) ∈ news)
    (k : ∀ s', Cx (KK w) g L o s' m news → R (.ok (.ret (.bool vs.isEmpty))) s') :
    codeAny (model prog w) A (.call (.ref 75) ⟨[.ref a.x], []⟩) R s := by
  refine call_fn [("self", .ref a.x)] [("self", .ref a.x)] C hA.dep (by rfl) (by rfl) (BindsTo.of_eq rfl) (by rfl) (by rfl) ?_
  clear C
  intro g' L' s' C back
  wtm_at "g"
  exact k _ (back _ _ _ C)

/-- put: the parts' new places, from the next -/
def putP (q : Int) (ps : List (Int × List UInt8)) (p : Int) (d : List UInt8) : List (Int × List UInt8) :=
  let b := if p - q < 0 then 0 else p - q
  let d' := if p - q < 0 then cut d (some (0 - (p - q))) none else d
  let fr := missLoop b d' (rel q ps) b []
  if fr = [] then ps else (joinLoop (mergeLoop (rel q ps) fr []) none []).map fun x => (q + x.1, x.2)
theorem putP_eq {q : Int} {ps : List (Int × List UInt8)} {p : Int} {d : List UInt8} {b : Int} {d' : List UInt8} (eb : b = (if p - q < 0 then 0 else p - q)) (ed : d' = (if p - q < 0 then cut d (some (0 - (p - q))) none else d)) :
    putP q ps p d = if missLoop b d' (rel q ps) b [] = [] then ps else (joinLoop (mergeLoop (rel q ps) (missLoop b d' (rel q ps) b []) []) none []).map fun x => (q + x.1, x.2) := by
  subst eb ed; rfl
theorem WP_put {f r q : Int} {ps : List (Int × List UInt8)} : WP f r (ps.map fun x => (q + x.1, x.2)) = WR f r q ps := by
  unfold WP WR; rw [List.map_map]; rfl
theorem PartsIn.nil_iff {news : List (Addr × Obj)} {vs ps} (h : PartsIn news vs ps) : vs.isEmpty = decide (ps = []) := by cases h <;> rfl
theorem put_spec {vs : List Value} {n : Nat} {ps : List (Int × List UInt8)} {d : List UInt8} {td : Tok} (C : Cx (KK w) g L o s m news) (hA : Room A 8) (h1 : (a.x, instObj 141 a.dx) ∈ news) (h2 : (a.dx, dictOf (a.es w pl) 2) ∈ news) (h3 : (pl, lstO vs n) ∈ news)
    (hP : PartsIn news vs (WP f a.ring ps)) (hr : 256 ≤ a.ring) (hpq : ∀ x ∈ ps, 0 ≤ x.1 - q ∧ x.1 - q < 128) (hp : -128 < p - q ∧ p - q < 128) (hd : ∀ x ∈ ps, x.2.length ≤ 100) (hdl : d.length ≤ 100) (hps : ps.length ≤ 100)
    (hm : ∀ b d', 0 ≤ b → d'.length ≤ 100 → (missLoop b d' (rel q ps) b []).length ≤ 101 ∧ (∀ x ∈ missLoop b d' (rel q ps) b [], x.2.length ≤ 100) ∧ (mergeLoop (rel q ps) (missLoop b d' (rel q ps) b []) []).length ≤ 500 ∧
      (∀ x ∈ mergeLoop (rel q ps) (missLoop b d' (rel q ps) b []) [], x.2.length ≤ 1000) ∧ (∀ x ∈ joinLoop (mergeLoop (rel q ps) (missLoop b d' (rel q ps) b []) []) none [], x.2.length ≤ 1000))
    (k1 : putP q ps p d = ps → ∀ T s', Cx (KK w) g L o s' m (T ++ news) → R (.ok (.ret .none)) s')
    (k : ∀ pl' vs' n' T news' s', At a.dx (dictOf (a.es w pl) 2) (dictOf (a.es w pl') 2) news news' → Cx (KK w) g L o s' m (T ++ news') → (pl', lstO vs' n') ∈ T → PartsIn T vs' (WP f a.ring (putP q ps p d)) → R (.ok (.ret .none)) s') :
    codeAny (model prog w) A (.call (.ref 89) ⟨[.ref a.x, .int (W f a.ring p) t, .bytes d.toArray td, .int (W f a.ring q) u], []⟩) R s := by
  refine call_fn [("self", .ref a.x), ("seq", .int (W f a.ring p) t), ("octets", .bytes d.toArray td), ("next", .int (W f a.ring q) u)] [("next", .int (W f a.ring q) u), ("octets", .bytes d.toArray td), ("seq", .int (W f a.ring p) t), ("self", .ref a.x)] C hA.dep (by rfl) (by rfl) (BindsTo.of_eq rfl) (by rfl) (by rfl) ?_
  clear C
  intro g' L' s' C back
  wtm_at "g"
  refine forget_spec C ((hA.deeper _).le (by decide)) h1 h2 h3 hP hr hpq ?_
  clear C; intro s C
  wtm_at "g"
  refine offset_spec C ((hA.deeper _).le (by decide)) h1 h2 hr hp ?_
  clear C; intro t s C
  wtm_at "m"
  refine sIfJ (fun s => Any5 fun junk b d' tb td' => All3 (Cx (KK w) g' L' o s (lj [("begin", .int b tb), ("octets", .bytes d'.toArray td'), ("next", .int (W f a.ring q) u), ("self", .ref a.x)] junk) news) (b = (if p - q < 0 then 0 else p - q)) (d' = (if p - q < 0 then cut d (some (0 - (p - q))) none else d))) ?_ ?_
  · intro QB hQB
    wtm_at "g"
    refine ⟨fun hb => ?_, fun hb => ?_⟩
    · have hb := of_decide_eq_true hb
      wtm_at "g"
      exact hQB _ ⟨_, _, _, _, _, C.norm [("begin", _), ("octets", _), ("next", _), ("self", _)] (by wtm_at "ag"), (if_pos hb).symm, (if_pos hb).symm⟩
    · have hb := of_decide_eq_false hb
      wtm_at "g"
      exact hQB _ ⟨_, _, _, _, _, C.norm [("begin", _), ("octets", _), ("next", _), ("self", _)] (by wtm_at "ag"), (if_neg hb).symm, (if_neg hb).symm⟩
  clear C
  rintro s ⟨junk, b, d', tb, td', C, eb, ed⟩
  have hb0 : 0 ≤ b := by rw [eb]; split <;> omega
  have hd' : d'.length ≤ 100 := by
    rw [ed]; split
    · exact Nat.le_trans (cut_length _ _ _) hdl
    · exact hdl
  obtain ⟨m1, m2, m3, m4, m5⟩ := hm b d' hb0 hd'
  rw [putP_eq eb ed] at k k1
  wtm_at "g"
  refine missing_spec C ((hA.deeper _).le (by decide)) h1 h2 h3 hP hr (fun x hx => by have := hpq x hx; omega) (fun x hx => Nat.le_trans (hd x hx) (by decide)) (by omega) (by omega) hb0 ?_
  clear C; intro F fvs fn T s C hF
  wtm_at "g"
  rw [hF.nil_iff]
  refine ⟨fun hb => ?_, fun hb => ?_⟩
  · simp only [Bool.not_eq_true', decide_eq_false_iff_not] at hb
    rw [if_neg hb] at k
    clear k1
    wtm_at "g"
    refine merged_spec C ((hA.deeper _).le (by decide)) (by wtm_at "mm") (by wtm_at "mm") (by wtm_at "mm") (.head _) (hP.mono fun _ h => .tail _ (List.mem_append_right _ h)) (hF.mono fun _ h => .tail _ h) hr (fun x hx => by have := hpq x hx; omega) (by omega) (by omega) ?_
    clear C; intro F2 fvs2 fn2 T2 s C hF2
    wtm_at "g"
    refine joined_spec C ((hA.deeper _).le (by decide)) (by wtm_at "mm") (by wtm_at "mm") (.head _) (hF2.mono fun _ h => .tail _ h) hr (by omega) m4 m5 ?_
    clear C; intro F3 fvs3 fn3 T3 s C hF3
    wtm_at "g"
    obtain ⟨news', U⟩ := At.of_mem (ob' := dictOf (a.es w F3) 2) h2
    have U2 : At a.dx (dictOf (a.es w pl) 2) (dictOf (a.es w F3) 2) ((F3, lstO fvs3 fn3) :: (T3 ++ (F2, lstO fvs2 fn2) :: (T2 ++ (F, lstO fvs fn) :: (T ++ news)))) ((F3, lstO fvs3 fn3) :: (T3 ++ (F2, lstO fvs2 fn2) :: (T2 ++ (F, lstO fvs fn) :: (T ++ news')))) :=
      .tail (At.app (.tail (At.app (.tail (U.app T)) T2)) T3)
    refine aSetParts C (by wtm_at "mm") U2 ?_
    clear C; intro s C
    wtm_at "g"
    have e : (F3, lstO fvs3 fn3) :: (T3 ++ (F2, lstO fvs2 fn2) :: (T2 ++ (F, lstO fvs fn) :: (T ++ news'))) = ((F3, lstO fvs3 fn3) :: (T3 ++ (F2, lstO fvs2 fn2) :: (T2 ++ (F, lstO fvs fn) :: T))) ++ news' := by simp
    rw [e] at C
    exact k F3 _ _ _ _ _ U (back _ _ _ C) (.head _) (by rw [WP_put]; exact hF3.mono fun _ h => .tail _ (List.mem_append_left _ h))
  · simp only [Bool.not_eq_false', decide_eq_true_eq] at hb
    rw [if_pos hb] at k1
    wtm_at "g"
    exact k1 rfl ((_, _) :: T) _ (back _ _ _ C)
theorem take_spec {vs : List Value} {n : Nat} {ps : List (Int × List UInt8)} (C : Cx (KK w) g L o s m news) (hA : Room A 8) (h1 : (a.x, instObj 141 a.dx) ∈ news) (h2 : (a.dx, dictOf (a.es w pl) 2) ∈ news) (h3 : (pl, lstO vs n) ∈ news)
    (hP : PartsIn news vs (WP f a.ring ps)) (hr : 256 ≤ a.ring) (hpq : ∀ x ∈ ps, 0 ≤ x.1 - q ∧ x.1 - q < 128) (hps : ps.length ≤ 1000)
    (k1 : (∀ x d r, ps = (x, d) :: r → x ≠ q) → ∀ td s', Cx (KK w) g L o s' m news → R (.ok (.ret (.bytes [].toArray td))) s')
    (k2 : ∀ d r, ps = (q, d) :: r → ∀ td v vs' n' news' s', vs = v :: vs' → At pl (lstO vs n) (lstO vs' n') news news' → Cx (KK w) g L o s' m news' → PartsIn news' vs' (WP f a.ring r) → R (.ok (.ret (.bytes d.toArray td))) s') :
    codeAny (model prog w) A (.call (.ref 124) ⟨[.ref a.x, .int (W f a.ring q) u], []⟩) R s := by
  refine call_fn [("self", .ref a.x), ("next", .int (W f a.ring q) u)] [("next", .int (W f a.ring q) u), ("self", .ref a.x)] C hA.dep (by rfl) (by rfl) (BindsTo.of_eq rfl) (by rfl) (by rfl) ?_
  clear C
  intro g' L' s' C back
  have hvl : vs.length = ps.length := by rw [hP.length]; simp [WP]
  wtm_at "g"
  refine forget_spec C ((hA.deeper _).le (by decide)) h1 h2 h3 hP hr hpq ?_
  clear C; intro s C
  wtm_at "g"
  refine ⟨fun hb => ?_, fun hb => ?_⟩
  · cases ps with
    | cons => cases hP; cases hb
    | nil =>
      wtm_at "g"
      exact k1 (fun _ _ _ h => nomatch h) _ _ (back _ _ _ C)
  · cases ps with
    | nil => cases hP; cases hb
    | cons x ps =>
      obtain ⟨p, d⟩ := x
      cases hP with
      | @cons bb _ tq tu _ vs' _ hm hP =>
        have hx := hpq _ (.head _)
        simp only at hx
        have e := W_inj (f := f) (p := p) (q := q) hr (by omega)
        wtm_at "g"
        rw [bne, e]
        refine ⟨fun hb => ?_, fun hb => ?_⟩
        · simp only [Bool.not_eq_true', decide_eq_false_iff_not] at hb
          wtm_at "g"
          exact k1 (fun x d r e => by injection e with e _; injection e with e _; omega) _ _ (back _ _ _ C)
        · simp only [Bool.not_eq_false', decide_eq_true_eq] at hb
          subst hb
          obtain ⟨news', U⟩ := At.of_mem (ob' := lstO vs' (n + 1)) h3
          have hm' := U.keep _ hm (fun e => tup_ne_list (congrArg (fun z => z.2) e))
          wtm_at "g"
          exact k2 _ _ rfl _ _ _ _ _ _ rfl U (back _ _ _ C) (hP.updL U)

end
section
variable {prog : Program} {w : World} {A : Around} {g : Heap} {L : Addr} {o : OsState} {s : Shared} {m : Str → Option Value} {news : List (Addr × Obj)} {R : Result → Shared → Prop}
variable {a : AH} {pl : Addr} {f p q : Int} {t u : Tok}
/-- a list of pairs of ints -/
inductive PairsIn (news : List (Addr × Obj)) : List Value → List (Int × Int) → Prop
  | nil : PairsIn news [] []
  | cons {a : Addr} {q d : Int} {t u : Tok} {vs ps} : (a, tupO [.int q t, .int d u]) ∈ news → PairsIn news vs ps → PairsIn news (.ref a :: vs) ((q, d) :: ps)
theorem PairsIn.mono {news news' : List (Addr × Obj)} {vs ps} (h : PairsIn news vs ps) (hs : ∀ p ∈ news, p ∈ news') : PairsIn news' vs ps := by
  induction h with
  | nil => exact .nil
  | cons hm _ ih => exact .cons (hs _ hm) ih
theorem PairsIn.length {news : List (Addr × Obj)} {vs ps} (h : PairsIn news vs ps) : vs.length = ps.length := by
  induction h with
  | nil => rfl
  | cons _ _ ih => simp [ih]
theorem PairsIn.append {news : List (Addr × Obj)} {vs ps vs' ps'} (h : PairsIn news vs ps) (h' : PairsIn news vs' ps') : PairsIn news (vs ++ vs') (ps ++ ps') := by
  induction h with
  | nil => exact h'
  | cons hm _ ih => exact .cons hm ih
def holesLoop (f r : Int) : List (Int × List UInt8) → Int → List (Int × Int) → List (Int × Int)
  | [], _, acc => acc
  | (p, d) :: ps, at_, acc => holesLoop f r ps (p + d.length) (if 0 < p - at_ then acc ++ [(W f r at_, p - at_)] else acc)
theorem holes_spec {vs : List Value} {n : Nat} {ps : List (Int × List UInt8)} (C : Cx (KK w) g L o s m news) (hA : Room A 6) (h1 : (a.x, instObj 141 a.dx) ∈ news) (h2 : (a.dx, dictOf (a.es w pl) 2) ∈ news) (h3 : (pl, lstO vs n) ∈ news)
    (hP : PartsIn news vs (WP f a.ring ps)) (hr : 256 ≤ a.ring) (hpq : ∀ x ∈ ps, 0 ≤ x.1 - q ∧ x.1 + x.2.length - q < 128) (hps : ps.length ≤ 1000)
    (k : ∀ F fvs fn T s', Cx (KK w) g L o s' m ((F, lstO fvs fn) :: (T ++ news)) → PairsIn (T ++ news) fvs (holesLoop f a.ring ps q []) → R (.ok (.ret (.ref F))) s') :
    codeAny (model prog w) A (.call (.ref 131) ⟨[.ref a.x, .int (W f a.ring q) u], []⟩) R s := by
  refine call_fn [("self", .ref a.x), ("next", .int (W f a.ring q) u)] [("next", .int (W f a.ring q) u), ("self", .ref a.x)] C hA.dep (by rfl) (by rfl) (BindsTo.of_eq rfl) (by rfl) (by rfl) ?_
  clear C
  intro g' L' s' C back
  have hvl : vs.length = ps.length := by rw [hP.length]; simp [WP]
  wtm_at "g"
  refine sForL C (.tail _ h3) (J := fun i m led => Any8 fun junk at_ ta acc F fvs fn T => All7 (m = lj [("at", .int (W f a.ring at_) ta), ("found", .ref F), ("next", .int (W f a.ring q) u), ("self", .ref a.x)] junk) (led = (F, lstO fvs fn) :: (T ++ news)) (PairsIn (T ++ news) fvs acc) (holesLoop f a.ring (ps.drop i) at_ acc = holesLoop f a.ring ps q []) (acc.length ≤ i) (0 ≤ at_ - q) (at_ - q < 128)) hA.hh ?_ ?_ ?_
  · intro QI hQI
    wtm_at "g"
    exact hQI _ _ _ (C.norm [("at", _), ("found", _), ("next", _), ("self", _)] (by wtm_at "ag")) (.tail _ h3) ⟨_, q, _, [], _, _, _, [], rfl, rfl, .nil, rfl, Nat.le_refl _, by omega, by omega⟩
  · rintro i I ob QB hN _ _ v m led s hv ⟨junk, at_, ta, acc, F, fvs, fn, T, rfl, rfl, hF, hloop, hacc, hat1, hat2⟩ hm C
    obtain ⟨b, q', tq, ud, d, rfl, hps', hbm⟩ := hP.get i v hv
    obtain ⟨p, hpi, rfl⟩ := WP_get hps'
    have hpm := hpq _ (List.mem_of_getElem? hpi)
    simp only at hpm
    rw [drop_at hpi] at hloop
    have hil : i < vs.length := (List.getElem?_eq_some_iff.mp hv).1
    have hfl := hF.length
    simp only [holesLoop] at hloop
    wtm_at "g"
    refine offset_spec C ((hA.deeper _).le (by decide)) (by wtm_at "mm") (by wtm_at "mm") hr (by omega) ?_
    clear C; intro t s C
    wtm_at "g"
    refine ⟨fun hb1 => ?_, fun hb1 => ?_⟩
    · rw [if_pos (of_decide_eq_true hb1)] at hloop
      wtm_at "g"
      refine plusW C ((hA.deeper _).le (by decide)) hr ?_
      clear C; intro t s C
      wtm_at "g"
      exact hN _ _ _ _ (.inl rfl) (C.rot3.norm [("at", _), ("found", _), ("next", _), ("self", _)] (by wtm_at "ag")) (.tail _ (.tail _ (List.mem_append_right _ h3))) ⟨_, _, _, _, F, _, _, (_, _) :: T, rfl, rfl, (hF.mono fun _ h => .tail _ h).append (.cons (.head _) .nil), hloop, by simp; omega, by omega, by omega⟩
    · rw [if_neg (of_decide_eq_false hb1)] at hloop
      wtm_at "g"
      refine plusW C ((hA.deeper _).le (by decide)) hr ?_
      clear C; intro t s C
      wtm_at "g"
      exact hN _ _ _ _ (.inl rfl) (C.norm [("at", _), ("found", _), ("next", _), ("self", _)] (by wtm_at "ag")) hm ⟨_, _, _, acc, F, fvs, fn, T, rfl, rfl, hF, hloop, by omega, by omega, by omega⟩
  · rintro m led s ⟨junk, at_, ta, acc, F, fvs, fn, T, rfl, rfl, hF, hloop, hacc, hat1, hat2⟩ C
    rw [List.drop_eq_nil_of_le (by omega)] at hloop
    rw [← hloop] at k
    wtm_at "g"
    exact k _ _ _ T _ (back _ _ _ C) hF

/-- the parts cut at a place -/
def cutLoop (e : Int) : List (Int × List UInt8) → List (Int × List UInt8) → List (Int × List UInt8)
  | [], acc => acc
  | (p, d) :: ps, acc => cutLoop e ps (if cut d none (some (max 0 (e - p))) = [] then acc else acc ++ [(p, cut d none (some (max 0 (e - p))))])
theorem cut_behind_spec {vs : List Value} {n : Nat} {ps : List (Int × List UInt8)} {e : Int} (C : Cx (KK w) g L o s m news) (hA : Room A 6) (h1 : (a.x, instObj 141 a.dx) ∈ news) (h2 : (a.dx, dictOf (a.es w pl) 2) ∈ news) (h3 : (pl, lstO vs n) ∈ news)
    (hP : PartsIn news vs (WP f a.ring ps)) (hr : 256 ≤ a.ring) (hpq : ∀ x ∈ ps, -128 < x.1 - q ∧ x.1 - q < 128) (he : -128 < e - q ∧ e - q < 128) (hps : ps.length ≤ 1000) (hd : ∀ x ∈ ps, x.2.length ≤ 1000)
    (k : ∀ pl' vs' n' T news' s', At a.dx (dictOf (a.es w pl) 2) (dictOf (a.es w pl') 2) news news' → Cx (KK w) g L o s' m (T ++ news') → (pl', lstO vs' n') ∈ T → PartsIn T vs' (WP f a.ring (cutLoop e ps [])) → R (.ok (.ret .none)) s') :
    codeAny (model prog w) A (.call (.ref 138) ⟨[.ref a.x, .int (W f a.ring e) t, .int (W f a.ring q) u], []⟩) R s := by
  refine call_fn [("self", .ref a.x), ("edge", .int (W f a.ring e) t), ("next", .int (W f a.ring q) u)] [("next", .int (W f a.ring q) u), ("edge", .int (W f a.ring e) t), ("self", .ref a.x)] C hA.dep (by rfl) (by rfl) (BindsTo.of_eq rfl) (by rfl) (by rfl) ?_
  clear C
  intro g' L' s' C back
  have hvl : vs.length = ps.length := by rw [hP.length]; simp [WP]
  wtm_at "g"
  refine offset_spec C ((hA.deeper _).le (by decide)) (by wtm_at "mm") (by wtm_at "mm") hr (by omega) ?_
  clear C; intro t s C
  wtm_at "g"
  refine sForL C (.tail _ h3) (J := fun i m led => Any6 fun junk acc F fvs fn T => All5 (m = lj [("found", .ref F), ("most", .int (e - q) t), ("next", .int (W f a.ring q) u), ("self", .ref a.x)] junk) (led = (F, lstO fvs fn) :: (T ++ news)) (PartsIn T fvs (WP f a.ring acc)) (cutLoop e (ps.drop i) acc = cutLoop e ps []) (acc.length ≤ i)) hA.hh ?_ ?_ ?_
  · intro QI hQI
    wtm_at "g"
    exact hQI _ _ _ (C.norm [("found", _), ("most", _), ("next", _), ("self", _)] (by wtm_at "ag")) (.tail _ h3) ⟨_, [], _, _, _, [], rfl, rfl, .nil, rfl, Nat.le_refl _⟩
  · rintro i I ob QB hN _ _ v m led s hv ⟨junk, acc, F, fvs, fn, T, rfl, rfl, hF, hloop, hacc⟩ hm C
    obtain ⟨b, q', tq, ud, d, rfl, hps', hbm⟩ := hP.get i v hv
    obtain ⟨p, hpi, rfl⟩ := WP_get hps'
    have hpm := hpq _ (List.mem_of_getElem? hpi)
    have hdm := hd _ (List.mem_of_getElem? hpi)
    simp only at hpm hdm
    rw [drop_at hpi] at hloop
    have hil : i < vs.length := (List.getElem?_eq_some_iff.mp hv).1
    have hfl : fvs.length = acc.length := by rw [hF.length]; simp [WP]
    simp only [cutLoop] at hloop
    wtm_at "g"
    refine offset_spec C ((hA.deeper _).le (by decide)) (by wtm_at "mm") (by wtm_at "mm") hr (by omega) ?_
    clear C; intro t s C
    have ee : e - q - (p - q) = e - p := by omega
    have hmx : 0 ≤ max 0 (e - p) := by omega
    wtm_at "g"
    rw [ee]
    wtm_at "g"
    refine ⟨fun hb1 => ?_, fun hb1 => ?_⟩
    · rw [if_neg (by simpa using hb1)] at hloop
      wtm_at "g"
      rw [ee] at C
      exact hN _ _ _ _ (.inl rfl) (C.rot3.norm [("found", _), ("most", _), ("next", _), ("self", _)] (by wtm_at "ag")) (.tail _ (.tail _ (List.mem_append_right _ h3))) ⟨_, _, F, _, _, (_, _) :: T, rfl, rfl, by rw [WP, List.map_append]; exact (hF.mono fun _ h => .tail _ h).append (.cons (by exact .head _) .nil), hloop, by simp; omega⟩
    · rw [if_pos (by simpa using hb1)] at hloop
      wtm_at "g"
      exact hN _ _ _ _ (.inl rfl) (C.norm [("found", _), ("most", _), ("next", _), ("self", _)] (by wtm_at "ag")) hm ⟨_, acc, F, fvs, fn, T, rfl, rfl, hF, hloop, by omega⟩
  · rintro m led s ⟨junk, acc, F, fvs, fn, T, rfl, rfl, hF, hloop, hacc⟩ C
    rw [List.drop_eq_nil_of_le (by omega)] at hloop
    rw [← hloop] at k
    obtain ⟨news', U⟩ := At.of_mem (ob' := dictOf (a.es w F) 2) h2
    have U2 : At a.dx (dictOf (a.es w pl) 2) (dictOf (a.es w F) 2) ((F, lstO fvs fn) :: (T ++ news)) ((F, lstO fvs fn) :: (T ++ news')) := .tail (U.app T)
    wtm_at "g"
    exact k F _ _ ((_, _) :: T) _ _ U (back _ _ _ C) (.head _) (by simp only [cutLoop]; exact hF.mono fun _ h => .tail _ h)

end
section
/-- a Receiver: what never changes of it; f is the ring number of the place 0 -/
structure RH where
  x : Addr
  dx : Addr
  a : AH
  k : Nat → Tok
  f : Int
  tr : Tok
  room : Int
  to_ : Tok
  mss : Int
  tm : Tok
/-- what changes: the next place, the ready octets' list, the told edge, the fin's place -/
structure RS where
  q : Int
  tq : Tok
  rd : Addr
  e : Int
  te : Tok
  fin : Option Int
  tf : Tok
  hf : Bool
def finV (f r : Int) (p : Option Int) (t : Tok) : Value := match p with | some p => .int (W f r p) t | none => .none
theorem finV_handed {f r : Int} {p : Option Int} {t : Tok} : handedIn (finV f r p t) = true := by cases p <;> rfl
def RH.es (w : World) (r : RH) (st : RS) : List DictEntry := [⟨PyData.keyHash w.params "ring", .str "ring" (r.k 0), .int r.a.ring r.tr⟩, ⟨PyData.keyHash w.params "room", .str "room" (r.k 1), .int r.room r.to_⟩, ⟨PyData.keyHash w.params "mss", .str "mss" (r.k 2), .int r.mss r.tm⟩, ⟨PyData.keyHash w.params "next", .str "next" (r.k 3), .int (W r.f r.a.ring st.q) st.tq⟩, ⟨PyData.keyHash w.params "ready", .str "ready" (r.k 4), .ref st.rd⟩, ⟨PyData.keyHash w.params "assembly", .str "assembly" (r.k 5), .ref r.a.x⟩, ⟨PyData.keyHash w.params "told_edge", .str "told_edge" (r.k 6), .int (W r.f r.a.ring st.e) st.te⟩, ⟨PyData.keyHash w.params "fin_at", .str "fin_at" (r.k 7), finV r.f r.a.ring st.fin st.tf⟩, ⟨PyData.keyHash w.params "has_fin", .str "has_fin" (r.k 8), .bool st.hf⟩, ⟨PyData.keyHash w.params "urgent_at", .str "urgent_at" (r.k 9), .none⟩]
section
variable {prog : Program} {w : World} {A : Around} {E : Value → Shared → Prop} {g : Heap} {L : Addr} {o : OsState} {s : Shared} {m : Str → Option Value} {news news' : List (Addr × Obj)} {r : RH} {st : RS}
theorem r_ring (C : Cx (KK w) g L o s m news) {expr : Bool} {Q : Value → Shared → Prop} (h1 : (r.x, instObj 275 r.dx) ∈ news) (h2 : (r.dx, dictOf (r.es w st) 10) ∈ news) (h : ∀ s', Cx (KK w) g L o s' m news → Q (.int r.a.ring r.tr) s') :
    wpAny (model prog w) A (getAttr (.ref r.x) "ring" expr) Q E s := xAttr C h1 h2 rfl (cRplain _) cRdict fR_ring rfl rfl h
theorem r_room (C : Cx (KK w) g L o s m news) {expr : Bool} {Q : Value → Shared → Prop} (h1 : (r.x, instObj 275 r.dx) ∈ news) (h2 : (r.dx, dictOf (r.es w st) 10) ∈ news) (h : ∀ s', Cx (KK w) g L o s' m news → Q (.int r.room r.to_) s') :
    wpAny (model prog w) A (getAttr (.ref r.x) "room" expr) Q E s := xAttr C h1 h2 rfl (cRplain _) cRdict fR_room rfl rfl h
theorem r_mss (C : Cx (KK w) g L o s m news) {expr : Bool} {Q : Value → Shared → Prop} (h1 : (r.x, instObj 275 r.dx) ∈ news) (h2 : (r.dx, dictOf (r.es w st) 10) ∈ news) (h : ∀ s', Cx (KK w) g L o s' m news → Q (.int r.mss r.tm) s') :
    wpAny (model prog w) A (getAttr (.ref r.x) "mss" expr) Q E s := xAttr C h1 h2 rfl (cRplain _) cRdict fR_mss rfl rfl h
theorem r_next (C : Cx (KK w) g L o s m news) {expr : Bool} {Q : Value → Shared → Prop} (h1 : (r.x, instObj 275 r.dx) ∈ news) (h2 : (r.dx, dictOf (r.es w st) 10) ∈ news) (h : ∀ s', Cx (KK w) g L o s' m news → Q (.int (W r.f r.a.ring st.q) st.tq) s') :
    wpAny (model prog w) A (getAttr (.ref r.x) "next" expr) Q E s := xAttr C h1 h2 rfl (cRplain _) cRdict fR_next rfl rfl h
theorem r_ready (C : Cx (KK w) g L o s m news) {expr : Bool} {Q : Value → Shared → Prop} (h1 : (r.x, instObj 275 r.dx) ∈ news) (h2 : (r.dx, dictOf (r.es w st) 10) ∈ news) (h : ∀ s', Cx (KK w) g L o s' m news → Q (.ref st.rd) s') :
    wpAny (model prog w) A (getAttr (.ref r.x) "ready" expr) Q E s := xAttr C h1 h2 rfl (cRplain _) cRdict fR_ready rfl rfl h
theorem r_assembly (C : Cx (KK w) g L o s m news) {expr : Bool} {Q : Value → Shared → Prop} (h1 : (r.x, instObj 275 r.dx) ∈ news) (h2 : (r.dx, dictOf (r.es w st) 10) ∈ news) (h : ∀ s', Cx (KK w) g L o s' m news → Q (.ref r.a.x) s') :
    wpAny (model prog w) A (getAttr (.ref r.x) "assembly" expr) Q E s := xAttr C h1 h2 rfl (cRplain _) cRdict fR_assembly rfl rfl h
theorem r_told_edge (C : Cx (KK w) g L o s m news) {expr : Bool} {Q : Value → Shared → Prop} (h1 : (r.x, instObj 275 r.dx) ∈ news) (h2 : (r.dx, dictOf (r.es w st) 10) ∈ news) (h : ∀ s', Cx (KK w) g L o s' m news → Q (.int (W r.f r.a.ring st.e) st.te) s') :
    wpAny (model prog w) A (getAttr (.ref r.x) "told_edge" expr) Q E s := xAttr C h1 h2 rfl (cRplain _) cRdict fR_told_edge rfl rfl h
theorem r_fin_at (C : Cx (KK w) g L o s m news) {expr : Bool} {Q : Value → Shared → Prop} (h1 : (r.x, instObj 275 r.dx) ∈ news) (h2 : (r.dx, dictOf (r.es w st) 10) ∈ news) (h : ∀ s', Cx (KK w) g L o s' m news → Q (finV r.f r.a.ring st.fin st.tf) s') :
    wpAny (model prog w) A (getAttr (.ref r.x) "fin_at" expr) Q E s := xAttr C h1 h2 rfl (cRplain _) cRdict fR_fin_at rfl finV_handed h
theorem r_has_fin (C : Cx (KK w) g L o s m news) {expr : Bool} {Q : Value → Shared → Prop} (h1 : (r.x, instObj 275 r.dx) ∈ news) (h2 : (r.dx, dictOf (r.es w st) 10) ∈ news) (h : ∀ s', Cx (KK w) g L o s' m news → Q (.bool st.hf) s') :
    wpAny (model prog w) A (getAttr (.ref r.x) "has_fin" expr) Q E s := xAttr C h1 h2 rfl (cRplain _) cRdict fR_has_fin rfl rfl h
theorem r_urgent_at (C : Cx (KK w) g L o s m news) {expr : Bool} {Q : Value → Shared → Prop} (h1 : (r.x, instObj 275 r.dx) ∈ news) (h2 : (r.dx, dictOf (r.es w st) 10) ∈ news) (h : ∀ s', Cx (KK w) g L o s' m news → Q (.none) s') :
    wpAny (model prog w) A (getAttr (.ref r.x) "urgent_at" expr) Q E s := xAttr C h1 h2 rfl (cRplain _) cRdict fR_urgent_at rfl rfl h
theorem rs_next {v : Int} {t : Tok} (C : Cx (KK w) g L o s m news) {Q : Unit → Shared → Prop} (h1 : (r.x, instObj 275 r.dx) ∈ news) (U : At r.dx (dictOf (r.es w st) 10) (dictOf (r.es w { st with q := v, tq := t }) 10) news news') (h : ∀ s', Cx (KK w) g L o s' m news' → Q () s') :
    wpAny (model prog w) A (setAttr (.ref r.x) "next" (.int (W r.f r.a.ring v) t)) Q E s :=
  xSetAttr C h1 rfl cRset cRover tR_next cRdict (fun tk => rfl) U (by show 10 ≤ 1000; decide) h
theorem rs_ready {v : Addr} (C : Cx (KK w) g L o s m news) {Q : Unit → Shared → Prop} (h1 : (r.x, instObj 275 r.dx) ∈ news) (U : At r.dx (dictOf (r.es w st) 10) (dictOf (r.es w { st with rd := v }) 10) news news') (h : ∀ s', Cx (KK w) g L o s' m news' → Q () s') :
    wpAny (model prog w) A (setAttr (.ref r.x) "ready" (.ref v)) Q E s :=
  xSetAttr C h1 rfl cRset cRover tR_ready cRdict (fun tk => rfl) U (by show 10 ≤ 1000; decide) h
theorem rs_told_edge {v : Int} {t : Tok} (C : Cx (KK w) g L o s m news) {Q : Unit → Shared → Prop} (h1 : (r.x, instObj 275 r.dx) ∈ news) (U : At r.dx (dictOf (r.es w st) 10) (dictOf (r.es w { st with e := v, te := t }) 10) news news') (h : ∀ s', Cx (KK w) g L o s' m news' → Q () s') :
    wpAny (model prog w) A (setAttr (.ref r.x) "told_edge" (.int (W r.f r.a.ring v) t)) Q E s :=
  xSetAttr C h1 rfl cRset cRover tR_told_edge cRdict (fun tk => rfl) U (by show 10 ≤ 1000; decide) h
theorem rs_fin_at {v : Int} {t : Tok} (C : Cx (KK w) g L o s m news) {Q : Unit → Shared → Prop} (h1 : (r.x, instObj 275 r.dx) ∈ news) (U : At r.dx (dictOf (r.es w st) 10) (dictOf (r.es w { st with fin := some v, tf := t }) 10) news news') (h : ∀ s', Cx (KK w) g L o s' m news' → Q () s') :
    wpAny (model prog w) A (setAttr (.ref r.x) "fin_at" (.int (W r.f r.a.ring v) t)) Q E s :=
  xSetAttr C h1 rfl cRset cRover tR_fin_at cRdict (fun tk => rfl) U (by show 10 ≤ 1000; decide) h
theorem rs_has_fin {v : Bool} (C : Cx (KK w) g L o s m news) {Q : Unit → Shared → Prop} (h1 : (r.x, instObj 275 r.dx) ∈ news) (U : At r.dx (dictOf (r.es w st) 10) (dictOf (r.es w { st with hf := v }) 10) news news') (h : ∀ s', Cx (KK w) g L o s' m news' → Q () s') :
    wpAny (model prog w) A (setAttr (.ref r.x) "has_fin" (.bool v)) Q E s :=
  xSetAttr C h1 rfl cRset cRover tR_has_fin cRdict (fun tk => rfl) U (by show 10 ≤ 1000; decide) h
theorem rMeth {nm : Str} {fa : Addr} (hf : findIn (KK w) (.ref 275) nm = some (some (.ref fa))) (ht : isFn (KK w) (.ref fa) = true) (hl : getL nm (r.es w st) = some none) (C : Cx (KK w) g L o s m news) {pq : Sem Bool} {Q : Value × List Value → Shared → Prop}
    (h1 : (r.x, instObj 275 r.dx) ∈ news) (h2 : (r.dx, dictOf (r.es w st) 10) ∈ news) (h : Q (.ref fa, [.ref r.x]) s) : wpAny (model prog w) A (getMethod (.ref r.x) nm pq) Q E s :=
  xMeth C h1 h2 hl (cRplain _) hf ht h
theorem rMethA {x : Str} {fa : Addr} (hf : tR.lookup x = some fa) (hl : getL x (r.es w st) = some none) (C : Cx (KK w) g L o s m news) {pq : Sem Bool} {Q : Value × List Value → Shared → Prop}
    (h1 : (r.x, instObj 275 r.dx) ∈ news) (h2 : (r.dx, dictOf (r.es w st) 10) ∈ news) (h : Q (.ref fa, [.ref r.x]) s) : wpAny (model prog w) A (getMethod (.ref r.x) x pq) Q E s := rMeth (mRall hf).1 (mRall hf).2 hl C h1 h2 h
end
section
variable {prog : Program} {w : World} {A : Around} {E : Value → Shared → Prop} {K : Frag} {g : Heap} {L : Addr} {o : OsState} {s : Shared} {m : Str → Option Value} {news news' : List (Addr × Obj)} {D a : Addr} {l : List UInt8} {i j : Int} {ti tj : Tok}
theorem xSubA2 (C : Cx K g L o s m ((a, slcO (.int i ti) (.int j tj)) :: news)) (hm : (D, bytO l) ∈ news) {value slice : Expr} {Q : Value → Shared → Prop} (h0 : 0 ≤ i) (h1 : 0 ≤ j) (hz : l.length ≤ 1000000)
    (hs : subscripted slice false (.ref D) (.ref a) = operate [.ref a, .ref D] (getItem (.ref D) (.ref a))) (h : ∀ D' s', Cx K g L o s' m ((D', bytO (cut l (some i) (some j))) :: news) → Q (.ref D') s') :
    wpAny (model prog w) A (subscriptTail value slice (.ref D) (.ref a)) Q E s := xSubA C hm (.int _ _) (.int _ _) h0 h1 hz hs h
theorem xSubA1 (C : Cx K g L o s m ((a, slcO (.int i ti) .none) :: news)) (hm : (D, bytO l) ∈ news) {value slice : Expr} {Q : Value → Shared → Prop} (h0 : 0 ≤ i) (hz : l.length ≤ 1000000)
    (hs : subscripted slice false (.ref D) (.ref a) = operate [.ref a, .ref D] (getItem (.ref D) (.ref a))) (h : ∀ D' s', Cx K g L o s' m ((D', bytO (cut l (some i) none)) :: news) → Q (.ref D') s') :
    wpAny (model prog w) A (subscriptTail value slice (.ref D) (.ref a)) Q E s := xSubA C hm (.int _ _) .none h0 (Int.le_refl _) hz hs h
theorem xSubA0 (C : Cx K g L o s m ((a, slcO .none (.int j tj)) :: news)) (hm : (D, bytO l) ∈ news) {value slice : Expr} {Q : Value → Shared → Prop} (h1 : 0 ≤ j) (hz : l.length ≤ 1000000)
    (hs : subscripted slice false (.ref D) (.ref a) = operate [.ref a, .ref D] (getItem (.ref D) (.ref a))) (h : ∀ D' s', Cx K g L o s' m ((D', bytO (cut l none (some j))) :: news) → Q (.ref D') s') :
    wpAny (model prog w) A (subscriptTail value slice (.ref D) (.ref a)) Q E s := xSubA C hm .none (.int _ _) (Int.le_refl _) h1 hz hs h
end
end
section
variable {prog : Program} {w : World} {A : Around} {g : Heap} {L : Addr} {o : OsState} {s : Shared} {m : Str → Option Value} {news : List (Addr × Obj)} {R : Result → Shared → Prop}
theorem b_not_true {b : Bool} (h : (!b) = true) : b = false := by cases b <;> simp_all
theorem b_not_false {b : Bool} (h : (!b) = false) : b = true := by cases b <;> simp_all
variable {r : RH} {st : RS} {t u : Tok} {rd : List UInt8}
/-- the Receiver in the ledger -/
structure RIn (w : World) (news : List (Addr × Obj)) (r : RH) (st : RS) : Prop where
  h1 : (r.x, instObj 275 r.dx) ∈ news
  h2 : (r.dx, dictOf (r.es w st) 10) ∈ news
theorem free_edge_spec (C : Cx (KK w) g L o s m news) (hA : Room A 4) (I : RIn w news r st) (hd : (st.rd, bytO rd) ∈ news) (hl : rd.length ≤ 1000) (hr : 256 ≤ r.a.ring)
    (k : ∀ t s', Cx (KK w) g L o s' m news → R (.ok (.ret (.int (W r.f r.a.ring (st.q + (r.room - rd.length))) t))) s') :
    codeAny (model prog w) A (.call (.ref 167) ⟨[.ref r.x], []⟩) R s := by
  refine call_fn [("self", .ref r.x)] [("self", .ref r.x)] C hA.dep (by rfl) (by rfl) (BindsTo.of_eq rfl) (by rfl) (by rfl) ?_
  clear C
  intro g' L' s' C back
  obtain ⟨h1, h2⟩ := I
  wtm_at "g"
  refine plusW C ((hA.deeper _).le (by decide)) hr ?_
  clear C; intro t s C
  exact k _ _ (back _ _ _ C)
theorem available_spec (C : Cx (KK w) g L o s m news) (hA : Room A 4) (I : RIn w news r st) (hd : (st.rd, bytO rd) ∈ news) (hl : rd.length ≤ 1000)
    (k : ∀ t s', Cx (KK w) g L o s' m news → R (.ok (.ret (.int rd.length t))) s') :
    codeAny (model prog w) A (.call (.ref 237) ⟨[.ref r.x], []⟩) R s := by
  refine call_fn [("self", .ref r.x)] [("self", .ref r.x)] C hA.dep (by rfl) (by rfl) (BindsTo.of_eq rfl) (by rfl) (by rfl) ?_
  clear C
  intro g' L' s' C back
  obtain ⟨h1, h2⟩ := I
  wtm_at "g"
  exact k _ _ (back _ _ _ C)
theorem is_over_spec (C : Cx (KK w) g L o s m news) (hA : Room A 4) (I : RIn w news r st) (hd : (st.rd, bytO rd) ∈ news) (hl : rd.length ≤ 1000)
    (k : ∀ s', Cx (KK w) g L o s' m news → R (.ok (.ret (.bool (st.hf && rd.isEmpty)))) s') :
    codeAny (model prog w) A (.call (.ref 251) ⟨[.ref r.x], []⟩) R s := by
  refine call_fn [("self", .ref r.x)] [("self", .ref r.x)] C hA.dep (by rfl) (by rfl) (BindsTo.of_eq rfl) (by rfl) (by rfl) ?_
  clear C
  intro g' L' s' C back
  obtain ⟨h1, h2⟩ := I
  wtm_at "g"
  refine ⟨fun hb => ?_, fun hb => ?_⟩
  · rw [hb, Bool.true_and] at k
    wtm_at "g"
    rw [show (((rd.length : Int) == 0)) = rd.isEmpty by cases rd <;> simp; omega]
    exact k _ (back _ _ _ C)
  · rw [hb, Bool.false_and] at k
    rw [hb]
    exact k _ (back _ _ _ C)
theorem told_window_spec (C : Cx (KK w) g L o s m news) (hA : Room A 5) (I : RIn w news r st) (hr : 256 ≤ r.a.ring) (he : -128 < st.e - st.q ∧ st.e - st.q < 128)
    (k : ∀ t s', Cx (KK w) g L o s' m news → R (.ok (.ret (.int (max 0 (st.e - st.q)) t))) s') :
    codeAny (model prog w) A (.call (.ref 181) ⟨[.ref r.x], []⟩) R s := by
  refine call_fn [("self", .ref r.x)] [("self", .ref r.x)] C hA.dep (by rfl) (by rfl) (BindsTo.of_eq rfl) (by rfl) (by rfl) ?_
  clear C
  intro g' L' s' C back
  obtain ⟨h1, h2⟩ := I
  wtm_at "g"
  refine beforeW C ((hA.deeper _).le (by decide)) hr (by omega) ?_
  clear C; intro s C
  wtm_at "g"
  refine ⟨fun hb => ?_, fun hb => ?_⟩
  · have hb := of_decide_eq_true hb
    wtm_at "g"
    rw [show max 0 (st.e - st.q) = 0 by omega] at k
    exact k _ _ (back _ _ _ C)
  · have hb := of_decide_eq_false hb
    wtm_at "g"
    refine distW C ((hA.deeper _).le (by decide)) hr (by omega) ?_
    clear C; intro t s C
    rw [show max 0 (st.e - st.q) = st.e - st.q by omega] at k
    exact k _ _ (back _ _ _ C)
theorem At.map_rd {st' : RS} (h2 : (r.dx, dictOf (r.es w st) 10) ∈ news) : ∃ news', At r.dx (dictOf (r.es w st) 10) (dictOf (r.es w st') 10) news news' := At.of_mem h2
theorem should_tell_spec {M : Int} {tm : Tok} (C : Cx (KK w) g L o s m news) (hA : Room A 6) (I : RIn w news r st) (hd : (st.rd, bytO rd) ∈ news) (hl : rd.length ≤ 1000) (hr : 256 ≤ r.a.ring)
    (he : st.hf = false → -128 < st.e - (st.q + (r.room - rd.length)) ∧ st.e - (st.q + (r.room - rd.length)) < 128)
    (k : ∀ s', Cx (KK w) g L o s' m news → R (.ok (.ret (.bool (!st.hf && decide (st.e < st.q + (r.room - rd.length)) && decide (max 1 (min M (r.room / 2)) ≤ st.q + (r.room - rd.length) - st.e))))) s') :
    codeAny (model prog w) A (.call (.ref 174) ⟨[.ref r.x, .int M tm], []⟩) R s := by
  refine call_fn [("self", .ref r.x), ("mss", .int M tm)] [("mss", .int M tm), ("self", .ref r.x)] C hA.dep (by rfl) (by rfl) (BindsTo.of_eq rfl) (by rfl) (by rfl) ?_
  clear C
  intro g' L' s' C back
  have I' := I
  obtain ⟨h1, h2⟩ := I
  generalize hfe : st.q + (r.room - rd.length) = fe at *
  wtm_at "g"
  refine ⟨fun hb => ?_, fun hb => ?_⟩
  · rw [hb] at k
    wtm_at "g"
    exact k _ (back _ _ _ C)
  · have he := he hb
    rw [hb] at k
    wtm_at "g"
    refine free_edge_spec C ((hA.deeper _).le (by decide)) I' hd hl hr ?_
    clear C; intro t s C
    rw [hfe]
    wtm_at "g"
    refine beforeW C ((hA.deeper _).le (by decide)) hr he ?_
    clear C; intro s C
    wtm_at "g"
    refine ⟨fun hb2 => ?_, fun hb2 => ?_⟩
    · have hb2 : decide (st.e < fe) = false := by simpa using hb2
      rw [hb2] at k
      wtm_at "g"
      exact k _ (back _ _ _ C)
    · have hb2 : decide (st.e < fe) = true := by simpa using hb2
      rw [hb2] at k
      have hb2 := of_decide_eq_true hb2
      wtm_at "g"
      refine free_edge_spec C ((hA.deeper _).le (by decide)) I' hd hl hr ?_
      clear C; intro t s C
      rw [hfe]
      wtm_at "g"
      refine distW C ((hA.deeper _).le (by decide)) hr (by omega) ?_
      clear C; intro t s C
      wtm_at "g"
      exact k _ (back _ _ _ C)
theorem let_in_spec {p : Int} {d : List UInt8} {td : Tok} (C : Cx (KK w) g L o s m news) (hA : Room A 5) (I : RIn w news r st) (hr : 256 ≤ r.a.ring) (he : -128 < p - st.e ∧ p - st.e < 128) (hd : d.length ≤ 1000)
    (k : ∀ t s', Cx (KK w) g L o s' m news → R (.ok (.ret (.bytes (if p < st.e then cut d none (some (st.e - p)) else []).toArray t))) s') :
    codeAny (model prog w) A (.call (.ref 202) ⟨[.ref r.x, .int (W r.f r.a.ring p) t, .bytes d.toArray td], []⟩) R s := by
  refine call_fn [("self", .ref r.x), ("seq", .int (W r.f r.a.ring p) t), ("octets", .bytes d.toArray td)] [("octets", .bytes d.toArray td), ("seq", .int (W r.f r.a.ring p) t), ("self", .ref r.x)] C hA.dep (by rfl) (by rfl) (BindsTo.of_eq rfl) (by rfl) (by rfl) ?_
  clear C
  intro g' L' s' C back
  obtain ⟨h1, h2⟩ := I
  wtm_at "g"
  refine beforeW C ((hA.deeper _).le (by decide)) hr he ?_
  clear C; intro s C
  wtm_at "g"
  refine ⟨fun hb => ?_, fun hb => ?_⟩
  rotate_left
  · have hb := of_decide_eq_true (b_not_false hb)
    rw [if_pos hb] at k
    wtm_at "g"
    refine distW C ((hA.deeper _).le (by decide)) hr (by omega) ?_
    clear C; intro t s C
    wtm_at "g"
    exact k _ _ (back _ _ _ C)
  · rw [if_neg (of_decide_eq_false (b_not_true hb))] at k
    wtm_at "g"
    refine ⟨fun hb => ?_, fun hb => ?_⟩
    · wtm_at "g"
      exact k _ _ (back _ _ _ C)
    · wtm_at "g"
      have e : d = [] := by simpa using hb
      subst e
      exact k _ _ (back _ _ _ C)
theorem ahead_of_fin_spec {p fp : Int} {d : List UInt8} {td : Tok} (C : Cx (KK w) g L o s m news) (hA : Room A 5) (I : RIn w news r st) (hf : st.fin = some fp) (hr : 256 ≤ r.a.ring) (he : -128 < p - fp ∧ p - fp < 128) (hd : d.length ≤ 1000)
    (k : ∀ t s', Cx (KK w) g L o s' m news → R (.ok (.ret (.bytes (if p < fp then cut d none (some (fp - p)) else []).toArray t))) s') :
    codeAny (model prog w) A (.call (.ref 216) ⟨[.ref r.x, .int (W r.f r.a.ring p) t, .bytes d.toArray td], []⟩) R s := by
  refine call_fn [("self", .ref r.x), ("seq", .int (W r.f r.a.ring p) t), ("octets", .bytes d.toArray td)] [("octets", .bytes d.toArray td), ("seq", .int (W r.f r.a.ring p) t), ("self", .ref r.x)] C hA.dep (by rfl) (by rfl) (BindsTo.of_eq rfl) (by rfl) (by rfl) ?_
  clear C
  intro g' L' s' C back
  obtain ⟨h1, h2⟩ := I
  have hfv : finV r.f r.a.ring st.fin st.tf = .int (W r.f r.a.ring fp) st.tf := by rw [hf]; rfl
  wtm_at "g"
  rw [hfv]
  refine beforeW C ((hA.deeper _).le (by decide)) hr he ?_
  clear C; intro s C
  wtm_at "g"
  refine ⟨fun hb => ?_, fun hb => ?_⟩
  rotate_left
  · have hb := of_decide_eq_true (b_not_false hb)
    rw [if_pos hb] at k
    wtm_at "g"
    rw [hfv]
    refine distW C ((hA.deeper _).le (by decide)) hr (by omega) ?_
    clear C; intro t s C
    wtm_at "g"
    exact k _ _ (back _ _ _ C)
  · rw [if_neg (of_decide_eq_false (b_not_true hb))] at k
    wtm_at "g"
    exact k _ _ (back _ _ _ C)

end
section
variable {prog : Program} {w : World} {A : Around} {g : Heap} {L : Addr} {o : OsState} {s : Shared} {m : Str → Option Value} {news : List (Addr × Obj)} {R : Result → Shared → Prop}
variable {r : RH} {st : RS} {t u : Tok} {rd : List UInt8} {pl : Addr}
theorem lst_ne_dict {vs : List Value} {m n : Nat} {es : List DictEntry} (e : lstO vs m = dictOf es n) : False := by
  have h := congrArg Obj.cls e
  simp only [lstO, W.listOf, dictOf, Value.type.injEq] at h
  exact absurd h (by decide)
theorem has_holes_spec {vs : List Value} {n : Nat} (C : Cx (KK w) g L o s m news) (hA : Room A 6) (I : RIn w news r st) (h3 : (r.a.x, instObj 141 r.a.dx) ∈ news) (h4 : (r.a.dx, dictOf (r.a.es w pl) 2) ∈ news) (h5 : (pl, lstO vs n) ∈ news)
    (k : ∀ s', Cx (KK w) g L o s' m news → R (.ok (.ret (.bool (!vs.isEmpty)))) s') :
    codeAny (model prog w) A (.call (.ref 230) ⟨[.ref r.x], []⟩) R s := by
  refine call_fn [("self", .ref r.x)] [("self", .ref r.x)] C hA.dep (by rfl) (by rfl) (BindsTo.of_eq rfl) (by rfl) (by rfl) ?_
  clear C
  intro g' L' s' C back
  obtain ⟨h1, h2⟩ := I
  wtm_at "g"
  refine is_empty_spec C ((hA.deeper _).le (by decide)) h3 h4 h5 ?_
  clear C; intro s C
  wtm_at "g"
  exact k _ (back _ _ _ C)
theorem read_spec {n : Int} {tn : Tok} (C : Cx (KK w) g L o s m news) (hA : Room A 6) (I : RIn w news r st) (hd : (st.rd, bytO rd) ∈ news) (hl : rd.length ≤ 1000) (hn : 0 ≤ n)
    (k : ∀ t D T news' s', At r.dx (dictOf (r.es w st) 10) (dictOf (r.es w { st with rd := D }) 10) news news' → Cx (KK w) g L o s' m (T ++ news') → (D, bytO (cut rd (some (cut rd none (some n)).length) none)) ∈ T → R (.ok (.ret (.bytes (cut rd none (some n)).toArray t))) s') :
    codeAny (model prog w) A (.call (.ref 244) ⟨[.ref r.x, .int n tn], []⟩) R s := by
  refine call_fn [("self", .ref r.x), ("many", .int n tn)] [("many", .int n tn), ("self", .ref r.x)] C hA.dep (by rfl) (by rfl) (BindsTo.of_eq rfl) (by rfl) (by rfl) ?_
  clear C
  intro g' L' s' C back
  obtain ⟨h1, h2⟩ := I
  have hc := cut_length rd none (some n)
  wtm_at "g"
  obtain ⟨news', U⟩ := At.map_rd (st' := { st with rd := D }) h2
  wtm_at "g"
  exact k _ _ [_, _] _ _ U (back _ _ _ C) (.head _)
theorem window_spec (C : Cx (KK w) g L o s m news) (hA : Room A 8) (I : RIn w news r st) (hd : (st.rd, bytO rd) ∈ news) (hl : rd.length ≤ 1000) (hr : 256 ≤ r.a.ring)
    (he : st.hf = false → -128 < st.e - (st.q + (r.room - rd.length)) ∧ st.e - (st.q + (r.room - rd.length)) < 128)
    (he2 : ∀ e, (e = st.e ∨ (st.hf = false ∧ e = st.q + (r.room - rd.length))) → -128 < e - st.q ∧ e - st.q < 128)
    (k : ∀ e te t news' s', e = (if !st.hf && decide (st.e < st.q + (r.room - rd.length)) && decide (max 1 (min r.mss (r.room / 2)) ≤ st.q + (r.room - rd.length) - st.e) then st.q + (r.room - rd.length) else st.e) →
      At r.dx (dictOf (r.es w st) 10) (dictOf (r.es w { st with e := e, te := te }) 10) news news' → Cx (KK w) g L o s' m news' → R (.ok (.ret (.int (max 0 (e - st.q)) t))) s') :
    codeAny (model prog w) A (.call (.ref 188) ⟨[.ref r.x], []⟩) R s := by
  refine call_fn [("self", .ref r.x)] [("self", .ref r.x)] C hA.dep (by rfl) (by rfl) (BindsTo.of_eq rfl) (by rfl) (by rfl) ?_
  clear C
  intro g' L' s' C back
  have I' := I
  obtain ⟨h1, h2⟩ := I
  generalize hfe : st.q + (r.room - rd.length) = fe at *
  wtm_at "g"
  refine should_tell_spec C ((hA.deeper _).le (by decide)) I' hd hl hr (hfe ▸ he) ?_
  clear C; intro s C
  rw [hfe]
  wtm_at "g"
  refine ⟨fun hb => ?_, fun hb => ?_⟩
  · rw [if_pos hb] at k
    simp only [Bool.and_eq_true, Bool.not_eq_true'] at hb
    wtm_at "g"
    refine free_edge_spec C ((hA.deeper _).le (by decide)) I' hd hl hr ?_
    clear C; intro t s C
    rw [hfe]
    obtain ⟨news', U⟩ := At.map_rd (st' := { st with e := fe, te := t }) h2
    have h1' := U.keep _ h1 (fun e => by injection e with _ e; cases e)
    have h2' := U.mem'
    wtm_at "g"
    refine told_window_spec (st := { st with e := fe, te := t }) C ((hA.deeper _).le (by decide)) ⟨h1', h2'⟩ hr (he2 _ (.inr ⟨hb.1.1, rfl⟩)) ?_
    clear C; intro t s C
    exact k _ _ _ _ _ rfl U (back _ _ _ C)
  · rw [if_neg (by rw [hb]; decide)] at k
    wtm_at "g"
    refine told_window_spec C ((hA.deeper _).le (by decide)) I' hr (he2 _ (.inl rfl)) ?_
    clear C; intro t s C
    exact k _ st.te _ _ _ rfl (At.refl h2) (back _ _ _ C)
theorem note_fin_spec {p : Int} {vs : List Value} {n : Nat} {ps : List (Int × List UInt8)} (C : Cx (KK w) g L o s m news) (hA : Room A 8) (I : RIn w news r st) (h3 : (r.a.x, instObj 141 r.a.dx) ∈ news) (h4 : (r.a.dx, dictOf (r.a.es w pl) 2) ∈ news) (h5 : (pl, lstO vs n) ∈ news) (hne : r.a.dx ≠ r.dx)
    (hP : PartsIn news vs (WP r.f r.a.ring ps)) (hr : 256 ≤ r.a.ring) (hpq : ∀ x ∈ ps, -128 < x.1 - st.q ∧ x.1 - st.q < 128) (he : -128 < p - st.q ∧ p - st.q < 128) (hps : ps.length ≤ 1000) (hd : ∀ x ∈ ps, x.2.length ≤ 1000)
    (k1 : (st.fin.isSome = true ∨ p < st.q) → ∀ s', Cx (KK w) g L o s' m news → R (.ok (.ret .none)) s')
    (k2 : st.fin = none → ¬ p < st.q → ∀ tf pl' vs' n' T news1 news' s', At r.dx (dictOf (r.es w st) 10) (dictOf (r.es w { st with fin := some p, tf := tf }) 10) news news1 → At r.a.dx (dictOf (r.a.es w pl) 2) (dictOf (r.a.es w pl') 2) news1 news' →
      Cx (KK w) g L o s' m (T ++ news') → (pl', lstO vs' n') ∈ T → PartsIn T vs' (WP r.f r.a.ring (cutLoop p ps [])) → R (.ok (.ret .none)) s') :
    codeAny (model prog w) A (.call (.ref 209) ⟨[.ref r.x, .int (W r.f r.a.ring p) t], []⟩) R s := by
  refine call_fn [("self", .ref r.x), ("place", .int (W r.f r.a.ring p) t)] [("place", .int (W r.f r.a.ring p) t), ("self", .ref r.x)] C hA.dep (by rfl) (by rfl) (BindsTo.of_eq rfl) (by rfl) (by rfl) ?_
  clear C
  intro g' L' s' C back
  have I' := I
  obtain ⟨h1, h2⟩ := I
  have hfn : (finV r.f r.a.ring st.fin st.tf == .none) = st.fin.isNone := by cases st.fin <;> rfl
  wtm_at "g"
  rw [hfn]
  refine ⟨fun hb => ?_, fun hb => ?_⟩
  · wtm_at "g"
    refine beforeW C ((hA.deeper _).le (by decide)) hr he ?_
    clear C; intro s C
    wtm_at "g"
    refine ⟨fun hb2 => ?_, fun hb2 => ?_⟩
    · have hb2 := of_decide_eq_false (b_not_true hb2)
      have k2 := k2 (by cases h : st.fin <;> simp_all) hb2
      obtain ⟨news1, U⟩ := At.map_rd (st' := { st with fin := some p, tf := t }) h2
      have h1' := U.keep _ h1 (fun e => by injection e with _ e; cases e)
      have h2' := U.mem'
      have h3' := U.keep _ h3 (fun e => by injection e with _ e; cases e)
      have h4' := U.keep _ h4 (fun e => by injection e with e _; exact hne e)
      have h5' := U.keep _ h5 (fun e => lst_ne_dict (congrArg (fun z => z.2) e))
      wtm_at "g"
      refine cut_behind_spec C ((hA.deeper _).le (by decide)) h3' h4' h5' (hP.upd U) hr hpq he hps hd ?_
      clear C; intro pl' vs' n' T news' s U2 C hm' hP'
      wtm_at "g"
      exact k2 _ _ _ _ _ _ _ _ U U2 (back _ _ _ C) hm' hP'
    · have hb2 := of_decide_eq_true (b_not_false hb2)
      wtm_at "g"
      exact k1 (.inr hb2) _ (back _ _ _ C)
  · wtm_at "g"
    exact k1 (.inl (by cases h : st.fin <;> simp_all)) _ (back _ _ _ C)

end
section
/-- no code that may hold a bytearray -/
def calmC : Code → Bool
  | .builtin id _ => !(["bytearray.__contains__", "bytearray.__mod__", "bytearray.__rmod__", "_struct.pack_into.held", "bytearray.find.held"].contains id) && !(Builtin.Bytes.decodersThatHold.contains id)
  | _ => true
def calmL (l : List (Code × Pos)) : Prop := ∀ x ∈ l, calmC x.1 = true
theorem calmL.cons {c : Code} {p : Pos} {l : List (Code × Pos)} (h : calmC c = true) (hl : calmL l) : calmL ((c, p) :: l) := by
  intro x hx; cases hx with | head => exact h | tail _ h' => exact hl x h'
def wpX {α : Type} (M : Model) (A : Around) (t : Sem α) (Q : α → Shared → Prop) (E : Value → Shared → Prop) (s : Shared) : Prop :=
  ∀ Γ p, Γ.In A → calmC Γ.code = true → calmL Γ.below → Sem.wp M Γ t (fun a _ s' => Q a s') (fun e _ s' => E e s') p s
def codeX (M : Model) (A : Around) (c : Code) (R : Result → Shared → Prop) (s : Shared) : Prop :=
  ∀ Γ p, Γ.code = c → Γ.Below A → calmL Γ.below → wpCode M Γ R p s
section
variable {α β : Type} {M : Model} {A : Around} {E : Value → Shared → Prop} {s : Shared}
theorem xa {t : Sem α} {Q : α → Shared → Prop} (h : wpAny M A t Q E s) : wpX M A t Q E s := fun Γ p hΓ _ _ => h Γ p hΓ
theorem cxa {c : Code} {R : Result → Shared → Prop} (h : codeAny M A c R s) : codeX M A c R s := fun Γ p hc hΓ _ => h Γ p hc hΓ
theorem wpX_mono {t : Sem α} {Q Q' : α → Shared → Prop} {E' : Value → Shared → Prop} (h : wpX M A t Q E s)
    (hQ : ∀ a s, Q a s → Q' a s) (hE : ∀ e s, E e s → E' e s) : wpX M A t Q' E' s :=
  fun Γ p hΓ h1 h2 => Sem.wp_mono M Γ t (fun a _ s => hQ a s) (fun e _ s => hE e s) p s (h Γ p hΓ h1 h2)
theorem wpX_bind {m : Sem α} {f : α → Sem β} {Q : β → Shared → Prop} (h : wpX M A m (fun a s' => wpX M A (f a) Q E s') E s) :
    wpX M A (m >>= f) Q E s := fun Γ p hΓ h1 h2 => by
  rw [Sem.wp_bind']
  exact Sem.wp_mono M Γ m (fun a p' s' h' => h' Γ p' hΓ h1 h2) (fun _ _ _ h' => h') p s (h Γ p hΓ h1 h2)
theorem wpX_pure {a : α} {Q : α → Shared → Prop} (h : Q a s) : wpX M A (pure a) Q E s := fun _ _ _ _ _ => h
theorem wpX_holding {vs : List Value} {m : Sem α} {Q : α → Shared → Prop} (h : wpX M A m Q E s) : wpX M A (holding vs m) Q E s :=
  fun Γ p hΓ h1 h2 => by rw [Sem.wp_holding]; exact h Γ p hΓ h1 h2
theorem wpX_onRaise {m : Sem α} {k : Value → Sem Unit} {Q : α → Shared → Prop}
    (h : wpX M A m Q (fun e s' => wpX M A (k e) (fun _ s'' => E e s'') E s') s) : wpX M A (m.onRaise k) Q E s := fun Γ p hΓ h1 h2 => by
  rw [Sem.wp_onRaise]
  exact Sem.wp_mono M Γ m (fun _ _ _ h' => h') (fun e p' s' h' => h' Γ p' hΓ h1 h2) p s (h Γ p hΓ h1 h2)
theorem wpX_runValue {c : Code} {Q : Value → Shared → Prop}
    (hc : codeX M A c (fun r s' => match r with | .ok (.ret v) => Q v s' | .ok _ => False | .error e => E e s') s) :
    wpX M A (runValue c) Q E s := fun Γ p hΓ h1 h2 => by rw [Sem.wp_runValue]; exact hc _ p rfl (hΓ.enter c none p (by intro x; cases x)) (h2.cons h1)
theorem wpX_call {f : Value} {pos : List Value} {kw : List (Str × Value)} {Q : Value → Shared → Prop}
    (hc : codeX M A (.call f ⟨pos, kw⟩) (fun r s' => match r with | .ok (.ret v) => Q v s' | .ok _ => False | .error e => E e s') s) :
    wpX M A (call f pos kw) Q E s := wpX_runValue hc
theorem wpX_run {c : Code} {Q : Flow → Shared → Prop}
    (hc : codeX M A c (fun r s' => match r with | .ok f => Q f s' | .error e => E e s') s) :
    wpX M A (run c none) Q E s :=
  fun Γ p hΓ h1 h2 => by rw [Sem.wp_run]; exact hc _ p rfl (hΓ.enter c none p (by intro x; cases x)) (h2.cons h1)
theorem codeX_of_tree {c : Code} {R : Result → Shared → Prop} (hcalm : calmC c = true)
    (h : wpX M (A.under c) (M.den c) (fun fin s' => match fin with | .done f => R (.ok f) s' | .again c' => c'.quiet = true ∧ codeX M A c' R s')
      (fun e s' => R (.error e) s') s) : codeX M A c R s := fun Γ p hc hΓ h2 => by
  rw [wpCode_iff_wp, hc]
  refine Sem.wp_mono M Γ _ (fun fin p' s' h' => ?_) (fun _ _ _ h' => h') p s (h Γ p (hc ▸ hΓ.in) (hc ▸ hcalm) h2)
  cases fin with
  | done f => exact h'
  | again c' => exact ⟨h'.1, h'.2 (Γ.goto c') p' rfl (hΓ.goto c') h2⟩
theorem codeX_mono {c : Code} {R R' : Result → Shared → Prop} (h : codeX M A c R s) (hR : ∀ r s, R r s → R' r s) : codeX M A c R' s := by
  intro Γ p hc hΓ h2
  obtain ⟨r, s', hr, hR'⟩ := h Γ p hc hΓ h2
  exact ⟨r, s', hr, hR r s' hR'⟩
theorem codeX_loop {c : Code} {R : Result → Shared → Prop} (hq : c.quiet = true) (hcalm : calmC c = true) (I : Nat → Shared → Prop)
    (turn : ∀ n s, I n s → wpX M (A.under c) (M.den c)
      (fun fin s' => match fin with
        | .done f => R (.ok f) s'
        | .again c' => (c' = c ∧ ∃ m, m < n ∧ I m s') ∨ (c'.quiet = true ∧ codeX M A c' R s')) (fun e s' => R (.error e) s') s)
    (n : Nat) (h : I n s) : codeX M A c R s := by
  induction n using Nat.strongRecOn generalizing s with
  | ind n ih =>
    refine codeX_of_tree hcalm (wpX_mono (turn n s h) (fun fin s' hf => ?_) fun _ _ h' => h')
    cases fin with
    | done f => exact hf
    | again c' =>
      rcases hf with ⟨rfl, m, hm, hI⟩ | hf
      · exact ⟨hq, ih m hm hI⟩
      · exact hf
theorem wpX_stack {Q : List (Code × Pos) → Shared → Prop} (h : ∀ st : List (Code × Pos), calmL st → Q st s) : wpX M A stack Q E s := fun Γ p hΓ h1 h2 => by
  show Q ((Γ.code, p) :: Γ.below) s
  exact h _ (h2.cons h1)
theorem wpX_keep {t : Sem α} {vs : List Value} {Q : α → Shared → Prop} (h : wpX M A t Q E s) : wpX M A (t.keep vs) Q E s := fun Γ p hΓ h1 h2 => by
  rw [Sem.wp_keep]; exact h Γ p hΓ h1 h2
theorem wpX_execs_cons {st : Stmt} {rest : List Stmt} {env : Env} {Q : Flow → Shared → Prop}
    (h : wpX M A (exec st env) (fun f s' => match f with | .next => wpX M A (execs rest env) Q E s' | f => Q f s') E s) : wpX M A (execs (st :: rest) env) Q E s := by
  rw [execs_cons]
  refine wpX_bind (wpX_mono h (fun f s' h' => ?_) fun _ _ e => e)
  cases f with
  | next => exact h'
  | brk => exact wpX_pure h'
  | cont => exact wpX_pure h'
  | ret v => exact wpX_pure h'
/-- a part walked in any context, then one in calm contexts -/
theorem wpX_split {pre rest : List Stmt} {env : Env} {Q : Flow → Shared → Prop}
    (h : wpAny M A (execs pre env) (fun f s' => f = .next ∧ wpX M A (execs rest env) Q E s') E s) : wpX M A (execs (pre ++ rest) env) Q E s := by
  rw [execs_append]
  refine wpX_bind (xa (wpAny_mono h (fun f s' h' => ?_) fun _ _ e => e))
  obtain ⟨rfl, h'⟩ := h'
  exact h'
theorem wpX_Assign_Name {x : Str} {pos' pos : Pos} {value : Expr} {env : Env} {Q : Flow → Shared → Prop}
    (h : wpX M A (eval value env) (fun v s₁ => wpAny M A (storeName env x v) (fun _ => Q .next) E s₁) E s)
    (hs : swapsWith value (some (.Name x pos')) pos.line env = pure false := by with_unfolding_all exact rfl) :
    wpX M A (exec (.Assign [.Name x pos'] value pos) env) Q E s := fun Γ p hΓ h1 h2 => by
  simp only [exec_Assign_Name env x pos' value pos hs, Sem.wp_bind', Sem.wp_cmd_standAt, Sem.wp_bindName, Sem.wp_pure']
  exact Sem.wp_mono M Γ _ (fun v _ s₁ h₁ => h₁ Γ _ hΓ) (fun _ _ _ h' => h') _ _ (h Γ _ hΓ h1 h2)
theorem wpX_Expr {e : Expr} {pos : Pos} {env : Env} {Q : Flow → Shared → Prop} (h : wpX M A (eval e env) (fun v s' => v = .none ∧ Q .next s') E s)
    (hi : interactive env = false := by with_unfolding_all exact rfl) (hs : swapsWith e none pos.line env = pure false := by with_unfolding_all exact rfl) :
    wpX M A (exec (.Expr e pos) env) Q E s := by
  rw [exec_Expr env e pos hi hs]
  refine wpX_bind (xa (wpAny_standAt (wpX_bind (wpX_mono h (fun v s' h' => ?_) fun _ _ x => x))))
  obtain ⟨rfl, h'⟩ := h'
  rw [dropValue_plain (fun a h => by cases h)]
  exact wpX_pure h'
theorem wpX_MethodCall {env : Env} {ob : Expr} {nm : Str} {apos pos : Pos} {args : List Expr} {pl : Sem Bool} {Q : Value → Shared → Prop}
    (h : wpAny M A (eval ob env) (fun ov s₁ => wpAny M A (getMethod ov nm pl) (fun fx s₂ => wpX M A (callWith pos fx.1 fx.2 (backTo pos (starEach args env)) []) Q E s₂) E s₁) E s)
    (he : eval (.Call (.Attribute ob nm apos) args [] pos) env = (do
      let ov ← eval ob env
      standAt apos.atName
      let (f, first) ← holding [ov] (getMethod ov nm pl)
      callWith pos f first (backTo pos (starEach args env)) []) := by with_unfolding_all exact rfl) :
    wpX M A (eval (.Call (.Attribute ob nm apos) args [] pos) env) Q E s := by
  rw [he]
  exact wpX_bind (xa (wpAny_mono h (fun ov s₁ h₁ => wpX_bind (xa (wpAny_standAt (wpX_bind (xa (wpAny_holding (wpAny_mono h₁ (fun fx s₂ h₂ => h₂) fun _ _ e => e))))))) fun _ _ e => e))
theorem wpX_Call {env : Env} {func : Expr} {args : List Expr} {pos : Pos} {Q : Value → Shared → Prop}
    (h : wpAny M A (eval func env) (fun f s₁ => wpX M A (callWith pos f [] (backTo pos (starEach args env)) []) Q E s₁) E s)
    (he : eval (.Call func args [] pos) env = (do callWith pos (← eval func env) [] (backTo pos (starEach args env)) (backToKw pos (keywordEach [] env))) := by with_unfolding_all exact rfl) :
    wpX M A (eval (.Call func args [] pos) env) Q E s := by
  rw [he]; exact wpX_bind (xa h)
theorem callWithX_of {f : Value} {first : List Value} {pos : Pos} {Q : Value → Shared → Prop} {P : Heap → Prop} {args : List (Bool × Sem Value)} (hplain : (args.any (·.1)) = false)
    (hk : ∀ h, P h → ∃ k, (k = Keeper.frame ∨ k = Keeper.machine ∨ k = Keeper.boundFrame) ∧ Looks M h (keeperOf f) k)
    (h : wpAny M A (evalArgs f true args []) (fun a s₁ => P s₁.heap ∧ wpX M A (call f (first ++ a.pos) a.kw) Q E s₁) E s) : wpX M A (callWith pos f first args []) Q E s := by
  have hplain : (args.any (·.1) || ([] : List (Option Str × Sem Value)).any (·.1.isNone)) = false := by rw [hplain]; rfl
  unfold callWith
  refine wpX_bind (xa (wpAny_holding (wpAny_mono h (fun a s₁ h₁ => wpX_bind (xa (wpAny_standAt ?_))) fun _ _ x => x)))
  obtain ⟨k, hk', L⟩ := hk _ h₁.1
  simp only [hplain]
  refine wpX_bind (xa (L.here ?_))
  have tail : ∀ {t : Sem Value}, wpX M A t Q E s₁ → wpX M A (t >>= fun r => holding [r] point >>= fun _ => pure r) Q E s₁ :=
    fun ht => wpX_bind (wpX_mono ht (fun r s₂ hr => wpX_bind (xa (wpAny_holding (wpAny_point (wpX_pure hr))))) fun _ _ x => x)
  have marked (mk : Value) : wpX M A (callMarked mk f (first ++ a.pos) a.kw) Q E s₁ := by unfold callMarked; exact wpX_keep h₁.2
  rcases hk' with rfl | rfl | rfl <;> dsimp only <;> first | exact tail h₁.2 | (split <;> first | exact tail h₁.2 | exact tail (marked _))
end
section
variable {prog : Program} {w : World} {A : Around} {E : Value → Shared → Prop} {K : Frag} {g : Heap} {L : Addr} {o : OsState} {s : Shared} {m : Str → Option Value} {news : List (Addr × Obj)} {R : Result → Shared → Prop}
theorem xCallX {f : Addr} {first : List Value} {pos : Pos} {env : Env} {e : Expr} {rest : List Expr} {Q : Value → Shared → Prop} (hk : keepIn K (.ref f) = true)
    (h : wpAny (model prog w) A (spliced (backTo pos (starEach (e :: rest) env))) (fun vs s₁ => K.In s₁.heap ∧
      codeX (model prog w) A (.call (.ref f) ⟨first ++ vs, []⟩) (fun r s' => match r with | .ok (.ret v) => Q v s' | .ok _ => False | .error e => E e s') s₁) E s)
    (he : starEach (e :: rest) env = (false, eval e env) :: starEach rest env := by with_unfolding_all exact rfl) (hplain : (backTo pos (starEach rest env)).any (·.1) = false := by with_unfolding_all exact rfl) :
    wpX (model prog w) A (callWith pos (.ref f) first (backTo pos (starEach (e :: rest) env)) []) Q E s := by
  rw [he] at h ⊢
  exact callWithX_of (by show (false || (backTo pos (starEach rest env)).any (·.1)) = false; rw [hplain]; rfl) (keeps_K hk) (Calls.evalArgs_plain (wpAny_mono h (fun vs s₁ h' => ⟨h'.1, wpX_call h'.2⟩) fun _ _ e => e))
theorem xCallX0 {f : Addr} {first : List Value} {pos : Pos} {env : Env} {Q : Value → Shared → Prop} (C : Cx K g L o s m news) (hk : keepIn K (.ref f) = true)
    (h : codeX (model prog w) A (.call (.ref f) ⟨first ++ [], []⟩) (fun r s' => match r with | .ok (.ret v) => Q v s' | .ok _ => False | .error e => E e s') s) :
    wpX (model prog w) A (callWith pos (.ref f) first (backTo pos (starEach [] env)) []) Q E s :=
  callWithX_of rfl (keeps_K hk) (evalArgs_nil3 ⟨C.kin, wpX_call h⟩)
theorem codeX_func {body : List Stmt} {env : Env}
    (h : wpX (model prog w) (A.deeper env) (execs body env) (fun f s' => R (.ok (.ret (retOf f))) s') (fun _ _ => False) s) : codeX (model prog w) A (.func body env) R s := by
  refine codeX_of_tree rfl ?_
  show wpX _ (A.deeper env) (do point; match ← (execs body env).onRaise (leaving env) with | .ret v => ret v | _ => ret .none) _ _ s
  refine wpX_bind (xa (wpAny_point (wpX_bind (wpX_onRaise (wpX_mono h (fun f s' h' => ?_) fun _ _ e => e.elim)))))
  cases f <;> exact wpX_pure h'
theorem codeX_call_function {a : Addr} {args : Args} {o : Obj} {fd : FuncData} {body : List Stmt} (hroom : A.depth < recursionLimit)
    (ho : s.heap.get? a = some o)
    (hd' : o.data = .func fd) (hco : fd.scope.isCoroutine = false) (hgen : fd.scope.isGenerator = false) (hbody : fd.body = .stmts body) (hcd : s.heap.CodeRec fd.code fd.qualname)
    (h : wpAny (model prog w) A.in1 (bindArgs fd args) (fun binds s₁ =>
      wpAny (model prog w) A.in1 (newFunctionEnv fd.scope fd.globals fd.closure binds (fd.qualname ++ ".<locals>.") (some a) fd.code none fd.builtins)
        (fun env s₂ => s₂.heap.NoLimit ∧ codeX (model prog w) A (.func body env) R s₂) (fun e s' => R (.error e) s') s₁) (fun e s' => R (.error e) s') s) :
    codeX (model prog w) A (.call (.ref a) args) R s := by
  refine codeX_of_tree rfl (xa ?_)
  show wpAny _ A.in1 (callAny (.ref a) args) _ _ s
  simp only [callAny]
  refine wpAny_bind (wpAny_load ho ?_)
  obtain ⟨c, oc, vs, tq, hc, hoc, hdc, hq⟩ := hcd
  simp only [hd', callFunction, hco, hgen, hbody, hc]
  rw [hc] at h
  refine wpAny_bind (m := field (.ref c) 1) (wpAny_field hoc hdc hq (wpAny_bind (wpAny_pure ?_)))
  exact wpAny_bind (wpAny_mono h (fun binds s₁ h₁ => wpAny_bind (wpAny_mono h₁ (fun env s₂ h₂ => wpAny_bind (wpAny_enterFrame h₂.1 hroom
    (wpAny_pure (And.intro rfl h₂.2)))) fun _ _ h' => h')) fun _ _ h' => h')
theorem codeX_call_def {a : Addr} {o : Obj} {fd : FuncData} {body : List Stmt} {args : Args} {binds : List (Str × Value)}
    (hroom : A.depth < recursionLimit) (ho : s.heap.get? a = some o) (hdata : o.data = .func fd) (hlim : s.heap.NoLimit) (hcd : s.heap.CodeRec fd.code fd.qualname)
    (hbody : fd.body = .stmts body) (hbind : BindsTo s fd args binds)
    (hcell : ∀ x ∈ fd.scope.names, x.2 ≠ .cell) (hloc : ∀ x ∈ binds, fd.scope.names.lookup x.1 = some .local)
    (h : ∀ h₀, h₀.Ns s.heap.objs.size (fun x => binds.reverse.lookup x) → (∀ b o, s.heap.get? b = some o → h₀.get? b = some o) →
      wpX (model prog w) (A.deeper (callEnv fd s.heap.objs.size a)) (execs body (callEnv fd s.heap.objs.size a)) (fun f s' => R (.ok (.ret (retOf f))) s') (fun _ _ => False)
        { s with heap := h₀, toks := s.toks + binds.length })
    (hco : fd.scope.isCoroutine = false := by rfl) (hgen : fd.scope.isGenerator = false := by rfl) (hk : fd.scope.kind = .function := by rfl) :
    codeX (model prog w) A (.call (.ref a) args) R s := by
  refine codeX_call_function hroom ho hdata hco hgen hbody hcd (hbind _ _ _ _ ?_)
  refine wpAny_newFunctionEnv hcell hloc (fun h₀ hns₀ hsb₀ => ⟨hlim.fresh _ hsb₀, codeX_func (h h₀ hns₀ fun b o e => ?_)⟩) hk
  exact hsb₀.extBut b o (Nat.ne_of_lt (Heap.lt_size e)) (Heap.get?_push_of_some _ e)
theorem call_fnX0 {name qual : Str} {params : Arguments} {body : List Stmt} {scope : Scope} {dV kV doc pm cdv ct oc : Value} {an od : Option Addr} {osl : Array (Option Value)} {f : Addr} {args : Args} (binds l : List (Str × Value))
    (C : Cx K g L o s m news) (hroom : A.depth < 1000)
    (ho : K.lookup f = some ⟨oc, od, .func (fnOf name qual params body scope dV kV doc pm an cdv ct), osl⟩) (hcd : codeIn K cdv qual = true)
    (hbind : BindsTo s (fnOf name qual params body scope dV kV doc pm an cdv ct) args binds) (hloc : (binds.all fun x => decide (scope.names.lookup x.1 = some .local)) = true)
    (hl : binds.reverse = l)
    (h : ∀ g' L' s', Cx K g' L' o s' (lk l) news → (∀ s'' m'' news'', Cx K g' L' o s'' m'' news'' → Cx K g L o s'' m news'') →
      wpX (model prog w) (A.deeper (envOf qual scope L' f cdv)) (execs body (envOf qual scope L' f cdv)) (fun fl s'' => R (.ok (.ret (retOf fl))) s'') (fun _ _ => False) s')
    (hco : scope.isCoroutine = false := by rfl) (hgen : scope.isGenerator = false := by rfl) (hk : scope.kind = .function := by rfl)
    (hcell : ∀ x ∈ scope.names, x.2 ≠ .cell := by decide) : codeX (model prog w) A (.call (.ref f) args) R s := by
  subst hl
  have X := C.kin
  obtain ⟨_, _, _, _, T⟩ := C.st.t
  have F := C.fr
  have N := C.nw
  refine codeX_call_def (fd := fnOf name qual params body scope dV kV doc pm an cdv ct) (body := body) (binds := binds) hroom (X _ _ ho) rfl (T.nolimit.keeps F.keep) (codeRec_of X hcd) rfl hbind hcell (locs hloc) (fun h₁ hns hk₁ => ?_) hco hgen hk
  have nm : ∀ b o, g.get? b = some o → b ∉ news.map (·.1) := fun b o e q => by
    obtain ⟨p, hp, rfl⟩ := List.mem_map.mp q
    rw [(N p hp).2.2] at e; cases e
  have st : g.StaysIn (hideAll s.heap (news.map (·.1))) := fun b o e => hideAll_get _ (F.keep b o e) (nm b o e)
  obtain ⟨oL, es, ep, hL, hLd, hLk, hLf⟩ := F.ns
  have nL : L ∉ news.map (·.1) := fun q => by
    obtain ⟨p, hp, e⟩ := List.mem_map.mp q
    exact (N p hp).2.1 e
  have hLg := hideAll_get (news.map (·.1)) hL nL
  have back : ∀ L' s'' m'' news'', Cx K (hideAll s.heap (news.map (·.1))) L' o s'' m'' news'' → Cx K g L o s'' m news'' := by
    intro L' s'' m'' news'' C'
    refine ⟨C.st, ⟨⟨oL, es, ep, C'.fr.keep L oL hLg, hLd, hLk, hLf⟩, fun b o e => C'.fr.keep b o (st b o e), F.above⟩, fun p hp => ⟨(C'.nw p hp).1, fun q => ?_, ?_⟩, C'.nd, C'.gn, C'.os⟩
    · have := (C'.nw p hp).2.2; rw [q, hLg] at this; cases this
    · cases q : g.get? p.1 with
      | none => rfl
      | some o => have := (C'.nw p hp).2.2; rw [st _ _ q] at this; cases this
  refine h (hideAll s.heap (news.map (·.1))) s.heap.objs.size _ ?_ (back _)
  refine ⟨C.st.keeps st, ⟨hns, fun b o e => hk₁ b o (of_hideAll _ e), Nat.le_of_eq (hideAll_size _ _)⟩, ?_, C.nd, C.gn, C.os⟩
  exact fun p hp => ⟨hk₁ _ _ (N p hp).1, Nat.ne_of_lt (Heap.lt_size (N p hp).1), hideAll_none _ (List.mem_map_of_mem hp)⟩
theorem call_fnX {name qual : Str} {params : Arguments} {body body' : List Stmt} {scope scope' : Scope} {dV kV doc pm cdv ct oc : Value} {an od : Option Addr} {osl : Array (Option Value)} {f : Addr} {args : Args} (binds l : List (Str × Value))
    (C : Cx K g L o s m news) (hroom : A.depth < 1000)
    (ho : K.lookup f = some ⟨oc, od, .func (fnOf name qual params body scope dV kV doc pm an cdv ct), osl⟩) (hcd : codeIn K cdv qual = true)
    (hbind : BindsTo s (fnOf name qual params body scope dV kV doc pm an cdv ct) args binds) (hloc : (binds.all fun x => decide (scope.names.lookup x.1 = some .local)) = true)
    (hl : binds.reverse = l)
    (h : ∀ g' L' s', Cx K g' L' o s' (lk l) news → (∀ s'' m'' news'', Cx K g' L' o s'' m'' news'' → Cx K g L o s'' m news'') →
      wpX (model prog w) (A.deeper (envOf qual scope' L' f cdv)) (execs body' (envOf qual scope' L' f cdv)) (fun fl s'' => R (.ok (.ret (retOf fl))) s'') (fun _ _ => False) s')
    (eb : body = body' := by with_unfolding_all (conv => lhs; whnf) <;> exact rfl) (es : scope = scope' := by with_unfolding_all (conv => lhs; whnf) <;> exact rfl)
    (hco : scope'.isCoroutine = false := by rfl) (hgen : scope'.isGenerator = false := by rfl) (hk : scope'.kind = .function := by rfl)
    (hcell : ∀ x ∈ scope'.names, x.2 ≠ .cell := by decide) : codeX (model prog w) A (.call (.ref f) args) R s := by
  subst eb es
  exact call_fnX0 binds l C hroom ho hcd hbind hloc hl h hco hgen hk hcell
end
end
section
open PySem.W.KBy Builtin
theorem plain_ba : PlainAttrs "bytearray" :=
  ⟨⟨"bytearray.__getattribute__", by rw [typeLookup_type, builtinLookup_eq_fast]; kernel_rfl, by decide +kernel⟩, by rw [typeLookup_type, builtinLookup_eq_fast]; kernel_rfl⟩
theorem slot_ba_extend : Slot "bytearray" "extend" "bytearray.extend" :=
  .of (owner := "bytearray") (n := "extend") (by rw [typeLookup_type, builtinLookup_eq_fast]; kernel_rfl) (by decide +kernel) (by decide +kernel) (by decide +kernel)
    (by first | exact .inl (by decide +kernel) | exact .inr (by decide +kernel)) (by rw [isSubtype_type]; kernel_rfl)
theorem type_ba_extend : typeOf (.builtin "bytearray.extend") = pure (.type "method_descriptor") := by show builtinType _ = _; rw [builtinType_eq_fast]; kernel_rfl
theorem entry_ba_extend : entryFor table "bytearray.extend" = some Builtin.«bytearray.extend» := entryFor_of_tree (by kernel_rfl)
theorem args_ba_extend (a b : Value) : argsOk "bytearray.extend" ⟨[a, b], []⟩ := by
  unfold argsOk; rw [signature?_of (id := "bytearray.extend") (n := ['d', 'n', 'e', 't', 'x', 'e']) (o := ['y', 'a', 'r', 'r', 'a', 'e', 't', 'y', 'b']) (by kernel_rfl) owner_ba]; kernel_rfl
theorem take_eq {b : Array UInt8} {t : Tok} {id : String} : Bytes.takeBufferQuiet? id (.bytes b t) 0 = pure (some (b, none)) := by
  have e : Bytes.takeBuffer? id (.bytes b t) 0 = pure (some (b, none)) := by
    unfold Bytes.takeBuffer?
    rw [special_eq look_buffer, own_buffer]
    simp only [pure_bind]
    rw [show (Bytes.buffer? id (.bytes b t) (full := (0 : Int) == Bytes.fullReadOnly)) = pure (some b) by
      unfold Bytes.buffer?
      rw [special_eq look_buffer, own_buffer, own_release]
      kernel_rfl]
    kernel_rfl
  unfold Bytes.takeBufferQuiet?
  rw [e]
  rfl
section
variable {prog : Program} {w : World} {A : Around} {E : Value → Shared → Prop} {K : Frag} {g : Heap} {L : Addr} {o : OsState} {s : Shared} {m : Str → Option Value} {news news' : List (Addr × Obj)} {D a : Addr} {l d : List UInt8} {t : Tok} {M : Model} {R : Result → Shared → Prop}
theorem codeX_builtin {id : String} {args : Args} {b : Builtin} (hb : entryFor table id = some b) (hcalm : calmC (.builtin id args) = true)
    (h : wpX (model prog w) (A.under (.builtin id args)) (b args)
      (fun fin s' => match fin with | .done f => R (.ok f) s' | .again c' => c'.quiet = true ∧ codeX (model prog w) A c' R s') (fun e s' => R (.error e) s') s) :
    codeX (model prog w) A (.builtin id args) R s := by
  refine codeX_of_tree hcalm ?_
  show wpX _ _ (match entryFor table id with | some b => b args | none => unsupported ((withoutEnding? id "#data").getD id)) _ _ s
  rw [hb]; exact h
theorem codeX_call_builtin {id : String} {args : Args} {b : Builtin} (hq : plainId id = true) (hb : entryFor table id = some b) (hcalm : calmC (.builtin id args) = true)
    (h : wpAny (model prog w) A.in1 (checkBuiltinCall id args) (fun _ s₁ => wpX (model prog w) A.in1 (b args)
      (fun fin s' => match fin with | .done f => R (.ok f) s' | .again c' => c'.quiet = true ∧ codeX (model prog w) A c' R s') (fun e s' => R (.error e) s') s₁)
      (fun e s' => R (.error e) s') s) : codeX (model prog w) A (.call (.builtin id) args) R s := by
  refine codeX_of_tree rfl (xa ?_)
  show wpAny _ A.in1 (do checkBuiltinCall id args; again (.builtin id args)) _ _ s
  refine wpAny_bind (wpAny_mono h (fun _ s₁ h₁ => wpAny_pure ⟨plainId_quiet hq _, codeX_builtin hb hcalm ?_⟩) fun _ _ e => e)
  rw [Around.under_plainId hq _]
  exact h₁
theorem not_exported {v : Value} {Q : Bool → Shared → Prop} (h : Q false s) : wpX M A (Bytes.exported v) Q E s := by
  unfold Bytes.exported
  refine wpX_bind (wpX_stack fun st hst => wpX_pure ?_)
  refine (congrArg (fun b => Q b s) (List.any_eq_false.mpr fun x hx hh => ?_)).mpr h
  have hc := hst x hx
  clear hst hx h
  obtain ⟨c, p⟩ := x
  simp only at hc
  cases c with
  | builtin id args =>
    simp only [calmC, Bool.and_eq_true, Bool.not_eq_true', List.contains_cons, Bool.or_eq_false_iff, beq_eq_false_iff_ne, ne_eq] at hc
    obtain ⟨⟨h1, h2, h3, h4, h5, _⟩, h6⟩ := hc
    obtain ⟨pos, kw⟩ := args
    delta PySem.Builtin.Bytes.exported.match_1 PySem.Builtin.Bytes.exported._sparseCasesOn_1 at hh
    change dite (id = "bytearray.__contains__") _ _ = true at hh
    rw [dif_neg h1] at hh
    change dite (id = "bytearray.__mod__") _ _ = true at hh
    rw [dif_neg h2] at hh
    change dite (id = "bytearray.__rmod__") _ _ = true at hh
    rw [dif_neg h3] at hh
    change dite (id = "_struct.pack_into.held") _ _ = true at hh
    rw [dif_neg h4] at hh
    change dite (id = "bytearray.find.held") _ _ = true at hh
    rw [dif_neg h5] at hh
    cases pos with
    | nil => cases hh
    | cons a b =>
      change (_ && _) = true at hh
      rw [h6, Bool.and_false] at hh
      cases hh
  | _ => cases hh
theorem xMethExt {pl : Sem Bool} {Q : Value × List Value → Shared → Prop} (C : Cx K g L o s m news) (hm : (D, bytO l) ∈ news) (h : Q (.builtin "bytearray.extend", [.ref D]) s) : wpAny (model prog w) A (getMethod (.ref D) "extend" pl) Q E s :=
  getMethod_builtin ⟨_, C.get hm, rfl⟩ plain_ba slot_ba_extend type_ba_extend (fun a e => by cases e; exact ⟨_, C.get hm, rfl⟩) h
theorem not_resized {Q : Unit → Shared → Prop} (ho : s.heap.get? D = some (bytO l)) (h : Q () s) : wpX M A (Bytes.checkResize (.ref D)) Q E s := by
  unfold Bytes.checkResize
  refine wpX_bind (wpX_bind (not_exported ?_))
  refine xa ?_
  show wpAny M A (Bytes.exportsOf (.ref D) >>= fun n => pure (decide (n > 0))) _ _ s
  unfold Bytes.exportsOf
  refine wpAny_bind (wpAny_bind (wpAny_load ho (wpAny_pure (wpAny_pure ?_))))
  exact wpX_pure h
theorem xExtend {Q : Value → Shared → Prop} (C : Cx K g L o s m news) (U : At D (bytO l) (bytO (l ++ d)) news news') (hz : l.length + d.length ≤ 1000000)
    (h : ∀ s', Cx K g L o s' m news' → Q .none s') : wpX (model prog w) A (call (.builtin "bytearray.extend") [.ref D, .bytes d.toArray t] []) Q E s := by
  have ho := C.get U.mem
  have hT : s.TypeIs (.ref D) "bytearray" := ⟨_, ho, rfl⟩
  refine wpX_call (codeX_call_builtin slot_ba_extend.plain entry_ba_extend (show calmC (.builtin "bytearray.extend" ⟨[], []⟩) = true by decide +kernel) (slot_ba_extend.check _ _ _ _ _ _ _ _ hT (args_ba_extend _ _) ?_))
  unfold Builtin.«bytearray.extend»
  refine wpX_bind (m := selfAndOne "bytearray.extend" _) (wpX_pure ?_)
  refine wpX_bind (xa (wpAny_specialOf (typeIs_bytes _ _ _) look_buffer ?_))
  show wpX _ _ (rule "bytearray.extend.bytes-like" >>= _) _ _ _
  refine wpX_bind (xa (wpAny_rule ?_))
  refine wpX_bind (xa (pay_ba ho ?_))
  show wpX _ _ (Bytes.takeBufferQuiet? "bytearray.extend" (Value.bytes d.toArray t) 0 >>= _) _ _ _
  rw [take_eq]
  refine wpX_bind (wpX_pure ?_)
  show wpX _ _ (if (!d.toArray.isEmpty) = true then (Bytes.checkResize (.ref D) >>= fun _ => Bytes.write (.ref D) (· ++ d.toArray) >>= fun _ => ret .none) else (Bytes.write (.ref D) (· ++ d.toArray) >>= fun _ => ret .none)) _ _ _
  have wr : wpX (model prog w) A.in1 (Bytes.write (.ref D) (· ++ d.toArray) >>= fun _ => ret .none) (fun fin s' => match fin with
      | .done f => (match (Except.ok f : Result) with | .ok (.ret v) => Q v s' | .ok _ => False | .error e => E e s')
      | .again c' => c'.quiet = true ∧ codeX (model prog w) A c' (fun r s' => match r with | .ok (.ret v) => Q v s' | .ok _ => False | .error e => E e s') s')
      (fun e s' => match (Except.error e : Result) with | .ok (.ret v) => Q v s' | .ok _ => False | .error e => E e s') s := by
    refine xa ?_
    refine wpAny_bind ?_
    show wpAny _ _ (updateBytearray D (· ++ d.toArray)) _ _ _
    unfold updateBytearray
    refine wpAny_bind (wpAny_load ho ?_)
    show wpAny _ _ (update D (Obj.mapBytearray (· ++ d.toArray)) >>= fun _ => lookBehind D) _ _ _
    refine wpAny_bind (wpAny_update ho ?_)
    have e : Obj.mapBytearray (· ++ d.toArray) (bytO l) = bytO (l ++ d) := by simp [Obj.mapBytearray, bytO]
    have C' := C.upd (tk := s.toks) U e rfl
    refine wpAny_lookBehind (C'.get U.mem') ?_ (wpAny_pure (h _ C'))
    show (if (l ++ d).toArray.size > sizeLine then some "bytearray:memory" else none) = none
    rw [if_neg (by rw [List.size_toArray, List.length_append, sizeLine_eq]; omega)]
  split
  · exact wpX_bind (not_resized ho wr)
  · exact wr
end
end
section
open PySem.W.KBy Builtin
section
variable {α β : Type} {M : Model} {A : Around} {E : Value → Shared → Prop} {s : Shared}
theorem wpX_if_false {c : Bool} {a b : Sem α} {Q : α → Shared → Prop} (hc : c = false) (h : wpX M A b Q E s) : wpX M A (if c = true then a else b) Q E s := by
  subst hc; exact h
theorem wpX_if_true {c : Bool} {a b : Sem α} {Q : α → Shared → Prop} (hc : c = true) (h : wpX M A a Q E s) : wpX M A (if c = true then a else b) Q E s := by
  subst hc; exact h
end
section
variable {prog : Program} {w : World} {A : Around} {E : Value → Shared → Prop} {s : Shared}
theorem callTypeX {T newId initId : String} {args : List Value} {Q Q₁ : Value → Shared → Prop} (ft : TypeCalled T newId initId)
    (hct : checkTypeCall T ⟨args, []⟩ = pure ())
    (hnew : codeAny (model prog w) A.in1 (.call (.builtin newId) ⟨.type T :: args, []⟩) (wants Q₁ E) s)
    (hnext : ∀ obj s₁, Q₁ obj s₁ → s₁.TypeIs obj T ∧ codeX (model prog w) A.in1 (.call (.builtin initId) ⟨obj :: args, []⟩) (wants (fun r s₂ => r = .none ∧ Q obj s₂) E) s₁) :
    wpX (model prog w) A (call (.type T) args) Q E s := by
  obtain ⟨c, tl, hmro⟩ := ft.mro
  have hmade := ft.made
  have hsub := ft.sub
  refine wpX_call (codeX_of_tree rfl ?_)
  show wpX _ _ (callAny (.type T) _) _ _ _
  refine wpX_pure ⟨Code.quiet_builtin _ (by decide +kernel), codeX_builtin F.entry_type_call (show calmC (.builtin "type.__call__" ⟨[], []⟩) = true by decide +kernel) ?_⟩
  rw [Around.under_plain (weight_type_call_type T args []) rfl]
  have h1 := ft.notType
  have h2 := ft.canCreate
  unfold Builtin.«type.__call__»
  refine wpX_if_false h1 ?_
  refine wpX_if_false h2 ?_
  refine wpX_bind (xa (wpAny_of_eq hct ?_))
  refine wpX_bind (xa (wpAny_of_eq hmro ?_))
  refine wpX_if_false rfl ?_
  refine wpX_bind (xa (wpAny_of_eq hmade ?_))
  refine wpX_bind (wpX_pure ?_)
  refine wpX_bind (wpX_holding (xa (wpAny_call (codeAny_mono hnew fun r s₁ hr => ?_))))
  cases r with
  | error e => exact hr
  | ok fl =>
    cases fl with
    | ret obj =>
      obtain ⟨hT, hX⟩ := hnext _ _ hr
      refine wpX_bind (xa (wpAny_isInstance hT hsub ?_))
      refine wpX_if_false rfl ?_
      refine wpX_bind (wpX_holding ?_)
      unfold callSpecial?
      refine wpX_bind (xa (wpAny_specialOf hT ft.init.lookup ?_))
      refine wpX_holding ?_
      refine wpX_bind (xa (wpAny_of_eq (ft.init.bind obj) ?_))
      refine wpX_bind (wpX_call (codeX_mono hX fun r₂ s₂ hr₂ => ?_))
      cases r₂ with
      | error e => exact hr₂
      | ok fl₂ =>
        cases fl₂ with
        | ret r =>
          obtain ⟨rfl, hq⟩ := hr₂
          refine wpX_pure ?_
          refine wpX_if_false rfl ?_
          exact wpX_pure hq
        | _ => exact hr₂.elim
    | _ => exact hr.elim
theorem lookup_ba_new : typeLookup (.type "bytearray") "__new__" = pure (some (.builtin "bytearray.__new__")) := by rw [typeLookup_type, builtinLookup_eq_fast]; kernel_rfl
theorem ba_mro : mroOf (.type "bytearray") = pure [.type "bytearray", .type "object"] := by rw [mroOf_type]; kernel_rfl
theorem slot_ba_init : Slot "bytearray" "__init__" "bytearray.__init__" :=
  .of (owner := "bytearray") (n := "__init__") (by rw [typeLookup_type, builtinLookup_eq_fast]; kernel_rfl) (by decide +kernel) (by decide +kernel) (by decide +kernel)
    (by first | exact .inl (by decide +kernel) | exact .inr (by decide +kernel)) (by rw [isSubtype_type]; kernel_rfl)
theorem called_ba : TypeCalled "bytearray" "bytearray.__new__" "bytearray.__init__" :=
  ⟨by decide +kernel, by decide +kernel, ⟨_, _, ba_mro⟩, madeBy_type ba_mro lookup_ba_new (by decide +kernel), by decide +kernel, by rw [isSubtype_type]; kernel_rfl, slot_ba_init⟩
theorem tc_ba : checkTypeCall "bytearray" ⟨[], []⟩ = pure () := by kernel_rfl
theorem newCall_ba : checkBuiltinCall "bytearray.__new__" ⟨[.type "bytearray"], []⟩ = pure () := by kernel_rfl
theorem entry_ba_new : entryFor table "bytearray.__new__" = some Builtin.«list.__new__» :=
  entryFor_alias (id' := "list.__new__") (by rw [fastTable_eq_tree]; kernel_rfl) (by decide +kernel) (by kernel_rfl) (by rw [fastTable_eq_tree]; kernel_rfl)
theorem entry_ba_init : entryFor table "bytearray.__init__" = some Builtin.«bytearray.__init__» := entryFor_of_tree (by kernel_rfl)
theorem plain_ba_new : plainId "bytearray.__new__" = true := by decide +kernel
theorem args_ba_init (a : Value) : argsOk "bytearray.__init__" ⟨[a], []⟩ := by
  unfold argsOk; rw [signature?_of (id := "bytearray.__init__") (n := ['_', '_', 't', 'i', 'n', 'i', '_', '_']) (o := ['y', 'a', 'r', 'r', 'a', 'e', 't', 'y', 'b']) (by kernel_rfl) owner_ba]; kernel_rfl
theorem bind_ba : Bytes.bindOptional "bytearray.__init__" "bytearray" ["source", "encoding", "errors"] [] [] = pure [none, none, none] := by kernel_rfl
theorem code_ba_new {Q₁ : Value → Shared → Prop}
    (h : Q₁ (.ref s.heap.objs.size) { s with heap := s.heap.push (bytO []) }) :
    codeAny (model prog w) A (.call (.builtin "bytearray.__new__") ⟨[.type "bytearray"], []⟩) (wants Q₁ E) s := by
  refine codeAny_of_tree ?_
  show wpAny _ A.in1 (do checkBuiltinCall "bytearray.__new__" ⟨[.type "bytearray"], []⟩; again (.builtin "bytearray.__new__" ⟨[.type "bytearray"], []⟩)) _ _ s
  refine wpAny_bind (wpAny_of_eq newCall_ba (wpAny_pure ⟨plainId_quiet plain_ba_new _, codeAny_builtin_stack entry_ba_new rfl fun p st => ?_⟩))
  rw [Around.under_plainId plain_ba_new _]
  have hsub := ba_sub
  have hown : ("bytearray.__new__".splitOn ".__new__").headD "" = "bytearray" := by rw [PySem.W.split_bytearray]; rfl
  obtain ⟨hp, g, d, tk, os⟩ := s
  simp only [hown]
  wp_walk
  exact h
theorem xBytearray {K : Frag} {g : Heap} {L : Addr} {o : OsState} {m : Str → Option Value} {news : List (Addr × Obj)} {Q : Value → Shared → Prop} (C : Cx K g L o s m news)
    (h : ∀ D s', Cx K g L o s' m ((D, bytO []) :: news) → Q (.ref D) s') : wpX (model prog w) A (call (.type "bytearray") [] []) Q E s := by
  refine callTypeX (Q₁ := fun obj s₁ => ∃ D, obj = .ref D ∧ Cx K g L o s₁ m ((D, bytO []) :: news)) called_ba tc_ba (code_ba_new ⟨_, rfl, C.push (tk := s.toks) _⟩) ?_
  rintro _ s₁ ⟨D, rfl, C⟩
  have ho := C.get (.head _)
  have hT : s₁.TypeIs (.ref D) "bytearray" := ⟨_, ho, rfl⟩
  refine ⟨hT, codeX_call_builtin slot_ba_init.plain entry_ba_init (show calmC (.builtin "bytearray.__init__" ⟨[], []⟩) = true by decide +kernel) (slot_ba_init.check _ _ _ _ _ _ _ _ hT (args_ba_init _) ?_)⟩
  unfold Builtin.«bytearray.__init__»
  show wpX _ _ (Bytes.ownRelease (.ref D) >>= _) _ _ _
  refine wpX_bind (xa ?_)
  unfold Bytes.ownRelease
  refine wpAny_bind (own_ba hT ba_release (by decide +kernel) (by decide +kernel) (wpAny_pure ?_))
  refine wpX_if_false rfl ?_
  refine wpX_bind (xa (wpAny_of_eq bind_ba ?_))
  refine wpX_bind (xa (wpAny_of_eq (a := ()) rfl ?_))
  refine wpX_bind (xa (wpAny_of_eq (a := ()) rfl ?_))
  refine wpX_bind (wpX_bind (not_exported ?_))
  refine xa ?_
  show wpAny _ _ (Bytes.exportsOf (.ref D) >>= fun n => pure (decide (n > 0))) _ _ _
  unfold Bytes.exportsOf
  refine wpAny_bind (wpAny_bind (wpAny_load ho (wpAny_pure (wpAny_pure ?_))))
  refine xa ?_
  show wpAny _ _ (Bytes.write (.ref D) (fun _ => #[]) >>= _) _ _ _
  refine wpAny_bind ?_
  show wpAny _ _ (updateBytearray D (fun _ => #[])) _ _ _
  unfold updateBytearray
  refine wpAny_bind (wpAny_load ho ?_)
  show wpAny _ _ (update D (Obj.mapBytearray (fun _ => #[])) >>= fun _ => lookBehind D) _ _ _
  refine wpAny_bind (wpAny_update ho ?_)
  have e : Obj.mapBytearray (fun _ => #[]) (bytO []) = bytO [] := by simp [Obj.mapBytearray, bytO]
  have C' := C.upd (tk := s₁.toks) (.head) e rfl
  refine wpAny_lookBehind (C'.get (.head _)) (by rfl) ?_
  refine wpAny_bind (wpAny_of_eq (a := ()) rfl (wpAny_pure ?_))
  exact ⟨rfl, h _ _ C'⟩
end
end
section
open PySem.Calls Builtin Builtin.ObjectAttr Builtin.Getset_descriptor
theorem Room.under {A : Around} {n : Nat} {C : Addr} {rest : List Value} {kw : List (Str × Value)} (r : Room A (n + 1)) : Room (A.under (.builtin "type.__call__" ⟨.ref C :: rest, kw⟩)) n :=
  ⟨by show A.depth + (Code.builtin "type.__call__" ⟨.ref C :: rest, kw⟩).weight + n < 1000
      have : (Code.builtin "type.__call__" ⟨.ref C :: rest, kw⟩).weight = 1 := rfl
      have := r.d; omega,
   by show A.units + (Code.builtin "type.__call__" ⟨.ref C :: rest, kw⟩).cUnits + 20 * n < 9900
      have : (Code.builtin "type.__call__" ⟨.ref C :: rest, kw⟩).cUnits = 1 := rfl
      have := r.u; omega, r.hh⟩
section
variable {prog : Program} {w : World} {A : Around} {K : Frag} {C : Addr} {R : Result → Shared → Prop} {h : Heap} {g : Array GenState} {d : Drawn} {t : Nat} {os : OsState}
theorem make_coreX {rest : List Value} {init : Value} (Y : Makes (model prog w) h C) (hi : Looks (model prog w) h (typeLookup (.ref C) "__init__") (some init))
    (hb : ∀ self, Looks (model prog w) h (bindSpecial init self) (init, [self])) (hne : (some init != some (Value.builtin "object.__init__")) = true ∨ (rest = [] ∧ ([] : List (Str × Value)) = []))
    (hq : codeX (model prog w) (A.under (.builtin "type.__call__" ⟨.ref C :: rest, []⟩)) (.call init ⟨.ref (h.objs.size + 1) :: rest, []⟩) (InitBack (h.objs.size + 1) R) ⟨(h.push emptyDict).push (instObj C h.objs.size), g, d, t, os⟩) :
    codeX (model prog w) A (.call (.ref C) ⟨rest, []⟩) R ⟨h, g, d, t, os⟩ := by
  have Y' := Y
  obtain ⟨⟨oc, od, cd, sl, hC, e1, e2, e4⟩, made, base, self, top, call, typ⟩ := Y
  refine codeX_of_tree rfl (xa ?_)
  show wpAny _ _ (callAny (.ref C) _) _ _ _
  refine nd_load hC ?_
  show wpAny _ _ (callAny.viaDunder (.ref C) _) _ _ _
  unfold callAny.viaDunder
  refine wpAny_bind (call.at ?_)
  dsimp only
  rw [tc_bind]
  refine wpAny_bind (wpAny_pure (wpAny_bind (wpAny_pure ?_)))
  refine wpAny_pure (a := Fin.again (.call (.builtin "type.__call__") ⟨.ref C :: rest, []⟩)) (And.intro rfl ?_)
  refine codeX_of_tree rfl (xa ?_)
  show wpAny _ A.in1 (do checkBuiltinCall "type.__call__" ⟨.ref C :: rest, []⟩; again (.builtin "type.__call__" ⟨.ref C :: rest, []⟩)) _ _ _
  refine wpAny_bind (check_slot tc_kind tc_split typ (tc_args _ _ _) (wpAny_pure ⟨Code.quiet_builtin _ (by decide +kernel), codeX_builtin entry_typeCall (show calmC (.builtin "type.__call__" ⟨[], []⟩) = true by decide +kernel) ?_⟩))
  unfold Builtin.«type.__call__»
  have hm : Looks (model prog w) h (mroOf (.ref C)) cd.mro := ((Looks.ld (part := none) hC).andThen .now).andThen .now
  refine wpX_if_false rfl ?_
  refine wpX_bind (xa (hm.at ?_))
  refine wpX_if_false e4 ?_
  refine wpX_bind (xa (made.at ?_))
  refine wpX_bind (wpX_pure ?_)
  refine wpX_bind (wpX_holding (xa (wpAny_call (new_K Y' hi hne ?_))))
  have k : ∀ b o, h.get? b = some o → ((h.push emptyDict).push (instObj C h.objs.size)).get? b = some o := fun b o e => Heap.get?_push_of_some _ (Heap.get?_push_of_some _ e)
  have hx : ((h.push emptyDict).push (instObj C h.objs.size)).get? (h.objs.size + 1) = some (instObj C h.objs.size) := by heap_get
  have t1 : Looks (model prog w) ((h.push emptyDict).push (instObj C h.objs.size)) (typeOf (.ref (h.objs.size + 1))) (.ref C) := (Looks.ld hx).andThen .now
  have s1 := self.keeps k
  have i1 := hi.keeps k
  have b1 := (hb (.ref (h.objs.size + 1))).keeps k
  show wpX _ _ _ _ _ _
  refine wpX_bind (xa ?_)
  unfold isInstance
  refine wpAny_bind (t1.at (s1.at ?_))
  refine wpX_if_false rfl ?_
  refine wpX_bind (wpX_holding ?_)
  unfold callSpecial? specialOf
  refine wpX_bind (xa (wpAny_bind (t1.at (i1.at ?_))))
  refine wpX_holding ?_
  refine wpX_bind (xa (b1.at ?_))
  refine wpX_bind (wpX_call (codeX_mono hq fun r s' z => ?_))
  rcases r with e | (v | _ | _ | _) <;> first | exact z | exact z.elim | skip
  obtain ⟨rfl, z⟩ := z
  refine wpX_pure ?_
  refine wpX_if_false rfl ?_
  exact wpX_pure z
end
end
section
section
variable {prog : Program} {w : World} {A : Around} {E : Value → Shared → Prop} {K : Frag} {g : Heap} {L : Addr} {o : OsState} {s : Shared} {m : Str → Option Value} {news news' : List (Addr × Obj)} {R : Result → Shared → Prop}
theorem At.mid {d : Addr} {ob ob' : Obj} {post : List (Addr × Obj)} : ∀ pre : List (Addr × Obj), At d ob ob' (pre ++ (d, ob) :: post) (pre ++ (d, ob') :: post)
  | [] => .head
  | _ :: pre => .tail (At.mid pre)
theorem xSetNew {x dx Cc : Addr} {es : List DictEntry} {n : Nat} {attr : Str} {v : Value} (pre : List (Addr × Obj)) (C : Cx K g L o s m (pre ++ (dx, dictOf es n) :: news)) {Q : Unit → Shared → Prop} (h1 : (x, instObj Cc dx) ∈ pre ++ (dx, dictOf es n) :: news) (hl : (getL attr es).isSome = true)
    (hs : findIn K (.ref Cc) "__setattr__" = some (some (.builtin "object.__setattr__"))) (hp : plainOver K Cc = true) (ht : takerIn K Cc attr = some none) (hh : hasDictIn K Cc = true)
    (hz : ∀ tk, (putL attr (PyData.keyHash w.params attr) (.str attr tk) v es).length ≤ 1000)
    (h : ∀ tk s', Cx K g L o s' m (pre ++ (dx, dictOf (putL attr (PyData.keyHash w.params attr) (.str attr tk) v es) (putN attr es n)) :: news) → Q () s') : wpAny (model prog w) A (setAttr (.ref x) attr v) Q E s := by
  have U := At.mid (d := dx) (ob := dictOf es n) (ob' := dictOf (putL attr (PyData.keyHash w.params attr) (.str attr (s.toks + 1)) v es) (putN attr es n)) (post := news) pre
  exact set_dict C.fr C.st.k C.nw (InstAt.of_news C.nw h1 U.mem) rfl hs hp ht hh hl rfl (U.upd C.nd) (hz _) fun h' F N => h _ _ (C.mk' F N (by rw [U.map]; exact C.nd))
theorem newA {rest : List Value} {Cc fI : Addr} (C : Cx K g L o s m news) (hm : makesIn K Cc = true) (hi : findIn K (.ref Cc) "__init__" = some (some (.ref fI))) (hf : isFn K (.ref fI) = true)
    (h : ∀ x dx s', Cx K g L o s' m ((x, instObj Cc dx) :: (dx, dictOf [] 0) :: news) → codeAny (model prog w) (A.under (.builtin "type.__call__" ⟨.ref Cc :: rest, []⟩)) (.call (.ref fI) ⟨.ref x :: rest, []⟩) (InitBack x R) s') :
    codeAny (model prog w) A (.call (.ref Cc) ⟨rest, []⟩) R s :=
  make_K C.fr C.nw C.kin hm hi (beq_iff_eq.mp hf) fun x dx h' F N l1 l2 => h x dx _ (C.mk0 F N (nodup_cons_lt (fun p hp => by cases hp with | head => exact l2 | tail _ hp => exact Nat.lt_trans (l1 p hp) l2) (nodup_cons_lt l1 C.nd)))
theorem newX {rest : List Value} {Cc fI : Addr} (C : Cx K g L o s m news) (hm : makesIn K Cc = true) (hi : findIn K (.ref Cc) "__init__" = some (some (.ref fI))) (hf : isFn K (.ref fI) = true)
    (h : ∀ x dx s', Cx K g L o s' m ((x, instObj Cc dx) :: (dx, dictOf [] 0) :: news) → codeX (model prog w) (A.under (.builtin "type.__call__" ⟨.ref Cc :: rest, []⟩)) (.call (.ref fI) ⟨.ref x :: rest, []⟩) (InitBack x R) s') :
    codeX (model prog w) A (.call (.ref Cc) ⟨rest, []⟩) R s := by
  have F := C.fr
  have N := C.nw
  have X := C.kin
  have key := fun x dx h' F N l1 l2 => h x dx _ (C.mk0 (h' := h') F N (nodup_cons_lt (fun p hp => by cases hp with | head => exact l2 | tail _ hp => exact Nat.lt_trans (l1 p hp) l2) (nodup_cons_lt l1 C.nd)))
  clear h C
  obtain ⟨hh, gg, d, t, os⟩ := s
  refine make_coreX (makes_of X hm) (looks_findIn X hi) (fun self => bind_fn X self (beq_iff_eq.mp hf)) (.inl rfl) (key _ hh.objs.size _ ((F.push _).push _) ?_ (fun p hp => Heap.lt_size (N p hp).1) (Nat.lt_succ_self _))
  have := (N.push F emptyDict).push (F.push _) (instObj Cc hh.objs.size)
  rwa [Heap.size_push] at this
end
end
section
variable {prog : Program} {w : World} {A : Around} {g : Heap} {L : Addr} {o : OsState} {s : Shared} {m : Str → Option Value} {news : List (Addr × Obj)} {R : Result → Shared → Prop}
variable {t u : Tok} {ring : Int}
theorem asm_init_spec {x dx : Addr} (C : Cx (KK w) g L o s m ((x, instObj 141 dx) :: (dx, dictOf [] 0) :: news)) (hA : Room A 2)
    (k : ∀ a : AH, a.ring = ring → a.x = x → ∀ pl s', Cx (KK w) g L o s' m ((a.x, instObj 141 a.dx) :: (a.dx, dictOf (a.es w pl) 2) :: (pl, lstO [] 0) :: news) → R (.ok (.ret .none)) s') :
    codeAny (model prog w) A (.call (.ref 63) ⟨[.ref x, .int ring t], []⟩) R s := by
  refine call_fn [("self", .ref x), ("ring", .int ring t)] [("ring", .int ring t), ("self", .ref x)] C hA.dep (by rfl) (by rfl) (BindsTo.of_eq rfl) (by rfl) (by rfl) ?_
  clear C
  intro g' L' s' C back
  wtm_at "g"
  refine xSetNew [_] C (.head _) rfl cAset cAover tA_ring cAdict (fun _ => of_decide_eq_true rfl) ?_
  clear C; intro t1 s C
  wtm_at "g"
  refine xSetNew [_, _] C (.tail _ (.head _)) rfl cAset cAover tA_parts cAdict (fun _ => of_decide_eq_true rfl) ?_
  clear C; intro t2 s C
  wtm_at "g"
  exact k ⟨x, dx, t1, t2, t, ring⟩ rfl rfl _ _ (back _ _ _ C.rot3)

end
section
section
variable {α β : Type} {M : Model} {A : Around} {E : Value → Shared → Prop} {s : Shared}
theorem wpX_Assign_Attribute {o : Expr} {attr : Str} {pos' pos : Pos} {value : Expr} {env : Env} {Q : Flow → Shared → Prop}
    (h : wpX M A (eval value env) (fun v s₁ => wpAny M A (eval o env) (fun ov s₂ => wpAny M A (setAttr ov attr v) (fun _ => Q .next) E s₂) E s₁) E s)
    (hs : swapsWith value (some (.Attribute o attr pos')) pos.line env = pure false := by with_unfolding_all exact rfl) :
    wpX M A (exec (.Assign [.Attribute o attr pos'] value pos) env) Q E s := fun Γ p hΓ h1 h2 => by
  simp only [plainObj_exec_Assign_Attribute o attr pos' value pos hs, assign_Attribute, Sem.wp_bind', Sem.wp_holding, Sem.wp_cmd_standAt, Sem.wp_release, Sem.wp_pure']
  exact Sem.wp_mono M Γ _ (fun v p₁ s₁ h₁ => Sem.wp_mono M Γ _ (fun ov _ s₂ h₂ => h₂ Γ _ hΓ) (fun _ _ _ h' => h') _ _ (h₁ Γ p₁ hΓ)) (fun _ _ _ h' => h') _ _ (h Γ _ hΓ h1 h2)
end
section
variable {prog : Program} {w : World} {A : Around} {E : Value → Shared → Prop} {s : Shared} {env : Env} {pos : Pos} {Q : Value → Shared → Prop}
theorem xCallTX0 {T : String} (h : wpX (model prog w) A (call (.type T) [] []) Q E s) : wpX (model prog w) A (callWith pos (.type T) [] (backTo pos (starEach [] env)) []) Q E s := by
  unfold callWith
  refine wpX_bind (xa (wpAny_holding (evalArgs_nil3 (wpX_bind (xa (wpAny_standAt ?_))))))
  show wpX _ _ (keeperOf (.type T) >>= _) _ _ _
  refine wpX_bind (wpX_pure ?_)
  exact wpX_bind (wpX_mono h (fun r s₂ hr => wpX_bind (xa (wpAny_holding (wpAny_point (wpX_pure hr))))) fun _ _ x => x)
theorem callWithX_builtin {id : String} {first : List Value} {args : List (Bool × Sem Value)} (hplain : args.any (·.1) = false)
    (h : wpAny (model prog w) A (evalArgs (.builtin id) true args []) (fun a s₁ => wpX (model prog w) A (call (.builtin id) (first ++ a.pos) a.kw) Q E s₁) E s) :
    wpX (model prog w) A (callWith pos (.builtin id) first args []) Q E s := by
  unfold callWith
  refine wpX_bind (xa (wpAny_holding (wpAny_mono h (fun a s₁ h₁ => wpX_bind (xa (wpAny_standAt ?_))) fun _ _ x => x)))
  simp only [hplain, List.any_nil, Bool.or_false]
  refine wpX_bind (wpX_pure ?_)
  exact wpX_bind (wpX_mono h₁ (fun r s₂ hr => wpX_bind (xa (wpAny_holding (wpAny_point (wpX_pure hr))))) fun _ _ x => x)
theorem xCallBMX {id : String} {x : Value} {e : Expr} {rest : List Expr}
    (h : wpAny (model prog w) A (spliced (backTo pos (starEach (e :: rest) env))) (fun vs s₁ => wpX (model prog w) A (call (.builtin id) (x :: vs) []) Q E s₁) E s)
    (he : starEach (e :: rest) env = (false, eval e env) :: starEach rest env := by with_unfolding_all exact rfl) (hplain : (backTo pos (starEach rest env)).any (·.1) = false := by with_unfolding_all exact rfl) :
    wpX (model prog w) A (callWith pos (.builtin id) [x] (backTo pos (starEach (e :: rest) env)) []) Q E s := by
  rw [he] at h ⊢
  exact callWithX_builtin (by show (false || (backTo pos (starEach rest env)).any (·.1)) = false; rw [hplain]; rfl) (Calls.evalArgs_plain h)
end
end
section
variable {prog : Program} {w : World} {A : Around} {g : Heap} {L : Addr} {o : OsState} {s : Shared} {m : Str → Option Value} {news : List (Addr × Obj)} {R : Result → Shared → Prop}
variable {t u : Tok} {ring : Int}
theorem perm42 {α : Type} (a b c d e f : α) (l : List α) : List.Perm (e :: f :: a :: b :: c :: d :: l) (a :: b :: c :: d :: e :: f :: l) := List.perm_append_comm_assoc [e, f] [a, b, c, d] l
theorem rec_init_spec {x dx : Addr} {irs room mss : Int} {ti tr to_ tm : Tok} (C : Cx (KK w) g L o s m ((x, instObj 275 dx) :: (dx, dictOf [] 0) :: news)) (hA : Room A 8) (hr : 256 ≤ ring)
    (k : ∀ (r : RH) (st : RS) pl s', r.x = x → r.a.ring = ring → r.f = irs + 1 → r.room = room → r.mss = mss → st.q = 0 → st.e = room → st.fin = none → st.hf = false →
      Cx (KK w) g L o s' m ((r.x, instObj 275 r.dx) :: (r.dx, dictOf (r.es w st) 10) :: (r.a.x, instObj 141 r.a.dx) :: (r.a.dx, dictOf (r.a.es w pl) 2) :: (pl, lstO [] 0) :: (st.rd, bytO []) :: news) → R (.ok (.ret .none)) s') :
    codeX (model prog w) A (.call (.ref 160) ⟨[.ref x, .int irs ti, .int ring tr, .int room to_, .int mss tm], []⟩) R s := by
  refine call_fnX [("self", .ref x), ("irs", .int irs ti), ("ring", .int ring tr), ("room", .int room to_), ("mss", .int mss tm)] [("mss", .int mss tm), ("room", .int room to_), ("ring", .int ring tr), ("irs", .int irs ti), ("self", .ref x)] C hA.dep (by rfl) (by rfl) (by exact BindsTo.of_defaults rfl (C.kin _ _ (by rfl)) rfl rfl rfl) (by rfl) (by rfl) ?_
  clear C
  intro g' L' s' C back
  refine wpX_split (pre := [_, _, _, _]) ?_
  wtm_at "g"
  refine xSetNew [_] C (.head _) rfl cRset cRover tR_ring cRdict (fun _ => of_decide_eq_true rfl) ?_
  clear C; intro t0 s C
  wtm_at "g"
  refine xSetNew [_] C (.head _) rfl cRset cRover tR_room cRdict (fun _ => of_decide_eq_true rfl) ?_
  clear C; intro t1 s C
  wtm_at "g"
  refine xSetNew [_] C (.head _) rfl cRset cRover tR_mss cRdict (fun _ => of_decide_eq_true rfl) ?_
  clear C; intro t2 s C
  wtm_at "g"
  refine plus_spec C ((hA.deeper _).le (by decide)) (by omega) ?_
  clear C; intro t3 s C
  rw [show (irs + 1) % ring = W (irs + 1) ring 0 by simp [W]]
  wtm_at "g"
  refine xSetNew [_] C (.head _) rfl cRset cRover tR_next cRdict (fun _ => of_decide_eq_true rfl) ?_
  clear C; intro k3 s C
  wtm_at "g"
  refine wpX_execs_cons (wpX_Assign_Attribute (wpX_Call ?_))
  wtm_at "g"
  refine xCallTX0 (xBytearray C ?_)
  clear C; intro D s C
  wtm_at "g"
  refine xSetNew [_, _] C (.tail _ (.head _)) rfl cRset cRover tR_ready cRdict (fun _ => of_decide_eq_true rfl) ?_
  clear C; intro k4 s C
  refine xa ?_
  wtm_at "g"
  refine xCallF C k141 ?_
  wtm_at "g"
  refine newA C cAmakes mA___init__ i63 ?_
  clear C; intro ax adx s C
  refine asm_init_spec C ((hA.deeper _).under.le (by decide)) ?_
  clear C; rintro a rfl rfl pl s C
  refine And.intro rfl ?_
  wtm_at "g"
  refine xSetNew [_, _, _, _, _] C (.tail _ (.tail _ (.tail _ (.tail _ (.head _))))) rfl cRset cRover tR_assembly cRdict (fun _ => of_decide_eq_true rfl) ?_
  clear C; intro k5 s C
  wtm_at "g"
  refine xAttr C (.tail _ (.tail _ (.tail _ (.tail _ (.head _))))) (.tail _ (.tail _ (.tail _ (.tail _ (.tail _ (.head _)))))) rfl (cRplain _) cRdict fR_next rfl rfl ?_
  clear C; intro s C
  wtm_at "g"
  refine plusW C ((hA.deeper _).le (by decide)) hr ?_
  clear C; intro t6 s C
  rw [Int.zero_add]
  wtm_at "g"
  refine xSetNew [_, _, _, _, _] C (.tail _ (.tail _ (.tail _ (.tail _ (.head _))))) rfl cRset cRover tR_told_edge cRdict (fun _ => of_decide_eq_true rfl) ?_
  clear C; intro k6 s C
  wtm_at "g"
  refine xSetNew [_, _, _, _, _] C (.tail _ (.tail _ (.tail _ (.tail _ (.head _))))) rfl cRset cRover tR_fin_at cRdict (fun _ => of_decide_eq_true rfl) ?_
  clear C; intro k7 s C
  wtm_at "g"
  refine xSetNew [_, _, _, _, _] C (.tail _ (.tail _ (.tail _ (.tail _ (.head _))))) rfl cRset cRover tR_has_fin cRdict (fun _ => of_decide_eq_true rfl) ?_
  clear C; intro k8 s C
  wtm_at "g"
  refine xSetNew [_, _, _, _, _] C (.tail _ (.tail _ (.tail _ (.tail _ (.head _))))) rfl cRset cRover tR_urgent_at cRdict (fun _ => of_decide_eq_true rfl) ?_
  clear C; intro k9 s C
  wtm_at "g"
  refine k ⟨x, dx, a, fun | 0 => t0 | 1 => t1 | 2 => t2 | 3 => k3 | 4 => k4 | 5 => k5 | 6 => k6 | 7 => k7 | 8 => k8 | _ => k9, irs + 1, tr, room, to_, mss, tm⟩ ⟨0, t3, D, room, t6, none, 0, false⟩ pl _ rfl rfl rfl rfl rfl rfl rfl rfl rfl (back _ _ _ (C.perm (perm42 _ _ _ _ _ _ _)))

end
section
variable {prog : Program} {w : World} {A : Around} {g : Heap} {L : Addr} {o : OsState} {s : Shared} {m : Str → Option Value} {news : List (Addr × Obj)} {R : Result → Shared → Prop}
variable {r : RH} {st : RS} {t u : Tok} {rd : List UInt8} {pl : Addr}
theorem At.own {d : Addr} {ob ob' : Obj} {rest : List (Addr × Obj)} : ∀ {own news' : List (Addr × Obj)}, At d ob ob' (own ++ rest) news' → (d, ob) ∈ own → ((own ++ rest).map (·.1)).Nodup → ∃ own', news' = own' ++ rest ∧ At d ob ob' own own'
  | [], _, _, hm, _ => nomatch hm
  | p :: own, news', U, hm, nd => by
    cases U with
    | head => exact ⟨_ :: own, rfl, .head⟩
    | tail U =>
      rw [List.cons_append, List.map_cons, List.nodup_cons] at nd
      cases hm with
      | head => exact absurd (List.mem_map.mpr ⟨_, U.mem, rfl⟩) nd.1
      | tail _ hm =>
        obtain ⟨own', rfl, U'⟩ := At.own U hm nd.2
        exact ⟨p :: own', rfl, .tail U'⟩
theorem At.appR {d : Addr} {ob ob' : Obj} {l l' rest : List (Addr × Obj)} (h : At d ob ob' l l') : At d ob ob' (l ++ rest) (l' ++ rest) := by
  induction h with
  | head => exact .head
  | tail _ ih => exact .tail ih
/-- all that belongs to a Receiver: own is its part of the ledger -/
structure RW (w : World) (own : List (Addr × Obj)) (r : RH) (st : RS) (pl : Addr) (vs : List Value) (n : Nat) (ps : List (Int × List UInt8)) (rd : List UInt8) : Prop where
  h1 : (r.x, instObj 275 r.dx) ∈ own
  h2 : (r.dx, dictOf (r.es w st) 10) ∈ own
  h3 : (r.a.x, instObj 141 r.a.dx) ∈ own
  h4 : (r.a.dx, dictOf (r.a.es w pl) 2) ∈ own
  h5 : (pl, lstO vs n) ∈ own
  h6 : (st.rd, bytO rd) ∈ own
  hP : PartsIn own vs (WP r.f r.a.ring ps)
  hne : r.a.dx ≠ r.dx
theorem inst_ne_dict {c dx : Addr} {es : List DictEntry} {n : Nat} (e : instObj c dx = dictOf es n) : False := by cases e
theorem byt_ne_dict {l : List UInt8} {es : List DictEntry} {n : Nat} (e : bytO l = dictOf es n) : False := by
  have h := congrArg Obj.cls e
  simp only [bytO, dictOf, Value.type.injEq] at h
  exact absurd h (by decide)
/-- the Receiver's own dict changed -/
theorem RW.set {own own' : List (Addr × Obj)} {vs : List Value} {n : Nat} {ps : List (Int × List UInt8)} {st' : RS} (I : RW w own r st pl vs n ps rd) (U : At r.dx (dictOf (r.es w st) 10) (dictOf (r.es w st') 10) own own') (h : st'.rd = st.rd) : RW w own' r st' pl vs n ps rd :=
  ⟨U.keep _ I.h1 (fun e => inst_ne_dict (congrArg (fun z => z.2) e)), U.mem', U.keep _ I.h3 (fun e => inst_ne_dict (congrArg (fun z => z.2) e)), U.keep _ I.h4 (fun e => I.hne (congrArg (fun z => z.1) e)),
    U.keep _ I.h5 (fun e => lst_ne_dict (congrArg (fun z => z.2) e)), h ▸ U.keep _ I.h6 (fun e => byt_ne_dict (congrArg (fun z => z.2) e)), I.hP.upd U, I.hne⟩
theorem inst_ne_list {c dx : Addr} {vs : List Value} {n : Nat} (e : instObj c dx = lstO vs n) : False := by cases e
theorem dict_ne_list {es : List DictEntry} {vs : List Value} {m n : Nat} (e : dictOf es n = lstO vs m) : False := lst_ne_dict e.symm
theorem byt_ne_list {l : List UInt8} {vs : List Value} {n : Nat} (e : bytO l = lstO vs n) : False := by
  have h := congrArg Obj.cls e
  simp only [bytO, lstO, W.listOf, Value.type.injEq] at h
  exact absurd h (by decide)
theorem tup_ne_byt {l : List UInt8} {vs : List Value} (e : tupO vs = bytO l) : False := by
  have h := congrArg Obj.cls e
  simp only [bytO, tupO, Value.type.injEq] at h
  exact absurd h (by decide)
theorem inst_ne_byt {c dx : Addr} {l : List UInt8} (e : instObj c dx = bytO l) : False := by cases e
theorem RW.list {own own' : List (Addr × Obj)} {vs vs' : List Value} {n n' : Nat} {ps ps' : List (Int × List UInt8)} (I : RW w own r st pl vs n ps rd) (U : At pl (lstO vs n) (lstO vs' n') own own') (h : PartsIn own' vs' (WP r.f r.a.ring ps')) : RW w own' r st pl vs' n' ps' rd :=
  ⟨U.keep _ I.h1 (fun e => inst_ne_list (congrArg (fun z => z.2) e)), U.keep _ I.h2 (fun e => dict_ne_list (congrArg (fun z => z.2) e)), U.keep _ I.h3 (fun e => inst_ne_list (congrArg (fun z => z.2) e)), U.keep _ I.h4 (fun e => dict_ne_list (congrArg (fun z => z.2) e)),
    U.mem', U.keep _ I.h6 (fun e => byt_ne_list (congrArg (fun z => z.2) e)), h, I.hne⟩
theorem RW.byt {own own' : List (Addr × Obj)} {vs : List Value} {n : Nat} {ps : List (Int × List UInt8)} {rd' : List UInt8} (I : RW w own r st pl vs n ps rd) (U : At st.rd (bytO rd) (bytO rd') own own') : RW w own' r st pl vs n ps rd' :=
  ⟨U.keep _ I.h1 (fun e => inst_ne_byt (congrArg (fun z => z.2) e)), U.keep _ I.h2 (fun e => byt_ne_dict (congrArg (fun z => z.2) e).symm), U.keep _ I.h3 (fun e => inst_ne_byt (congrArg (fun z => z.2) e)), U.keep _ I.h4 (fun e => byt_ne_dict (congrArg (fun z => z.2) e).symm),
    U.keep _ I.h5 (fun e => byt_ne_list (congrArg (fun z => z.2) e).symm), U.mem', I.hP.updO U (fun _ => tup_ne_byt), I.hne⟩
/-- what take gives -/
def takeD (q : Int) : List (Int × List UInt8) → List UInt8 × List (Int × List UInt8)
  | [] => ([], [])
  | (x, d) :: ps => if x = q then (d, ps) else ([], (x, d) :: ps)
theorem xEqFin {E : Value → Shared → Prop} {f rg : Int} {e : Option Int} {p : Int} {t u : Tok} {Q : Value → Shared → Prop} (hr : 256 ≤ rg) (hp : ∀ x, e = some x → -128 < x - p ∧ x - p < 128) (h : Q (.bool (decide (e = some p))) s) : wpAny (model prog w) A (compareOp .Eq (finV f rg e t) (.int (W f rg p) u)) Q E s := by
  cases e with
  | none => exact EqNone.eq_none_int (by simpa using h)
  | some x =>
    refine xEqI ?_
    rw [W_inj hr (hp x rfl)]
    simpa using h
variable {rest : List (Addr × Obj)}
theorem gather_spec {own : List (Addr × Obj)} {vs : List Value} {n : Nat} {ps : List (Int × List UInt8)} (C : Cx (KK w) g L o s m (own ++ rest)) (hA : Room A 10) (I : RW w own r st pl vs n ps rd) (hr : 256 ≤ r.a.ring)
    (hpq : ∀ x ∈ ps, 0 ≤ x.1 - st.q ∧ x.1 - st.q < 128) (hps : ps.length ≤ 1000) (hd : ∀ x ∈ ps, x.2.length ≤ 1000) (hrd : rd.length ≤ 1000)
    (hfn : ∀ x, st.fin = some x → -128 < x - (st.q + (if st.hf then [] else (takeD st.q ps).1).length) ∧ x - (st.q + (if st.hf then [] else (takeD st.q ps).1).length) < 128)
    (k : ∀ fr ps' st' t vs' n' own' s', fr = (if st.hf then [] else (takeD st.q ps).1) → ps' = (if st.hf then ps else (takeD st.q ps).2) → st'.e = st.e → st'.fin = st.fin →
      st'.q = st.q + fr.length + (if !st.hf && decide (st.fin = some (st.q + fr.length)) then 1 else 0) → st'.hf = (st.hf || decide (st.fin = some (st.q + fr.length))) →
      Cx (KK w) g L o s' m (own' ++ rest) → RW w own' r st' pl vs' n' ps' (rd ++ fr) → R (.ok (.ret (.int fr.length t))) s') :
    codeX (model prog w) A (.call (.ref 223) ⟨[.ref r.x], []⟩) R s := by
  refine call_fnX [("self", .ref r.x)] [("self", .ref r.x)] C hA.dep (by rfl) (by rfl) (BindsTo.of_eq rfl) (by rfl) (by rfl) ?_
  clear C
  intro g' L' s' C back
  refine wpX_split (pre := [_, _]) ?_
  wtm_at "m"
  wtm_at "m"
  wtm_at "m"
  have i1 := List.mem_append_left rest I.h1
  have i2 := List.mem_append_left rest I.h2
  have i3 := List.mem_append_left rest I.h3
  have i4 := List.mem_append_left rest I.h4
  have i5 := List.mem_append_left rest I.h5
  have iP := I.hP.mono (fun _ h => List.mem_append_left rest h)
  refine sIfJ (fun s => Any5 fun l td vs' n' own' => All2 (Cx (KK w) g' L' o s (lj [("fresh", .bytes (if st.hf then [] else (takeD st.q ps).1).toArray td), ("self", .ref r.x)] l) (own' ++ rest)) (RW w own' r st pl vs' n' (if st.hf then ps else (takeD st.q ps).2) rd)) ?_ ?_
  · intro QB hQB
    wtm_at "g"
    refine ⟨fun hb => ?_, fun hb => ?_⟩
    · have hb := b_not_true hb
      wtm_at "g"
      refine take_spec C ((hA.deeper _).le (by decide)) i3 i4 i5 iP hr hpq hps ?_ ?_
      · intro hx td s C
        wtm_at "g"
        have e : takeD st.q ps = ([], ps) := by
          cases ps with
          | nil => rfl
          | cons y ps => obtain ⟨x, d⟩ := y; simp [takeD, hx x d ps rfl]
        refine hQB _ ?_
        rw [hb, e]
        exact ⟨_, _, _, _, own, C.norm [("fresh", _), ("self", _)] (by wtm_at "ag"), I⟩
      · rintro d ps' rfl td v vs' n' news' s rfl U C hP'
        obtain ⟨own', rfl, U'⟩ := U.own I.h5 (by have := C.nd; rw [U.map] at this; exact this)
        wtm_at "g"
        have e : takeD st.q ((st.q, d) :: ps') = (d, ps') := by simp [takeD]
        have hT : PartsIn own vs' (WP r.f r.a.ring ps') := by
          have := I.hP
          cases this with
          | cons _ h => exact h
        refine hQB _ ?_
        rw [hb, e]
        exact ⟨_, _, _, _, own', C.norm [("fresh", _), ("self", _)] (by wtm_at "ag"), I.list U' (hT.updL U')⟩
    · have hb := b_not_false hb
      wtm_at "g"
      refine hQB _ ?_
      rw [hb]
      exact ⟨_, _, _, _, own, C.norm [("fresh", _), ("self", _)] (by wtm_at "ag"), I⟩
  clear C i1 i2 i3 i4 i5 iP I
  rintro s ⟨l, td, vs', n', own', C, I⟩
  generalize hfr : (if st.hf = true then [] else (takeD st.q ps).1) = fr at *
  generalize hps' : (if st.hf = true then ps else (takeD st.q ps).2) = ps' at *
  have i1 := List.mem_append_left rest I.h1
  have i2 := List.mem_append_left rest I.h2
  have hfl : fr.length ≤ 1000 := by
    rw [← hfr]
    split
    · exact Nat.zero_le _
    · cases ps with
      | nil => exact Nat.zero_le _
      | cons x ps =>
        obtain ⟨x, d⟩ := x
        simp only [takeD]
        split
        · exact hd _ (.head _)
        · exact Nat.zero_le _
  wtm_at "m"
  refine And.intro rfl ?_
  refine wpX_execs_cons (wpX_Expr (wpX_MethodCall ?_))
  wtm_at "g"
  obtain ⟨own2, U⟩ := At.of_mem (ob' := bytO (rd ++ fr)) I.h6
  refine xMethExt C (List.mem_append_left rest I.h6) ?_
  refine xCallBMX ?_
  wtm_at "g"
  refine xExtend C (U.appR (rest := rest)) (by omega) ?_
  clear C; intro s C
  have I := I.byt U
  clear U i1 i2
  have i1 := List.mem_append_left rest I.h1
  have i2 := List.mem_append_left rest I.h2
  refine And.intro rfl (xa ?_)
  wtm_at "g"
  refine plusW C ((hA.deeper _).le (by decide)) hr ?_
  clear C; intro t9 s C
  obtain ⟨own3, U⟩ := At.of_mem (ob' := dictOf (r.es w { st with q := st.q + fr.length, tq := t9 }) 10) I.h2
  have U' := U.appR (rest := rest)
  wtm_at "m"
  wtm_at "m"
  have I := I.set U rfl
  clear U U' i1 i2
  have i1 := List.mem_append_left rest I.h1
  have i2 := List.mem_append_left rest I.h2
  wtm_at "g"
  refine xEqFin hr hfn ?_
  wtm_at "g"
  refine ⟨fun hb => ?_, fun hb => ?_⟩
  · wtm_at "g"
    refine ⟨fun hb2 => ?_, fun hb2 => ?_⟩
    · have hb2 : st.hf = false := b_not_true hb2
      have hb : decide (st.fin = some (st.q + fr.length)) = true := hb
      obtain ⟨own4, U⟩ := At.of_mem (ob' := dictOf (r.es w { st with q := st.q + fr.length, tq := t9, hf := true }) 10) I.h2
      have U' := U.appR (rest := rest)
      wtm_at "g"
      have I := I.set U rfl
      clear U U' i1 i2
      have i1 := List.mem_append_left rest I.h1
      have i2 := List.mem_append_left rest I.h2
      wtm_at "g"
      refine plusW C ((hA.deeper _).le (by decide)) hr ?_
      clear C; intro t2 s C
      obtain ⟨own5, U⟩ := At.of_mem (ob' := dictOf (r.es w { st with q := st.q + fr.length + 1, tq := t2, hf := true }) 10) I.h2
      have U' := U.appR (rest := rest)
      wtm_at "m"
      wtm_at "m"
      have I := I.set U rfl
      wtm_at "g"
      exact k _ _ { st with q := st.q + fr.length + 1, tq := t2, hf := true } _ _ _ _ _ rfl rfl rfl rfl (by have hb := of_decide_eq_true hb; simp [hb2, hb]) (by have hb := of_decide_eq_true hb; simp [hb2, hb]) (back _ _ _ C) I
    · have hb2 : st.hf = true := b_not_false hb2
      have hb : decide (st.fin = some (st.q + fr.length)) = true := hb
      wtm_at "g"
      exact k _ _ { st with q := st.q + fr.length, tq := t9 } _ _ _ _ _ rfl rfl rfl rfl (by simp [hb2]) (by simp [hb2]) (back _ _ _ C) I
  · have hb : decide (st.fin = some (st.q + fr.length)) = false := hb
    wtm_at "g"
    exact k _ _ { st with q := st.q + fr.length, tq := t9 } _ _ _ _ _ rfl rfl rfl rfl (by have hb := of_decide_eq_false hb; simp [hb]) (by have hb := of_decide_eq_false hb; simp [hb]) (back _ _ _ C) I

end
section
variable {prog : Program} {w : World} {A : Around} {g : Heap} {L : Addr} {o : OsState} {s : Shared} {m : Str → Option Value} {news : List (Addr × Obj)} {R : Result → Shared → Prop}
variable {r : RH} {st : RS} {t u : Tok} {rd : List UInt8} {pl : Addr} {rest : List (Addr × Obj)}
theorem RW.more {own : List (Addr × Obj)} {vs : List Value} {n : Nat} {ps : List (Int × List UInt8)} (I : RW w own r st pl vs n ps rd) (T : List (Addr × Obj)) : RW w (T ++ own) r st pl vs n ps rd :=
  ⟨List.mem_append_right _ I.h1, List.mem_append_right _ I.h2, List.mem_append_right _ I.h3, List.mem_append_right _ I.h4, List.mem_append_right _ I.h5, List.mem_append_right _ I.h6, I.hP.mono (fun _ h => List.mem_append_right _ h), I.hne⟩
theorem RW.asm {T own own' : List (Addr × Obj)} {pl' : Addr} {vs vs' : List Value} {n n' : Nat} {ps ps' : List (Int × List UInt8)} (I : RW w own r st pl vs n ps rd)
    (U : At r.a.dx (dictOf (r.a.es w pl) 2) (dictOf (r.a.es w pl') 2) own own') (hm : (pl', lstO vs' n') ∈ T) (hP : PartsIn T vs' (WP r.f r.a.ring ps')) : RW w (T ++ own') r st pl' vs' n' ps' rd :=
  ⟨List.mem_append_right _ (U.keep _ I.h1 (fun e => inst_ne_dict (congrArg (fun z => z.2) e))), List.mem_append_right _ (U.keep _ I.h2 (fun e => I.hne (congrArg (fun z => z.1) e).symm)),
    List.mem_append_right _ (U.keep _ I.h3 (fun e => inst_ne_dict (congrArg (fun z => z.2) e))), List.mem_append_right _ U.mem', List.mem_append_left _ hm,
    List.mem_append_right _ (U.keep _ I.h6 (fun e => byt_ne_dict (congrArg (fun z => z.2) e))), hP.mono (fun _ h => List.mem_append_left _ h), I.hne⟩
theorem Cx.asc {T own : List (Addr × Obj)} (C : Cx (KK w) g L o s m (T ++ (own ++ rest))) : Cx (KK w) g L o s m ((T ++ own) ++ rest) := by rw [List.append_assoc]; exact C
/-- what the window lets in -/
def letIn (e p : Int) (d : List UInt8) : List UInt8 := if p < e then cut d none (some (e - p)) else []
/-- the FIN's place behind a segment -/
def finA (q e p : Int) (d : List UInt8) (hf : Bool) (fin : Option Int) : Option Int :=
  if hf = true ∧ (letIn e p d).length = d.length ∧ fin = none ∧ ¬ p + d.length < q then some (p + d.length) else fin
/-- the parts behind put -/
def psA (q p : Int) (ps : List (Int × List UInt8)) (hf : Bool) (kept : List UInt8) : List (Int × List UInt8) := if hf = false ∧ kept ≠ [] then putP q ps p kept else ps
theorem let_in_spec2 {p : Int} {d : List UInt8} {td : Tok} (C : Cx (KK w) g L o s m news) (hA : Room A 5) (I : RIn w news r st) (hr : 256 ≤ r.a.ring) (he : -128 < p - st.e ∧ p - st.e < 128) (hd : d.length ≤ 1000)
    (k : ∀ t s', Cx (KK w) g L o s' m news → R (.ok (.ret (.bytes (letIn st.e p d).toArray t))) s') :
    codeAny (model prog w) A (.call (.ref 202) ⟨[.ref r.x, .int (W r.f r.a.ring p) t, .bytes d.toArray td], []⟩) R s := let_in_spec C hA I hr he hd k
theorem ahead_of_fin_spec2 {p fp : Int} {d : List UInt8} {td : Tok} (C : Cx (KK w) g L o s m news) (hA : Room A 5) (I : RIn w news r st) (hf : st.fin = some fp) (hr : 256 ≤ r.a.ring) (he : -128 < p - fp ∧ p - fp < 128) (hd : d.length ≤ 1000)
    (hc : (if p < fp then cut d none (some (fp - p)) else []) = d)
    (k : ∀ t s', Cx (KK w) g L o s' m news → R (.ok (.ret (.bytes d.toArray t))) s') :
    codeAny (model prog w) A (.call (.ref 216) ⟨[.ref r.x, .int (W r.f r.a.ring p) t, .bytes d.toArray td], []⟩) R s := ahead_of_fin_spec C hA I hf hr he hd (by rw [hc]; exact k)
theorem arrive_spec {own : List (Addr × Obj)} {vs : List Value} {n : Nat} {ps : List (Int × List UInt8)} {p : Int} {d : List UInt8} {td : Tok} {hb : Bool} (C : Cx (KK w) g L o s m (own ++ rest)) (hA : Room A 12) (I : RW w own r st pl vs n ps rd) (hr : 256 ≤ r.a.ring)
    (hpq : ∀ x ∈ ps, 0 ≤ x.1 - st.q ∧ x.1 - st.q < 128) (hps : ps.length ≤ 100) (hdl : ∀ x ∈ ps, x.2.length ≤ 100) (hrd : rd.length ≤ 1000) (hd : d.length ≤ 100)
    (hp1 : -128 < p - st.q ∧ p - st.q < 128) (hp2 : -128 < p - st.e ∧ p - st.e < 128) (hp3 : -128 < p + d.length - st.q ∧ p + d.length - st.q < 128)
    (hcut : hb = true → st.fin = none → ¬ p + d.length < st.q → cutLoop (p + d.length) ps [] = ps)
    (hah : ∀ fp, finA st.q st.e p d hb st.fin = some fp → (-128 < p - fp ∧ p - fp < 128) ∧ (if p < fp then cut (letIn st.e p d) none (some (fp - p)) else []) = letIn st.e p d)
    (hm : ∀ b d', 0 ≤ b → d'.length ≤ 100 → (missLoop b d' (rel st.q ps) b []).length ≤ 101 ∧ (∀ x ∈ missLoop b d' (rel st.q ps) b [], x.2.length ≤ 100) ∧ (mergeLoop (rel st.q ps) (missLoop b d' (rel st.q ps) b []) []).length ≤ 500 ∧
      (∀ x ∈ mergeLoop (rel st.q ps) (missLoop b d' (rel st.q ps) b []) [], x.2.length ≤ 1000) ∧ (∀ x ∈ joinLoop (mergeLoop (rel st.q ps) (missLoop b d' (rel st.q ps) b []) []) none [], x.2.length ≤ 1000))
    (hpq2 : ∀ x ∈ psA st.q p ps st.hf (letIn st.e p d), 0 ≤ x.1 - st.q ∧ x.1 - st.q < 128) (hps2 : (psA st.q p ps st.hf (letIn st.e p d)).length ≤ 1000) (hdl2 : ∀ x ∈ psA st.q p ps st.hf (letIn st.e p d), x.2.length ≤ 1000)
    (hfn : ∀ x, finA st.q st.e p d hb st.fin = some x → -128 < x - (st.q + (if st.hf then [] else (takeD st.q (psA st.q p ps st.hf (letIn st.e p d))).1).length) ∧ x - (st.q + (if st.hf then [] else (takeD st.q (psA st.q p ps st.hf (letIn st.e p d))).1).length) < 128)
    (k : ∀ fr ps' st' tu t pl' vs' n' own' s', fr = (if st.hf then [] else (takeD st.q (psA st.q p ps st.hf (letIn st.e p d))).1) → ps' = (if st.hf then psA st.q p ps st.hf (letIn st.e p d) else (takeD st.q (psA st.q p ps st.hf (letIn st.e p d))).2) →
      st'.e = st.e → st'.fin = finA st.q st.e p d hb st.fin →
      st'.q = st.q + fr.length + (if !st.hf && decide (finA st.q st.e p d hb st.fin = some (st.q + fr.length)) then 1 else 0) → st'.hf = (st.hf || decide (finA st.q st.e p d hb st.fin = some (st.q + fr.length))) →
      Cx (KK w) g L o s' m (own' ++ (tu, tupO [.int fr.length t, .bool (decide (p ≤ st.q))]) :: rest) → RW w own' r st' pl' vs' n' ps' (rd ++ fr) → R (.ok (.ret (.ref tu))) s') :
    codeX (model prog w) A (.call (.ref 195) ⟨[.ref r.x, .int (W r.f r.a.ring p) t, .bytes d.toArray td, .bool hb], []⟩) R s := by
  refine call_fnX [("self", .ref r.x), ("seq", .int (W r.f r.a.ring p) t), ("octets", .bytes d.toArray td), ("has_fin", .bool hb)] [("has_fin", .bool hb), ("octets", .bytes d.toArray td), ("seq", .int (W r.f r.a.ring p) t), ("self", .ref r.x)] C hA.dep (by rfl) (by rfl) (BindsTo.of_eq rfl) (by rfl) (by rfl) ?_
  clear C
  intro g' L' s' C back
  refine wpX_split (pre := [_, _, _, _, _]) ?_
  have i1 := List.mem_append_left rest I.h1
  have i2 := List.mem_append_left rest I.h2
  have i3 := List.mem_append_left rest I.h3
  have i4 := List.mem_append_left rest I.h4
  have i5 := List.mem_append_left rest I.h5
  have iP := I.hP.mono (fun _ h => List.mem_append_left rest h)
  wtm_at "g"
  refine atmostW C ((hA.deeper _).le (by decide)) hr hp1 ?_
  clear C; intro s C
  wtm_at "g"
  refine let_in_spec2 C ((hA.deeper _).le (by decide)) ⟨i1, i2⟩ hr hp2 (by omega) ?_
  clear C; intro tk s C
  have hk0 : (letIn st.e p d).length ≤ d.length := by
    unfold letIn; split
    · exact cut_length _ _ _
    · exact Nat.zero_le _
  generalize hkept : letIn st.e p d = kept at *
  wtm_at "m"
  refine sIfJ (fun s => Any6 fun junk own' pl' vs' n' st' => All6 (Cx (KK w) g' L' o s (lj [("kept", .bytes kept.toArray tk), ("is_in_order", .bool (decide (p ≤ st.q))), ("octets", .bytes d.toArray td), ("seq", .int (W r.f r.a.ring p) t), ("self", .ref r.x)] junk) (own' ++ rest)) (RW w own' r st' pl' vs' n' ps rd) (st'.fin = finA st.q st.e p d hb st.fin) (st'.e = st.e) (st'.q = st.q) (st'.hf = st.hf)) ?_ ?_
  · intro QB hQB
    have none' : ∀ {s : Shared}, Cx (KK w) g' L' o s (lk [("kept", .bytes kept.toArray tk), ("is_in_order", .bool (decide (p ≤ st.q))), ("has_fin", .bool hb), ("octets", .bytes d.toArray td), ("seq", .int (W r.f r.a.ring p) t), ("self", .ref r.x)]) (own ++ rest) → finA st.q st.e p d hb st.fin = st.fin → QB .next s := fun C e =>
      hQB _ ⟨_, own, _, _, _, st, C.norm [("kept", _), ("is_in_order", _), ("octets", _), ("seq", _), ("self", _)] (by wtm_at "ag"), I, e.symm, rfl, rfl, rfl⟩
    wtm_at "g"
    refine ⟨fun hb1 => ?_, fun hb1 => ?_⟩
    · wtm_at "g"
      refine ⟨fun hb2 => ?_, fun hb2 => ?_⟩
      · have hb2 : kept.length = d.length := by have := eq_of_beq hb2; omega
        wtm_at "g"
        refine plusW C ((hA.deeper _).le (by decide)) hr ?_
        clear C; intro t2 s C
        wtm_at "g"
        refine note_fin_spec C ((hA.deeper _).le (by decide)) ⟨i1, i2⟩ i3 i4 i5 I.hne iP hr (fun x hx => by have := hpq x hx; omega) hp3 (by omega) (fun x hx => by have := hdl x hx; omega) ?_ ?_
        · intro hx s C
          wtm_at "g"
          refine none' C ?_
          unfold finA
          rw [if_neg]
          rintro ⟨_, _, h1, h2⟩
          rcases hx with hx | hx
          · rw [h1] at hx; cases hx
          · exact h2 hx
        · intro h1 h2 tf pl' vs' n' T news1 news' s U U2 C hm' hP'
          obtain ⟨own1, rfl, V⟩ := U.own I.h2 (by have := C.nd; rw [List.map_append, U2.map, U.map] at this; exact (List.nodup_append.mp this).2.1)
          have I1 := I.set (st' := { st with fin := some (p + d.length), tf := tf }) V rfl
          obtain ⟨own2, rfl, V2⟩ := U2.own I1.h4 (by have := C.nd; rw [List.map_append, U2.map] at this; exact (List.nodup_append.mp this).2.1)
          rw [hcut hb1 h1 h2] at hP'
          have I2 := I1.asm V2 hm' hP'
          wtm_at "g"
          refine hQB _ ⟨_, T ++ own2, _, _, _, _, C.asc.norm [("kept", _), ("is_in_order", _), ("octets", _), ("seq", _), ("self", _)] (by wtm_at "ag"), I2, ?_, rfl, rfl, rfl⟩
          unfold finA
          rw [if_pos ⟨hb1, by rw [hkept]; exact hb2, h1, h2⟩]
      · wtm_at "g"
        refine none' C ?_
        unfold finA
        rw [if_neg]
        rintro ⟨_, h, _⟩
        rw [hkept] at h
        simp [h] at hb2
    · wtm_at "g"
      refine none' C ?_
      unfold finA
      rw [if_neg]
      rintro ⟨h, _⟩
      rw [h] at hb1; cases hb1
  clear C i1 i2 i3 i4 i5 iP I
  rintro s ⟨junk, own', pl', vs', n', st', C, I, ef, ee, eq, eh⟩
  generalize hfin : finA st.q st.e p d hb st.fin = fin' at *
  refine sIfJ (fun s => Any2 fun junk tk => Cx (KK w) g' L' o s (lj [("kept", .bytes kept.toArray tk), ("is_in_order", .bool (decide (p ≤ st.q))), ("octets", .bytes d.toArray td), ("seq", .int (W r.f r.a.ring p) t), ("self", .ref r.x)] junk) (own' ++ rest)) ?_ ?_
  · intro QB hQB
    have i1 := List.mem_append_left rest I.h1
    have i2 := List.mem_append_left rest I.h2
    have hfv : (finV r.f r.a.ring st'.fin st'.tf == .none) = st'.fin.isNone := by cases st'.fin <;> rfl
    wtm_at "g"
    rw [hfv]
    refine ⟨fun hb1 => ?_, fun hb1 => ?_⟩
    · have hb1 := b_not_true hb1
      obtain ⟨fp, hfp⟩ : ∃ fp, st'.fin = some fp := by
        cases h : st'.fin with
        | none => rw [h] at hb1; cases hb1
        | some x => exact ⟨x, rfl⟩
      obtain ⟨q1, q2⟩ := hah fp (by rw [← ef, hfp])
      wtm_at "g"
      refine ahead_of_fin_spec2 C ((hA.deeper _).le (by decide)) ⟨i1, i2⟩ hfp hr q1 (by omega) q2 ?_
      clear C; intro tk2 s C
      wtm_at "g"
      exact hQB _ ⟨_, tk2, C.norm [("kept", _), ("is_in_order", _), ("octets", _), ("seq", _), ("self", _)] (by wtm_at "ag")⟩
    · wtm_at "g"
      exact hQB _ ⟨_, tk, C⟩
  clear C junk tk
  rintro s ⟨junk, tk, C⟩
  refine sIfJ (fun s => Any5 fun junk own2 pl' vs' n' => All2 (Cx (KK w) g' L' o s (lj [("kept", .bytes kept.toArray tk), ("is_in_order", .bool (decide (p ≤ st.q))), ("octets", .bytes d.toArray td), ("seq", .int (W r.f r.a.ring p) t), ("self", .ref r.x)] junk) (own2 ++ rest)) (RW w own2 r st' pl' vs' n' (psA st.q p ps st.hf kept) rd)) ?_ ?_
  · intro QB hQB
    have i1 := List.mem_append_left rest I.h1
    have i2 := List.mem_append_left rest I.h2
    have i3 := List.mem_append_left rest I.h3
    have i4 := List.mem_append_left rest I.h4
    have i5 := List.mem_append_left rest I.h5
    have iP := I.hP.mono (fun _ h => List.mem_append_left rest h)
    wtm_at "g"
    refine ⟨fun hb1 => ?_, fun hb1 => ?_⟩
    · have hb1 : st'.hf = false := b_not_true hb1
      wtm_at "g"
      refine ⟨fun hb2 => ?_, fun hb2 => ?_⟩
      · have hb2 : kept ≠ [] := by simpa using hb2
        have ep : psA st.q p ps st.hf kept = putP st.q ps p kept := if_pos ⟨eh ▸ hb1, hb2⟩
        wtm_at "g"
        rw [eq]
        refine put_spec C ((hA.deeper _).le (by decide)) i3 i4 i5 iP hr hpq hp1 hdl (by omega) hps hm ?_ ?_
        · intro e T s C
          wtm_at "g"
          exact hQB _ ⟨_, T ++ own', _, _, _, C.asc, by rw [ep, e]; exact I.more T⟩
        · intro pl2 vs2 n2 T news' s U C hm' hP'
          obtain ⟨own2, rfl, V⟩ := U.own I.h4 (by have := C.nd; rw [List.map_append, U.map] at this; exact (List.nodup_append.mp this).2.1)
          wtm_at "g"
          exact hQB _ ⟨_, T ++ own2, _, _, _, C.asc, by rw [ep]; exact I.asm V hm' hP'⟩
      · have hb2 : kept = [] := by simpa using hb2
        have ep : psA st.q p ps st.hf kept = ps := if_neg (fun h => h.2 hb2)
        wtm_at "g"
        exact hQB _ ⟨_, _, _, _, _, C, by rw [ep]; exact I⟩
    · have hb1 : st'.hf = true := b_not_false hb1
      have ep : psA st.q p ps st.hf kept = ps := if_neg (fun h => by rw [← eh, hb1] at h; cases h.1)
      wtm_at "g"
      exact hQB _ ⟨_, _, _, _, _, C, by rw [ep]; exact I⟩
  clear C I junk
  rintro s ⟨junk, own2, pl2, vs2, n2, C, I⟩
  wtm_at "m"
  refine And.intro rfl ?_
  refine wpX_execs_cons (wpX_Assign_Name (wpX_MethodCall ?_))
  have i1 := List.mem_append_left rest I.h1
  have i2 := List.mem_append_left rest I.h2
  wtm_at "g"
  refine xCallX0 C k223 ?_
  refine gather_spec C ((hA.deeper _).le (by decide)) I hr (by rw [eq]; exact hpq2) hps2 hdl2 hrd (by rw [ef, eq, eh]; exact hfn) ?_
  clear C I i1 i2
  rw [ef, ee, eq, eh]
  intro fr ps' st2 t2 vs3 n3 own3 s e1 e2 e3 e4 e5 e6 C I
  refine xStore C ?_
  clear C; intro s C
  refine xa ?_
  wtm_at "g"
  exact k fr ps' st2 D t2 pl2 vs3 n3 own3 s e1 e2 e3 e4 e5 e6 (back _ _ _ (C.perm List.perm_middle)) I

end
section
abbrev rangeO (a b : Int) (t u v : Tok) : Obj := { cls := .type "range", data := .fields #[.int a t, .int b u, .int 1 v] }
section
variable {prog : Program} {w : World} {A : Around} {E : Value → Shared → Prop} {K : Frag} {g : Heap} {L : Addr} {o : OsState} {s : Shared} {m : Str → Option Value} {news news' : List (Addr × Obj)} {env : Env} {rest body : List Stmt} {pos : Pos} {target iter : Expr} {D d : Addr} {vs : List Value} {n : Nat} {x y a b : Int} {t u : Tok}
theorem xSetI {i : Int} {y : Value} {Q : Unit → Shared → Prop} (C : Cx K g L o s m news) (h0 : 0 ≤ i) (h1 : i < vs.length) (hz : vs.length ≤ 1000) (U : At D (lstO vs n) (lstO (vs.set i.toNat y) n) news news') (h : ∀ s', Cx K g L o s' m news' → Q () s') :
    wpAny (model prog w) A (setItem (.ref D) (.int i u) y) Q E s :=
  ki_setAt (C.get U.mem) h0 (by omega) (by simpa using h1) (h _ (C.upd (tk := s.toks) U (by simp [Obj.mapSeq, lstO]) rfl))
theorem xRange1 (C : Cx K g L o s m news) {Q : Value → Shared → Prop} (h : ∀ D t1 t2 t3 s', Cx K g L o s' m ((D, rangeO 0 b t1 t2 t3) :: news) → Q (.ref D) s') : wpAny (model prog w) A (call (.type "range") [.int b u] []) Q E s :=
  call_range_1 (h _ _ _ _ _ (C.push _))
theorem xRange2 (C : Cx K g L o s m news) {Q : Value → Shared → Prop} (h : ∀ D t1 t2 t3 s', Cx K g L o s' m ((D, rangeO a b t1 t2 t3) :: news) → Q (.ref D) s') : wpAny (model prog w) A (call (.type "range") [.int a t, .int b u] []) Q E s :=
  call_range_2 (h _ _ _ _ _ (C.push _))
theorem xIntI (C : Cx K g L o s m news) {Q : Value → Shared → Prop} (h : Q (.int x t) s) : wpAny (model prog w) A (call (.type "int") [.int x t] []) Q E s := call_int_int h
theorem xIntB {c : Bool} (C : Cx K g L o s m news) {Q : Value → Shared → Prop} (h : ∀ t s', Cx K g L o s' m news → Q (.int (if c then 1 else 0) t) s') : wpAny (model prog w) A (call (.type "int") [.bool c] []) Q E s := call_int_bool (h _ _ C.toks)
theorem xMulB {l : List UInt8} (C : Cx K g L o s m news) {Q : Value → Shared → Prop} (hb : l ≠ []) (hlo : -1048576 ≤ x) (hn : x ≤ 1048576) (hs : l.length ≤ 16) (h : ∀ t s', Cx K g L o s' m news → Q (.bytes ((List.replicate x.toNat l).flatten).toArray t) s') :
    wpAny (model prog w) A (binaryOp .Mult (.bytes l.toArray t) (.int x u)) Q E s := bytes_mul_any hb hlo hn hs fun t' k => h _ _ C.toks
theorem xBytesL {ns : List Int} (C : Cx K g L o s m news) (hm : (D, lstO vs n) ∈ news) (hi : IntsAre vs ns) (hr : ∀ n ∈ ns, 0 ≤ n ∧ n < 256) (hz : vs.length ≤ 1000000) (hh : A.handled = none) {Q : Value → Shared → Prop}
    (h : ∀ t s', Cx K g L o s' m news → Q (.bytes (ns.map fun n => n.toNat.toUInt8).toArray t) s') : wpAny (model prog w) A (call (.type "bytes") [.ref D] []) Q E s :=
  call_bytes_ints (C.isList hm) hi hr (by rw [sizeLine_eq]; omega) hh fun h' t k hk => h _ _ (C.ext hk)
theorem xMaxL {ns : List Int} (C : Cx K g L o s m news) (hm : (D, lstO vs n) ∈ news) (hi : IntsAre vs ns) (hne : 0 < ns.length) (hh : A.handled = none) {Q : Value → Shared → Prop}
    (h : ∀ M t s', Cx K g L o s' m news → M ∈ ns → (∀ a, a ∈ ns → a ≤ M) → Q (.int M t) s') : wpAny (model prog w) A (call (.builtin "max") [.ref D] []) Q E s :=
  max_list_N hh C.fr C.nw (C.isList hm) hi hne fun h' M t tk F N hM hM2 => h M t _ (C.mk' F N C.nd) hM hM2
theorem updF_of {ob : Obj} : ∀ {news : List (Addr × Obj)}, (news.map (·.1)).Nodup → (d, ob) ∈ news → ∃ g, UpdF d ob news g ∧ ∀ o', At d ob o' news (g o')
  | p :: r, nd, hm => by
    rw [List.map_cons, List.nodup_cons] at nd
    by_cases e : p = (d, ob)
    · subst e
      exact ⟨_, .head fun q hq e => nd.1 (List.mem_map.mpr ⟨q, hq, e⟩), fun o' => .head⟩
    · have hm' : (d, ob) ∈ r := by cases hm with | head => exact absurd rfl e | tail _ h => exact h
      obtain ⟨g, U, h⟩ := updF_of nd.2 hm'
      exact ⟨_, .tail (fun e => nd.1 (List.mem_map.mpr ⟨_, hm', e.symm⟩)) U, fun o' => .tail (h o')⟩
theorem At.midE {ob ob' : Obj} {post : List (Addr × Obj)} : ∀ {pre news' : List (Addr × Obj)}, ((pre ++ (d, ob) :: post).map (·.1)).Nodup → At d ob ob' (pre ++ (d, ob) :: post) news' → news' = pre ++ (d, ob') :: post
  | [], news', nd, U => by
    rw [List.nil_append] at U nd
    rw [List.map_cons, List.nodup_cons] at nd
    cases U with
    | head => rfl
    | tail U => exact absurd (List.mem_map.mpr ⟨_, U.mem, rfl⟩) nd.1
  | p :: pre, news', nd, U => by
    rw [List.cons_append] at U nd
    rw [List.map_cons, List.nodup_cons] at nd
    cases U with
    | head => exact absurd (List.mem_map.mpr ⟨(d, ob), by simp, rfl⟩) nd.1
    | tail U => rw [At.midE nd.2 U]; rfl
section
variable {T : Type} [DecidableEq T] {knd : KeyKind prog w T} {kvs kvs' : List (T × Value)} {k : T} {key v : Value} {ob : Obj}
theorem xDGet {value slice : Expr} {Q : Value → Shared → Prop} (C : Cx K g L o s m news) (hm : (d, ob) ∈ news) (hd : ob.IsDictOf knd kvs) (hkey : knd.is k key = true) (hl : valueAt kvs k = some v) 
    (hs : subscripted slice false (.ref d) key = operate [.ref d, key] (getItem (.ref d) key)) (h : ∀ s', Cx K g L o s' m news → Q v s') : wpAny (model prog w) A (subscriptTail value slice (.ref d) key) Q E s :=
  kdt_tail C.nw hm hd (kdt_getItem C.nw hm hd hkey hl (h _ C.toks)) hs
theorem xDNotIn {Q : Value → Shared → Prop} {c : Bool} (C : Cx K g L o s m news) (hm : (d, ob) ∈ news) (hd : ob.IsDictOf knd kvs) (lo : (d == sysModules) = false) (hkey : knd.is k key = true) (hc : (valueAt kvs k).isSome = c) (h : ∀ s', Cx K g L o s' m news → Q (.bool (!c)) s') :
    wpAny (model prog w) A (compareOp .NotIn key (.ref d)) Q E s := kdg_notin C.nw hm hd lo hkey c hc (h _ C.toks)
theorem xDIn {Q : Value → Shared → Prop} {c : Bool} (C : Cx K g L o s m news) (hm : (d, ob) ∈ news) (hd : ob.IsDictOf knd kvs) (lo : (d == sysModules) = false) (hkey : knd.is k key = true) (hc : (valueAt kvs k).isSome = c) (h : ∀ s', Cx K g L o s' m news → Q (.bool c) s') :
    wpAny (model prog w) A (compareOp .In key (.ref d)) Q E s := kda_in C.nw hm hd lo hkey c hc (h _ C.toks)
theorem xDSet {Q : Unit → Shared → Prop} {post : List (Addr × Obj)} (pre : List (Addr × Obj)) (C : Cx K g L o s m (pre ++ (d, ob) :: post)) (hd : ob.IsDictOf knd kvs) (hkey : knd.is k key = true) (hz : kvs.length ≤ 1000000) (he : stored kvs k v = kvs')
    (h : ∀ o' s', Cx K g L o s' m (pre ++ (d, o') :: post) → o'.IsDictOf knd kvs' → Q () s') : wpAny (model prog w) A (setItem (.ref d) key v) Q E s := by
  obtain ⟨g, U, hU⟩ := updF_of C.nd (List.mem_append_right _ (.head _))
  refine kda_set C.fr C.nw U hd hkey (by rw [sizeLine_eq]; omega) fun h' o' F N hd' => ?_
  have e := At.midE C.nd (hU o')
  have nd : ((g o').map (·.1)).Nodup := by rw [(hU o').map]; exact C.nd
  have C' := C.mk' (tk := s.toks + 1) F N nd
  rw [e] at C'
  exact h _ _ C' (he ▸ hd')
end
abbrev WL (v0 v1 v2 v3 v4 v5 v6 : Value) : List (Str × Value) := [("stream", v0), ("next", v1), ("known", v2), ("read", v3), ("edge", v4), ("fin", v5), ("over", v6)]
section
variable {v0 v1 v2 v3 v4 v5 v6 v : Value}
theorem wg0 : valueAt (WL v0 v1 v2 v3 v4 v5 v6) "stream" = some v0 := by rfl
theorem wg1 : valueAt (WL v0 v1 v2 v3 v4 v5 v6) "next" = some v1 := by rfl
theorem wg2 : valueAt (WL v0 v1 v2 v3 v4 v5 v6) "known" = some v2 := by rfl
theorem wg3 : valueAt (WL v0 v1 v2 v3 v4 v5 v6) "read" = some v3 := by rfl
theorem wg4 : valueAt (WL v0 v1 v2 v3 v4 v5 v6) "edge" = some v4 := by rfl
theorem wg5 : valueAt (WL v0 v1 v2 v3 v4 v5 v6) "fin" = some v5 := by rfl
theorem wg6 : valueAt (WL v0 v1 v2 v3 v4 v5 v6) "over" = some v6 := by rfl
theorem ws1 : stored (WL v0 v1 v2 v3 v4 v5 v6) "next" v = WL v0 v v2 v3 v4 v5 v6 := by rfl
theorem ws3 : stored (WL v0 v1 v2 v3 v4 v5 v6) "read" v = WL v0 v1 v2 v v4 v5 v6 := by rfl
theorem ws4 : stored (WL v0 v1 v2 v3 v4 v5 v6) "edge" v = WL v0 v1 v2 v3 v v5 v6 := by rfl
theorem ws5 : stored (WL v0 v1 v2 v3 v4 v5 v6) "fin" v = WL v0 v1 v2 v3 v4 v v6 := by rfl
theorem ws6 : stored (WL v0 v1 v2 v3 v4 v5 v6) "over" v = WL v0 v1 v2 v3 v4 v5 v := by rfl
end
/-- what is known, as a function of the place -/
def KIn (kvs : List (Int × Value)) (kk : Int → Option UInt8) : Prop := ∀ x, match kk x with | none => valueAt kvs x = none | some b => ∃ t, valueAt kvs x = some (.int b.toNat t)
theorem KIn.some {kvs : List (Int × Value)} {kk : Int → Option UInt8} (h : KIn kvs kk) (x : Int) : (valueAt kvs x).isSome = (kk x).isSome := by
  have := h x
  cases e : kk x with
  | none => rw [e] at this; rw [this]; rfl
  | some b => rw [e] at this; obtain ⟨t, q⟩ := this; rw [q]; rfl
theorem KIn.get {kvs : List (Int × Value)} {kk : Int → Option UInt8} (h : KIn kvs kk) {x : Int} {b : UInt8} (e : kk x = Option.some b) : ∃ t, valueAt kvs x = Option.some (.int b.toNat t) := by
  have := h x
  rw [e] at this; exact this
theorem valueAt_stored {kvs : List (Int × Value)} {k x : Int} {v : Value} : valueAt (stored kvs k v) x = if x = k then Option.some v else valueAt kvs x := by
  unfold stored valueAt
  split
  · rename_i h
    induction kvs with
    | nil => simp at h
    | cons p r ih =>
      obtain ⟨a, b⟩ := p
      rw [List.map_cons, List.find?_cons, List.find?_cons]
      by_cases e : a = k
      · subst e
        by_cases e2 : x = a
        · subst e2; simp
        · simp only [if_neg e2, if_true]
          have : decide (a = x) = false := by simpa using fun h => e2 h.symm
          simp only [this]
          clear ih h
          congr 1
          induction r with
          | nil => rfl
          | cons p r ih =>
            obtain ⟨c, d⟩ := p
            rw [List.map_cons, List.find?_cons, List.find?_cons]
            by_cases e3 : c = a
            · subst e3; simp [this, ih]
            · simp [e3, ih]
      · have h' : r.any (fun kv => kv.1 = k) = true := by simpa [e] using h
        by_cases e2 : a = x
        · subst e2; simp [e]
        · rw [if_neg e]; simp only [decide_eq_false e2]; exact ih h'
  · rename_i h
    rw [List.find?_append]
    by_cases e : x = k
    · subst e
      have : kvs.find? (fun kv => decide (kv.1 = x)) = none := by
        rw [List.find?_eq_none]; intro p hp
        simp only [List.any_eq_true, not_exists, not_and] at h
        simpa using h p hp
      rw [this]; simp
    · rw [if_neg e]
      have : ([(k, v)] : List (Int × Value)).find? (fun kv => decide (kv.1 = x)) = none := by simp [Ne.symm e]
      rw [this]; simp
theorem stored_length {kvs : List (Int × Value)} {k : Int} {v : Value} : (stored kvs k v).length ≤ kvs.length + 1 := by
  unfold stored; split <;> simp
theorem KIn.set {kvs : List (Int × Value)} {kk : Int → Option UInt8} (h : KIn kvs kk) {k : Int} {c : UInt8} {t : Tok} : KIn (stored kvs k (.int c.toNat t)) (fun x => if x = k then Option.some c else kk x) := by
  intro x
  have := h x
  rw [valueAt_stored]
  by_cases e : x = k
  · simp only [if_pos e]; exact ⟨_, rfl⟩
  · simp only [if_neg e]; exact this
theorem xBoolNe {c c' : Bool} {Q : Value → Shared → Prop} (h : Q (.bool (c != c')) s) : wpAny (model prog w) A (compareOp .NotEq (.bool c) (.bool c')) Q E s := PyProof.Rows.ne_bool h
theorem xBoolEq {c c' : Bool} {Q : Value → Shared → Prop} (h : Q (.bool (c == c')) s) : wpAny (model prog w) A (compareOp .Eq (.bool c) (.bool c')) Q E s := PyProof.Rows.eq_bool h
end
end
section
section
variable {prog : Program} {w : World} {A : Around} {E : Value → Shared → Prop} {K : Frag} {g : Heap} {L : Addr} {o : OsState} {s : Shared} {m : Str → Option Value} {news news' : List (Addr × Obj)} {env : Env} {rest body : List Stmt} {pos : Pos} {target iter : Expr} {D d : Addr} {vs : List Value} {n : Nat} {x y a b : Int} {t u : Tok}
theorem xW0 {v0 v1 v2 v3 v4 v5 v6 : Value} {wo : Obj} {value slice : Expr} {Q : Value → Shared → Prop} (HW : wo.IsDictOf (PySem.strKind prog w) (WL v0 v1 v2 v3 v4 v5 v6)) (C : Cx K g L o s m news) (hm : (d, wo) ∈ news)
    (hs : subscripted slice false (.ref d) (.str "stream" t) = operate [.ref d, .str "stream" t] (getItem (.ref d) (.str "stream" t))) (h : ∀ s', Cx K g L o s' m news → Q v0 s') : wpAny (model prog w) A (subscriptTail value slice (.ref d) (.str "stream" t)) Q E s :=
  xDGet C hm HW (PySem.strKind_is _ _ _ _) wg0 hs h
theorem xW1 {v0 v1 v2 v3 v4 v5 v6 : Value} {wo : Obj} {value slice : Expr} {Q : Value → Shared → Prop} (HW : wo.IsDictOf (PySem.strKind prog w) (WL v0 v1 v2 v3 v4 v5 v6)) (C : Cx K g L o s m news) (hm : (d, wo) ∈ news)
    (hs : subscripted slice false (.ref d) (.str "next" t) = operate [.ref d, .str "next" t] (getItem (.ref d) (.str "next" t))) (h : ∀ s', Cx K g L o s' m news → Q v1 s') : wpAny (model prog w) A (subscriptTail value slice (.ref d) (.str "next" t)) Q E s :=
  xDGet C hm HW (PySem.strKind_is _ _ _ _) wg1 hs h
theorem xW2 {v0 v1 v2 v3 v4 v5 v6 : Value} {wo : Obj} {value slice : Expr} {Q : Value → Shared → Prop} (HW : wo.IsDictOf (PySem.strKind prog w) (WL v0 v1 v2 v3 v4 v5 v6)) (C : Cx K g L o s m news) (hm : (d, wo) ∈ news)
    (hs : subscripted slice false (.ref d) (.str "known" t) = operate [.ref d, .str "known" t] (getItem (.ref d) (.str "known" t))) (h : ∀ s', Cx K g L o s' m news → Q v2 s') : wpAny (model prog w) A (subscriptTail value slice (.ref d) (.str "known" t)) Q E s :=
  xDGet C hm HW (PySem.strKind_is _ _ _ _) wg2 hs h
theorem xW3 {v0 v1 v2 v3 v4 v5 v6 : Value} {wo : Obj} {value slice : Expr} {Q : Value → Shared → Prop} (HW : wo.IsDictOf (PySem.strKind prog w) (WL v0 v1 v2 v3 v4 v5 v6)) (C : Cx K g L o s m news) (hm : (d, wo) ∈ news)
    (hs : subscripted slice false (.ref d) (.str "read" t) = operate [.ref d, .str "read" t] (getItem (.ref d) (.str "read" t))) (h : ∀ s', Cx K g L o s' m news → Q v3 s') : wpAny (model prog w) A (subscriptTail value slice (.ref d) (.str "read" t)) Q E s :=
  xDGet C hm HW (PySem.strKind_is _ _ _ _) wg3 hs h
theorem xW4 {v0 v1 v2 v3 v4 v5 v6 : Value} {wo : Obj} {value slice : Expr} {Q : Value → Shared → Prop} (HW : wo.IsDictOf (PySem.strKind prog w) (WL v0 v1 v2 v3 v4 v5 v6)) (C : Cx K g L o s m news) (hm : (d, wo) ∈ news)
    (hs : subscripted slice false (.ref d) (.str "edge" t) = operate [.ref d, .str "edge" t] (getItem (.ref d) (.str "edge" t))) (h : ∀ s', Cx K g L o s' m news → Q v4 s') : wpAny (model prog w) A (subscriptTail value slice (.ref d) (.str "edge" t)) Q E s :=
  xDGet C hm HW (PySem.strKind_is _ _ _ _) wg4 hs h
theorem xW5 {v0 v1 v2 v3 v4 v5 v6 : Value} {wo : Obj} {value slice : Expr} {Q : Value → Shared → Prop} (HW : wo.IsDictOf (PySem.strKind prog w) (WL v0 v1 v2 v3 v4 v5 v6)) (C : Cx K g L o s m news) (hm : (d, wo) ∈ news)
    (hs : subscripted slice false (.ref d) (.str "fin" t) = operate [.ref d, .str "fin" t] (getItem (.ref d) (.str "fin" t))) (h : ∀ s', Cx K g L o s' m news → Q v5 s') : wpAny (model prog w) A (subscriptTail value slice (.ref d) (.str "fin" t)) Q E s :=
  xDGet C hm HW (PySem.strKind_is _ _ _ _) wg5 hs h
theorem xW6 {v0 v1 v2 v3 v4 v5 v6 : Value} {wo : Obj} {value slice : Expr} {Q : Value → Shared → Prop} (HW : wo.IsDictOf (PySem.strKind prog w) (WL v0 v1 v2 v3 v4 v5 v6)) (C : Cx K g L o s m news) (hm : (d, wo) ∈ news)
    (hs : subscripted slice false (.ref d) (.str "over" t) = operate [.ref d, .str "over" t] (getItem (.ref d) (.str "over" t))) (h : ∀ s', Cx K g L o s' m news → Q v6 s') : wpAny (model prog w) A (subscriptTail value slice (.ref d) (.str "over" t)) Q E s :=
  xDGet C hm HW (PySem.strKind_is _ _ _ _) wg6 hs h
theorem xSet2_0 {p q y : Value} {Q : Unit → Shared → Prop} (C : Cx K g L o s m news) (U : At D (lstO [p, q] n) (lstO [y, q] n) news news') (h : ∀ s', Cx K g L o s' m news' → Q () s') :
    wpAny (model prog w) A (setItem (.ref D) (.int 0 u) y) Q E s := xSetI C (by decide) (by show (0:Int) < 2; decide) (by show 2 ≤ 1000; decide) U h
theorem xSet2_1 {p q y : Value} {Q : Unit → Shared → Prop} (C : Cx K g L o s m news) (U : At D (lstO [p, q] n) (lstO [p, y] n) news news') (h : ∀ s', Cx K g L o s' m news' → Q () s') :
    wpAny (model prog w) A (setItem (.ref D) (.int 1 u) y) Q E s := xSetI C (by decide) (by show (1:Int) < 2; decide) (by show 2 ≤ 1000; decide) U h
theorem mulOkB {m n : Nat} (ha : Builtin.Int.intBits x ≤ m) (hb : Builtin.Int.intBits y ≤ n) (h : m + n ≤ 134217728) : IntMulOk x y := IntMulOk.of_le ha hb h
theorem mulOkR (h1 : -1000000000000000000 < y) (h2 : y < 1000000000000000000) : IntMulOk x y := IntMulOk.of_right (intBits_le_64 (by omega) (by omega))
/-- the iterator of a range, at x with l to go -/
abbrev rngI (x l : Int) : Obj := { cls := .type "range_iterator", data := .fields #[rawInt x, rawInt l, rawInt 1] }
theorem rangeSize_nat {N : Nat} : Builtin.Range.rangeSize a (a + N) 1 = N := by
  rw [rangeSize_one]; split <;> omega
theorem sForR {m0 : Str → Option Value} {led0 : List (Addr × Obj)} {s0 : Shared} {N : Nat} {Q : Flow → Shared → Prop} (C0 : Cx K g L o s0 m0 led0) (J : Nat → (Str → Option Value) → List (Addr × Obj) → Prop) (hh : A.handled = none) (hN : N ≤ 1000000) (ha : 0 ≤ a) (ha2 : a ≤ 1000000)
    (h : ∀ QI : Value → Shared → Prop, (∀ D t1 t2 t3 m led s₁, Cx K g L o s₁ m ((D, rangeO a (a + N) t1 t2 t3) :: led) → J 0 m led → QI (.ref D) s₁) → wpAny (model prog w) A (eval iter env) QI (fun _ _ => False) s)
    (turn : ∀ (i : Nat) I ob (QB : Flow → Shared → Prop), (∀ f m' led' s₃, f = .next ∨ f = .cont → Cx K g L o s₃ m' ((I, ob) :: led') → J (i + 1) m' led' → QB f s₃) → (∀ s₃, wpAny (model prog w) A (execs rest env) Q (fun _ _ => False) s₃ → QB .brk s₃) → (∀ v s₃, Q (.ret v) s₃ → QB (.ret v) s₃) →
      ∀ t m led s, i < N → J i m led → Cx K g L o s m ((I, ob) :: led) →
      wpAny (model prog w) A (assign target env (.int (a + i) t)) (fun _ s₂ => wpAny (model prog w) A (execs body env) QB (fun _ _ => False) s₂) (fun _ _ => False) s)
    (done : ∀ m led s, J N m led → Cx K g L o s m led → wpAny (model prog w) A (execs rest env) Q (fun _ _ => False) s)
    (hs : ∀ x, foldedSetIterable iter env x = pure x := by intro _; with_unfolding_all exact rfl) (ht : ∀ (I : Addr) (v : Value) (s : Shared) (Q : Unit → Shared → Prop), Q () s → wpAny (model prog w) A (letOwnedTupleGo target (.ref I) v) Q (fun _ _ => False) s := by exact fun _ _ _ _ h2 => wpAny_pure h2) :
    wpAny (model prog w) A (execs (.For target iter body [] pos :: rest) env) Q (fun _ _ => False) s := by
  refine sFor (wpAny_mono (h (fun xv s₁ => ∃ D t1 t2 t3 m led, xv = .ref D ∧ Cx K g L o s₁ m ((D, rangeO a (a + N) t1 t2 t3) :: led) ∧ J 0 m led) fun D t1 t2 t3 m led s₁ h1 h2 => ⟨D, t1, t2, t3, m, led, rfl, h1, h2⟩) (fun xv s₁ h₁ => ?_) fun _ _ e => e) hs
  obtain ⟨D, t1, t2, t3, m, led, rfl, C, hJ⟩ := h₁
  refine wpAny_pyIter_range (a := a) (b := a + N) (c := 1) (C.get (.head _)) (small_one (by omega) (by omega) (by omega) (by omega)) ?_
  have C₁ := C.drop1.push (tk := s₁.toks) (rngI a (Builtin.Range.rangeSize a (a + N) 1))
  refine ⟨fun k s => ∃ i m led, k = N + 1 - i ∧ i ≤ N ∧ Cx K g L o s m ((s₁.heap.objs.size, rngI (a + (i : Nat)) (((N - i : Nat)) : Int)) :: led) ∧ J i m led,
    N + 1, ⟨0, m, led, rfl, Nat.zero_le _, ?_, hJ⟩, ?_⟩
  · rw [rangeSize_nat] at C₁
    have e1 : a + ((0 : Nat) : Int) = a := by omega
    rw [e1, rangeSize_nat]; exact C₁
  rintro k s ⟨i, m, led, rfl, hi, C, hJ⟩
  by_cases hlt : i < N
  · refine wpAny_pyNext_range_item (C.get (.head _)) (by omega) fun h' hit' hs' => ?_
    have C' : Cx K g L o { s with heap := h', toks := s.toks + 1 } m ((s₁.heap.objs.size, rngI (a + ((i + 1 : Nat))) (((N - (i + 1) : Nat)) : Int)) :: led) := by
      refine C.but .head hs' ?_
      have e1 : a + (i : Int) + 1 = a + ((i + 1 : Nat) : Int) := by omega
      have e2 : ((N - i : Nat) : Int) - 1 = ((N - (i + 1) : Nat) : Int) := by omega
      rw [e1, e2] at hit'
      exact hit'
    refine ht _ _ _ _ ?_
    refine wpAny_mono (turn i _ _ (fun f s₃ => match f with
        | .next | .cont => ∃ m' led', Cx K g L o s₃ m' ((s₁.heap.objs.size, rngI (a + ((i + 1 : Nat))) (((N - (i + 1) : Nat)) : Int)) :: led') ∧ J (i + 1) m' led'
        | .brk => wpAny (model prog w) A (execs rest env) Q (fun _ _ => False) s₃
        | .ret v => Q (.ret v) s₃) (fun f m' led' s₃ hf h1 h2 => by rcases hf with rfl | rfl <;> exact ⟨m', led', h1, h2⟩) (fun _ h => h) (fun _ _ h => h) _ m led _ hlt hJ C') (fun _ s₂ h₂ => wpAny_mono h₂ (fun f s₃ h₃ => ?_) fun _ _ e => e) fun _ _ e => e
    cases f with
    | next => obtain ⟨m', led', C'', hJ'⟩ := h₃; exact ⟨N + 1 - (i + 1), by omega, i + 1, m', led', rfl, hlt, C'', hJ'⟩
    | cont => obtain ⟨m', led', C'', hJ'⟩ := h₃; exact ⟨N + 1 - (i + 1), by omega, i + 1, m', led', rfl, hlt, C'', hJ'⟩
    | brk => exact h₃
    | ret v => exact h₃
  · have hin : i = N := by omega
    subst hin
    refine wpAny_pyNext_range_end hh (C.get (.head _)) (by omega) fun h' he' => ?_
    exact done m led _ hJ (C.lose (tk := s.toks) he')
theorem xMulB1 {c : UInt8} (C : Cx K g L o s m news) {Q : Value → Shared → Prop} (hlo : -1048576 ≤ x) (hn : x ≤ 1048576) (h : ∀ t s', Cx K g L o s' m news → Q (.bytes (List.replicate x.toNat c).toArray t) s') :
    wpAny (model prog w) A (binaryOp .Mult (.bytes [c].toArray t) (.int x u)) Q E s := xMulB C (List.cons_ne_nil _ _) hlo hn (by show 1 ≤ 16; decide) fun t s' C => by
      rw [show (List.replicate x.toNat [c]).flatten = List.replicate x.toNat c by simp]; exact h _ _ C
theorem xItemBy {l : List UInt8} {i : Int} {ti tb : Tok} {value slice : Expr} {c : UInt8} (C : Cx K g L o s m news) {Q : Value → Shared → Prop} (hz : l.length ≤ 1000) (h0 : 0 ≤ i) (hx : l[i.toNat]? = some c)
    (h : ∀ t s', Cx K g L o s' m news → Q (.int c.toNat t) s')
    (hs : subscripted slice false (.bytes l.toArray tb) (.int i ti) = operate [.bytes l.toArray tb, .int i ti] (getItem (.bytes l.toArray tb) (.int i ti)) := by with_unfolding_all rfl)
    (ht : ∀ r, letTemporaryGo value (.bytes l.toArray tb) r = pure () := by intro _; with_unfolding_all rfl) : wpAny (model prog w) A (subscriptTail value slice (.bytes l.toArray tb) (.int i ti)) Q E s := by
  have hl : i.toNat < l.length := by
    rcases Nat.lt_or_ge i.toNat l.length with h | h
    · exact h
    · rw [List.getElem?_eq_none h] at hx; cases hx
  exact bytes_item_K (k := c.toNat) (by omega) h0 (by omega) (by rw [List.getD_eq_getElem?_getD, hx]; rfl) (h _ _ C.toks) hs ht
/-- a place or None -/
abbrev optV (p : Option Int) (t : Tok) : Value := match p with | some p => .int p t | none => .none
theorem xEqOpt {p : Option Int} {Q : Value → Shared → Prop} (h : Q (.bool (decide (p = some y))) s) : wpAny (model prog w) A (compareOp .Eq (optV p t) (.int y u)) Q E s := by
  cases p with
  | none => exact EqNone.eq_none_int h
  | some p =>
    refine xEqI ?_
    rw [show (p == y) = decide (some p = some y) by rw [Bool.eq_iff_iff]; simp]
    exact h
theorem xDSetO {T : Type} [DecidableEq T] {knd : KeyKind prog w T} {kvs kvs' : List (T × Value)} {k : T} {key v : Value} {ob : Obj} {Q : Unit → Shared → Prop} {x0 : Addr × Obj} {own post : List (Addr × Obj)} (C : Cx K g L o s m (own ++ x0 :: (d, ob) :: post)) (hd : ob.IsDictOf knd kvs) (hkey : knd.is k key = true) (hz : kvs.length ≤ 1000000) (he : stored kvs k v = kvs')
    (h : ∀ o' s', Cx K g L o s' m (own ++ x0 :: (d, o') :: post) → o'.IsDictOf knd kvs' → Q () s') : wpAny (model prog w) A (setItem (.ref d) key v) Q E s := by
  have e : ∀ z, own ++ x0 :: (d, z) :: post = (own ++ [x0]) ++ (d, z) :: post := fun z => by simp
  rw [e] at C
  exact xDSet _ C hd hkey hz he fun o' s' C' hd' => h o' s' (e o' ▸ C') hd'
theorem ifJ {M : Model} {e1 e2 : Expr} {c : Bool} {Q : Value → Shared → Prop} (P : Value → Shared → Prop) (h : ∀ QB : Value → Shared → Prop, (∀ v s, P v s → QB v s) → (c = true → wpAny M A (eval e1 env) QB E s) ∧ (c = false → wpAny M A (eval e2 env) QB E s)) (k : ∀ v s, P v s → Q v s) :
    (c = true → wpAny M A (eval e1 env) Q E s) ∧ (c = false → wpAny M A (eval e2 env) Q E s) := h Q k
theorem andJ {M : Model} {e1 : Expr} {c : Bool} {v : Value} {Q : Value → Shared → Prop} (P : Value → Shared → Prop) (h : ∀ QB : Value → Shared → Prop, (∀ v s, P v s → QB v s) → (c = true → wpAny M A (eval e1 env) QB E s) ∧ (c = false → QB v s)) (k : ∀ v s, P v s → Q v s) :
    (c = true → wpAny M A (eval e1 env) Q E s) ∧ (c = false → Q v s) := h Q k
theorem xBytesL1 {v : Int} {u : Tok} (C : Cx K g L o s m ((D, lstO [.int v u] n) :: news)) (h0 : 0 ≤ v) (h1 : v < 256) (hh : A.handled = none) {Q : Value → Shared → Prop}
    (h : ∀ t s', Cx K g L o s' m news → Q (.bytes [v.toNat.toUInt8].toArray t) s') : wpAny (model prog w) A (call (.type "bytes") [.ref D] []) Q E s :=
  xBytesL C (.head _) (.cons v u .nil) (by intro n hn; cases hn with | head => exact ⟨h0, h1⟩ | tail _ h => cases h) (by show 1 ≤ 1000000; decide) hh fun t s' C => h t s' C.drop1
end
section
variable {prog : Program} {w : World} {A : Around} {K : Frag} {g : Heap} {L : Addr} {o : OsState} {s : Shared} {env : Env} {rest body : List Stmt} {Q : Flow → Shared → Prop} {pos : Pos} {target iter : Expr} {D : Addr} {vs : List Value} {n : Nat}
theorem sForLo {obD : Obj} (hob : obD.cls = .type "list" ∧ obD.data = .seq vs.toArray n) {m0 : Str → Option Value} {led0 : List (Addr × Obj)} {s0 : Shared} (C0 : Cx K g L o s0 m0 led0) (hm0 : (D, obD) ∈ led0) (J : Nat → (Str → Option Value) → List (Addr × Obj) → Prop) (hh : A.handled = none)
    (h : ∀ QI : Value → Shared → Prop, (∀ m led s₁, Cx K g L o s₁ m led → (D, obD) ∈ led → J 0 m led → QI (.ref D) s₁) → wpAny (model prog w) A (eval iter env) QI (fun _ _ => False) s)
    (turn : ∀ i I ob (QB : Flow → Shared → Prop), (∀ f m' led' s₃, f = .next ∨ f = .cont → Cx K g L o s₃ m' ((I, ob) :: led') → (D, obD) ∈ led' → J (i + 1) m' led' → QB f s₃) → (∀ s₃, wpAny (model prog w) A (execs rest env) Q (fun _ _ => False) s₃ → QB .brk s₃) → (∀ v s₃, Q (.ret v) s₃ → QB (.ret v) s₃) →
      ∀ v m led s, vs[i]? = some v → J i m led → (D, obD) ∈ led → Cx K g L o s m ((I, ob) :: led) →
      wpAny (model prog w) A (assign target env v) (fun _ s₂ => wpAny (model prog w) A (execs body env) QB (fun _ _ => False) s₂) (fun _ _ => False) s)
    (done : ∀ m led s, J vs.length m led → Cx K g L o s m led → wpAny (model prog w) A (execs rest env) Q (fun _ _ => False) s)
    (hs : ∀ x, foldedSetIterable iter env x = pure x := by intro _; with_unfolding_all exact rfl) (ht : ∀ (I : Addr) (i : Nat) (v : Value) (s : Shared) (Q : Unit → Shared → Prop), s.heap.IsListIter I D i → Q () s → wpAny (model prog w) A (letOwnedTupleGo target (.ref I) v) Q (fun _ _ => False) s := by first | exact fun _ _ v _ _ h1 h2 => goT v h1 h2 | exact fun _ _ _ _ _ _ h2 => wpAny_pure h2) :
    wpAny (model prog w) A (execs (.For target iter body [] pos :: rest) env) Q (fun _ _ => False) s := by
  refine sFor (wpAny_mono (h (fun xv s₁ => xv = .ref D ∧ ∃ m led, Cx K g L o s₁ m led ∧ (D, obD) ∈ led ∧ J 0 m led) fun m led s₁ h1 h2 h3 => ⟨rfl, m, led, h1, h2, h3⟩) (fun xv s₁ h₁ => ?_) fun _ _ e => e) hs
  obtain ⟨rfl, m, led, C, hm, hJ⟩ := h₁
  refine wpAny_pyIter_list ⟨_, C.get hm, hob.1, _, hob.2⟩ ?_
  have C₁ := C.push (tk := s₁.toks) { cls := .type "list_iterator", data := .fields #[.ref D, .int 0 0] }
  refine ⟨fun k s => ∃ i m led ob, k = vs.length + 1 - i ∧ i ≤ vs.length ∧ ob.cls = .type "list_iterator" ∧ ob.data = .fields #[.ref D, .int (i : Nat) 0] ∧ Cx K g L o s m ((s₁.heap.objs.size, ob) :: led) ∧ (D, obD) ∈ led ∧ J i m led,
    vs.length + 1, ⟨0, m, led, _, rfl, Nat.zero_le _, rfl, rfl, C₁, hm, hJ⟩, ?_⟩
  rintro k s ⟨i, m, led, ob, rfl, hi, hc, hd, C, hm, hJ⟩
  have hit : s.heap.IsListIter s₁.heap.objs.size D i := ⟨ob, C.get (.head _), hc, hd⟩
  have hl : s.heap.IsList D vs.toArray := ⟨_, C.get (.tail _ hm), hob.1, _, hob.2⟩
  by_cases hlt : i < vs.length
  · refine wpAny_pyNext_list_item hit hl (x := vs[i]) (by simp [hlt]) fun h' hit' hs' => ?_
    obtain ⟨ob', ho', hc', hd'⟩ := hit'
    have C' : Cx K g L o { s with heap := h', toks := s.toks } m ((s₁.heap.objs.size, ob') :: led) := C.but .head hs' ho'
    refine ht _ _ _ _ _ ⟨ob', ho', hc', hd'⟩ ?_
    refine wpAny_mono (turn i _ ob' (fun f s₃ => match f with
        | .next | .cont => ∃ m' led', Cx K g L o s₃ m' ((s₁.heap.objs.size, ob') :: led') ∧ (D, obD) ∈ led' ∧ J (i + 1) m' led'
        | .brk => wpAny (model prog w) A (execs rest env) Q (fun _ _ => False) s₃
        | .ret v => Q (.ret v) s₃) (fun f m' led' s₃ hf h1 h2 h3 => by rcases hf with rfl | rfl <;> exact ⟨m', led', h1, h2, h3⟩) (fun _ h => h) (fun _ _ h => h) vs[i] m led _ (by simp [hlt]) hJ hm C') (fun _ s₂ h₂ => wpAny_mono h₂ (fun f s₃ h₃ => ?_) fun _ _ e => e) fun _ _ e => e
    cases f with
    | next => obtain ⟨m', led', C'', hm', hJ'⟩ := h₃; exact ⟨vs.length + 1 - (i + 1), by omega, i + 1, m', led', ob', rfl, hlt, hc', hd', C'', hm', hJ'⟩
    | cont => obtain ⟨m', led', C'', hm', hJ'⟩ := h₃; exact ⟨vs.length + 1 - (i + 1), by omega, i + 1, m', led', ob', rfl, hlt, hc', hd', C'', hm', hJ'⟩
    | brk => exact h₃
    | ret v => exact h₃
  · have hin : i = vs.length := by omega
    subst hin
    refine wpAny_pyNext_list_end hh hit hl (by simp) fun h' he' => ?_
    exact done m led _ hJ (C.lose (tk := s.toks) he')
end
end
section
variable {prog : Program} {w : World} {A : Around} {g : Heap} {L : Addr} {o : OsState} {s : Shared} {m : Str → Option Value} {news : List (Addr × Obj)} {R : Result → Shared → Prop}
structure SV where
  d : Int
  td : Tok
  x : Int
  tx : Tok
  n : Nat
abbrev SV.ob (S : SV) : Obj := lstO [.int S.d S.td, .int S.x S.tx] S.n
structure SV.Ok (S : SV) : Prop where
  d0 : 0 ≤ S.d
  x0 : 0 ≤ S.x
  x1 : S.x < 2147483647
variable {src : Addr} {S : SV} {post : List (Addr × Obj)} {top : Int} {tt : Tok}
theorem take_law (pre : List (Addr × Obj)) (C : Cx (KK w) g L o s m (pre ++ (src, S.ob) :: post)) (hA : Room A 1) (hS : S.Ok) (h0 : 0 < top) (h1 : top < 1000)
    (k : ∀ x t (S' : SV) s', 0 ≤ x → x < top → S'.Ok → Cx (KK w) g L o s' m (pre ++ (src, S'.ob) :: post) → R (.ok (.ret (.int x t))) s') :
    codeAny (model prog w) A (.call (.ref 293) ⟨[.ref src, .int top tt], []⟩) R s := by
  refine call_fn [("source", .ref src), ("top", .int top tt)] [("top", .int top tt), ("source", .ref src)] C hA.dep (by rfl) (by rfl) (BindsTo.of_eq rfl) (by rfl) (by rfl) ?_
  clear C
  intro g' L' s' C back
  obtain ⟨d, td, x, tx, n⟩ := S
  obtain ⟨d0, x0, x1⟩ := hS
  dsimp only at d0 x0 x1
  have htop : top < 1000000000000 := by omega
  wtm_at "g"
  refine ⟨fun hb => ?_, fun hb => ?_⟩
  · wtm_at "g"
    exact k _ _ ⟨_, _, _, _, _⟩ _ (Int.emod_nonneg _ (by omega)) (Int.emod_lt_of_pos _ h0) ⟨Int.ediv_nonneg d0 (by omega), x0, x1⟩ (back _ _ _ C)
  · wtm_at "g"
    have q1 := Int.emod_nonneg (x * 39373 + 7) (b := 2147483647) (by decide)
    have q2 := Int.emod_lt_of_pos (x * 39373 + 7) (b := 2147483647) (by decide)
    generalize (x * 39373 + 7) % 2147483647 = y at *
    wtm_at "g"
    exact k _ _ ⟨_, _, _, _, _⟩ _ (Int.emod_nonneg _ (by omega)) (Int.emod_lt_of_pos _ h0) ⟨d0, q1, q2⟩ (back _ _ _ C)
theorem ints_at : ∀ {vs : List Value} {ns : List Int}, IntsAre vs ns → ∀ {i : Nat} {v : Value}, vs[i]? = some v → ∃ y t, v = .int y t ∧ y ∈ ns
  | _, _, .nil, i, v, h => by simp at h
  | _, _, .cons n t r, 0, v, h => by simp at h; exact ⟨n, t, h.symm, .head _⟩
  | _, _, .cons n t r, i + 1, v, h => by
    simp at h
    obtain ⟨y, t, e, h⟩ := ints_at r h
    exact ⟨y, t, e, .tail _ h⟩
open Builtin.Int (intBits) in
theorem pool_law {sc : Addr} {vs : List Value} {ns : List Int} {n : Nat} {obD : Obj} (hob : obD.cls = .type "list" ∧ obD.data = .seq vs.toArray n) (C : Cx (KK w) g L o s m news) (hA : Room A 1) (hm : (sc, obD) ∈ news) (hi : IntsAre vs ns) (hl : vs.length ≤ 63) (hz : ∀ x ∈ ns, intBits x ≤ 1048576)
    (k : ∀ src (S : SV) s', S.Ok → Cx (KK w) g L o s' m ((src, S.ob) :: news) → R (.ok (.ret (.ref src))) s') :
    codeAny (model prog w) A (.call (.ref 286) ⟨[.ref sc], []⟩) R s := by
  refine call_fn [("script", .ref sc)] [("script", .ref sc)] C hA.dep (by rfl) (by rfl) (BindsTo.of_eq rfl) (by rfl) (by rfl) ?_
  clear C
  intro g' L' s' C back
  wtm_at "g"
  obtain ⟨B, hB⟩ : ∃ B : Nat, B = 1048579 := ⟨_, rfl⟩
  have C0 := C.drop1
  refine sForLo hob C0 hm (J := fun i m led => Any5 fun d td x tx junk => All6 (led = news) (m = lj [("digits", .int d td), ("mixed", .int x tx), ("script", .ref sc)] junk) (0 ≤ d) (intBits d ≤ i * B) (0 ≤ x) (x < 2147483647)) hA.hh ?_ ?_ ?_
  · intro QI hQI
    wtm_at "g"
    exact hQI _ _ _ (C.drop1.norm [("digits", _), ("mixed", _), ("script", _)] (by wtm_at "ag")) hm ⟨0, _, 31, _, _, rfl, rfl, by decide, by rw [Nat.zero_mul]; decide, by decide, by decide⟩
  · clear C C0
    rintro i I ob QB hN _ _ v m led s hv ⟨d, td, x, tx, junk, rfl, rfl, d0, db, x0, x1⟩ _ C
    have him : i < vs.length := by
      rcases Nat.lt_or_ge i vs.length with h | h
      · exact h
      · rw [List.getElem?_eq_none h] at hv; cases hv
    obtain ⟨y, ty, rfl, hy⟩ := ints_at hi hv
    have hyb := hz y hy
    have hy2 : intBits (-1 - y) ≤ 1048577 := by have := intBits_sub_le (m := 64) (n := 1048576) (x := -1) (intBits_le_64 (by omega) (by omega)) hyb; omega
    have i2 : (i : Nat) * B ≤ 65011898 := Nat.le_trans (Nat.mul_le_mul (show i ≤ 62 by omega) (Nat.le_of_eq hB)) (by decide)
    have big : ∀ q : Nat, q ≤ 65011898 → q + 1048577 ≤ 134217728 := fun q h => by omega
    have mk2 : IntMulOk d (-1 - y) := IntMulOk.of_le db hy2 (big _ i2)
    have mk1 : IntMulOk d y := IntMulOk.of_le db (Nat.le_trans hyb (by omega)) (big _ i2)
    have key : ∀ z, 0 ≤ z → intBits z ≤ 1048577 → 0 ≤ d * z + z ∧ intBits (d * z + z) ≤ (i + 1) * B := fun z h1 h2 => by
      refine ⟨Int.add_nonneg (Int.mul_nonneg d0 h1) h1, ?_⟩
      rw [Nat.succ_mul]
      refine Nat.le_trans (intBits_add_le (intBits_mul_le db h2) h2) ?_
      rw [Nat.max_eq_left (Nat.le_add_left _ _), Nat.add_assoc]
      exact Nat.add_le_add_left (by rw [hB]; decide) _
    have kx : ∀ z, 0 ≤ (x * 48271 + z % 2147483629 + 7919) % 2147483647 ∧ (x * 48271 + z % 2147483629 + 7919) % 2147483647 < 2147483647 := fun z => ⟨Int.emod_nonneg _ (by decide), Int.emod_lt_of_pos _ (by decide)⟩
    have db' : intBits d ≤ (i + 1) * B := by rw [Nat.succ_mul]; omega
    wtm_at "g"
    refine ⟨fun hb => ?_, fun hb => ?_⟩
    · have hb := of_decide_eq_true hb
      wtm_at "g"
      refine ⟨fun hb2 => ?_, fun hb2 => ?_⟩
      · wtm_at "g"
        obtain ⟨q1, q2⟩ := key y hb (by omega)
        exact hN _ _ _ _ (.inl rfl) (C.norm [("digits", _), ("mixed", _), ("script", _)] (by wtm_at "ag")) hm ⟨_, _, _, _, _, rfl, rfl, q1, q2, (kx y).1, (kx y).2⟩
      · wtm_at "g"
        exact hN _ _ _ _ (.inl rfl) (C.norm [("digits", _), ("mixed", _), ("script", _)] (by wtm_at "ag")) hm ⟨_, _, _, _, _, rfl, rfl, d0, db', (kx y).1, (kx y).2⟩
    · have hb := of_decide_eq_false hb
      wtm_at "g"
      refine ⟨fun hb2 => ?_, fun hb2 => ?_⟩
      · wtm_at "g"
        obtain ⟨q1, q2⟩ := key (-1 - y) (by omega) hy2
        exact hN _ _ _ _ (.inl rfl) (C.norm [("digits", _), ("mixed", _), ("script", _)] (by wtm_at "ag")) hm ⟨_, _, _, _, _, rfl, rfl, q1, q2, (kx _).1, (kx _).2⟩
      · wtm_at "g"
        exact hN _ _ _ _ (.inl rfl) (C.norm [("digits", _), ("mixed", _), ("script", _)] (by wtm_at "ag")) hm ⟨_, _, _, _, _, rfl, rfl, d0, db', (kx _).1, (kx _).2⟩
  · clear C C0
    rintro m led s ⟨d, td, x, tx, junk, rfl, rfl, d0, db, x0, x1⟩ C
    wtm_at "g"
    exact k _ ⟨_, _, _, _, _⟩ _ ⟨d0, x0, x1⟩ (back _ _ _ C)

end
section
variable {prog : Program} {w : World} {A : Around} {g : Heap} {L : Addr} {o : OsState} {s : Shared} {m : Str → Option Value} {news : List (Addr × Obj)} {R : Result → Shared → Prop}
variable {src wd : Addr} {S : SV} {tl : List (Addr × Obj)} {wo : Obj} {strm : List UInt8} {n : Int} {ts tn : Tok} {v2 v3 v4 v5 v6 : Value}
theorem segment_law (C : Cx (KK w) g L o s m ((src, S.ob) :: tl)) (hA : Room A 4) (hS : S.Ok) (hm : (wd, wo) ∈ tl) (HW : wo.IsDictOf (PySem.strKind prog w) (WL (.bytes strm.toArray ts) (.int n tn) v2 v3 v4 v5 v6)) (hN : strm.length ≤ 40) (h0 : 0 ≤ n) (h1 : n ≤ strm.length)
    (k : ∀ (p : Int) tp (oct : List UInt8) to hf tu (S' : SV) s', S'.Ok → 0 ≤ p → p ≤ strm.length → n - 4 ≤ p → p ≤ n + 11 → oct.length ≤ 8 → p + oct.length ≤ strm.length → (hf = true → p + oct.length = strm.length) →
      Cx (KK w) g L o s' m ((tu, tupO [.int p tp, .bytes oct.toArray to, .bool hf]) :: (src, S'.ob) :: tl) → R (.ok (.ret (.ref tu))) s') :
    codeAny (model prog w) A (.call (.ref 300) ⟨[.ref src, .ref wd], []⟩) R s := by
  refine call_fn [("source", .ref src), ("world", .ref wd)] [("world", .ref wd), ("source", .ref src)] C hA.dep (by rfl) (by rfl) (BindsTo.of_eq rfl) (by rfl) (by rfl) ?_
  clear C
  intro g' L' s' C back
  have hh : A.handled = none := hA.hh
  wtm_at "g"
  refine take_law [] C ((hA.deeper _).le (by decide)) hS (by decide) (by decide) ?_
  clear C hS; intro way tw S s y0 y1 hS C
  wtm_at "g"
  refine take_law [] C ((hA.deeper _).le (by decide)) hS (by decide) (by decide) ?_
  clear C hS; intro sz tz S s z0 z1 hS C
  wtm_at "g"
  refine ifJ (fun v s => Any3 fun p tp S => All6 (v = .int p tp) (0 ≤ p) (n - 4 ≤ p) (p ≤ n + 11) (SV.Ok S) (Cx (KK w) g' L' o s (lk [("way", .int way tw), ("size", .int sz tz), ("stream", .bytes strm.toArray ts), ("base", .int n tn), ("world", .ref wd), ("source", .ref src)]) ((src, SV.ob S) :: tl))) ?_ ?_
  · intro QB hQB
    refine ⟨fun hb => ?_, fun hb => ?_⟩
    · wtm_at "g"
      exact hQB _ _ ⟨n, tn, S, rfl, h0, by omega, by omega, hS, C⟩
    · wtm_at "g"
      refine take_law [] C ((hA.deeper _).le (by decide)) hS (by decide) (by decide) ?_
      clear C hS; intro x tx S s x0 x1 hS C
      wtm_at "g"
      exact hQB _ _ ⟨_, _, S, rfl, by omega, by omega, by omega, hS, C⟩
  clear C hS S
  rintro v s ⟨p, tp, S, rfl, p0, p1, p2, hS, C⟩
  wtm_at "gi"
  obtain ⟨p', hp'⟩ : ∃ p', p' = min p strm.length := ⟨_, rfl⟩
  obtain ⟨oct, ho⟩ : ∃ oct, oct = cut strm (some p') (some (p' + sz)) := ⟨_, rfl⟩
  have hol : oct.length ≤ 8 ∧ p' + oct.length ≤ strm.length := by
    rw [ho]
    unfold cut
    simp only [List.length_take, List.length_drop, Option.getD_some]
    omega
  rw [← hp', ← ho] at C
  have p3 : 0 ≤ p' ∧ p' ≤ strm.length ∧ n - 4 ≤ p' ∧ p' ≤ n + 11 := by omega
  clear ho p0 p1 p2
  refine sIfJ (fun s => Any5 fun junk oct to tp S => All4 (List.length oct ≤ 8) (p' + List.length oct ≤ strm.length) (SV.Ok S) (Cx (KK w) g' L' o s (lj [("octets", .bytes oct.toArray to), ("place", .int p' tp), ("stream", .bytes strm.toArray ts), ("world", .ref wd), ("source", .ref src)] junk) ((src, SV.ob S) :: tl))) ?_ ?_
  · intro QB hQB
    have same : ∀ {s t1 t2}, Cx (KK w) g' L' o s (lk [("octets", .bytes oct.toArray t1), ("place", .int p' t2), ("place", .int p tp), ("way", .int way tw), ("size", .int sz tz), ("stream", .bytes strm.toArray ts), ("base", .int n tn), ("world", .ref wd), ("source", .ref src)]) ((src, SV.ob S) :: tl) →
       QB .next s := fun C =>
       hQB _ ⟨_, oct, _, _, S, hol.1, hol.2, hS, C.norm [("octets", _), ("place", _), ("stream", _), ("world", _), ("source", _)] (by wtm_at "ag")⟩
    wtm_at "g"
    refine ⟨fun hb => ?_, fun hb => ?_⟩
    · wtm_at "g"
      refine ⟨fun hb2 => ?_, fun hb2 => ?_⟩
      · wtm_at "g"
        refine take_law [] C ((hA.deeper _).le (by decide)) hS (by decide) (by decide) ?_
        clear C hS same; intro x tx S s x0 x1 hS C
        wtm_at "g"
        refine xBytesL1 C (by omega) (by omega) (hA.deeper _).hh ?_
        clear C; intro t9 s C
        wtm_at "g"
        refine hQB _ ⟨_, _, _, _, S, ?_, ?_, hS, C.norm [("octets", _), ("place", _), ("stream", _), ("world", _), ("source", _)] (by wtm_at "ag")⟩
        · simpa using hol.1
        · simpa using hol.2
      · wtm_at "g"
        exact same C
    · wtm_at "g"
      exact same C
  clear C hS S hol oct
  rintro s ⟨junk, oct, to, tp, S, ho1, ho2, hS, C⟩
  wtm_at "g"
  refine andJ (fun v s => Any2 fun hf S => All4 (v = .bool hf) (hf = true → p' + List.length oct = strm.length) (SV.Ok S) (Cx (KK w) g' L' o s (lj [("octets", .bytes oct.toArray to), ("place", .int p' tp), ("stream", .bytes strm.toArray ts), ("world", .ref wd), ("source", .ref src)] junk) ((src, SV.ob S) :: tl))) ?_ ?_
  · intro QB hQB
    refine ⟨fun hb => ?_, fun hb => ?_⟩
    · have hb := eq_of_beq hb
      wtm_at "g"
      refine take_law [] C ((hA.deeper _).le (by decide)) hS (by decide) (by decide) ?_
      clear C hS; intro x tx S s x0 x1 hS C
      wtm_at "g"
      exact hQB _ _ ⟨_, S, rfl, fun _ => hb, hS, C⟩
    · exact hQB _ _ ⟨false, S, by rw [hb], (fun e => nomatch e), hS, C⟩
  clear C hS S
  rintro v s ⟨hf, S, rfl, hf1, hS, C⟩
  wtm_at "g"
  exact k p' _ oct _ hf _ S _ hS p3.1 p3.2.1 p3.2.2.1 p3.2.2.2 ho1 ho2 hf1 (back _ _ _ C)

end
section
variable {prog : Program} {w : World} {A : Around} {g : Heap} {L : Addr} {o : OsState} {s : Shared} {m : Str → Option Value} {news : List (Addr × Obj)} {R : Result → Shared → Prop}
variable {x0 : Addr × Obj} {wd kd : Addr} {tl : List (Addr × Obj)} {wo ko : Obj} {n e p rd : Int} {ts tn te tp trd tf to : Tok} {fin : Option Int} {ov hf : Bool} {v0 : Value} {kvs : List (Int × Value)} {kk : Int → Option UInt8} {oct strm : List UInt8}
/-- what the twin keeps -/
def keptT (e p : Int) (oct : List UInt8) : List UInt8 := cut oct none (some (max 0 (e - p)))
def finT (e p : Int) (oct : List UInt8) (hf : Bool) (fin : Option Int) : Option Int := if hf = true ∧ (keptT e p oct).length = oct.length ∧ fin = none then some (p + oct.length) else fin
def kkT (n e p : Int) (oct : List UInt8) (kk : Int → Option UInt8) (i : Nat) (x : Int) : Option UInt8 := if n ≤ x ∧ p ≤ x ∧ x < p + i ∧ kk x = none then (keptT e p oct)[(x - p).toNat]? else kk x
theorem kkT_zero {x : Int} : kkT n e p oct kk 0 x = kk x := by unfold kkT; rw [if_neg]; omega
theorem kkT_succ {i : Nat} (x : Int) : kkT n e p oct kk (i + 1) x = if x = p + i ∧ n ≤ x ∧ kk x = none then (keptT e p oct)[i]? else kkT n e p oct kk i x := by
  unfold kkT
  by_cases h : x = p + i ∧ n ≤ x ∧ kk x = none
  · rw [if_pos h, if_pos (by refine ⟨h.2.1, by omega, by omega, h.2.2⟩)]
    congr 1; omega
  · rw [if_neg h]
    by_cases h2 : n ≤ x ∧ p ≤ x ∧ x < p + i ∧ kk x = none
    · rw [if_pos h2, if_pos ⟨h2.1, h2.2.1, by omega, h2.2.2.2⟩]
    · rw [if_neg h2, if_neg]
      rintro ⟨a, b, c, d⟩
      have : ¬ x < p + i := fun h => h2 ⟨a, b, h, d⟩
      exact h ⟨by omega, a, d⟩
theorem kkT_at {i : Nat} : kkT n e p oct kk i (p + i) = kk (p + i) := by unfold kkT; rw [if_neg]; omega
theorem kkT_yes {i : Nat} {c : UInt8} (h1 : n ≤ p + i) (h2 : kk (p + i) = none) (h3 : (keptT e p oct)[i]? = some c) : kkT n e p oct kk (i + 1) = fun x => if x = p + i then some c else kkT n e p oct kk i x := by
  funext x
  rw [kkT_succ]
  by_cases e : x = p + i
  · subst e; rw [if_pos ⟨rfl, h1, h2⟩, if_pos rfl, h3]
  · rw [if_neg (fun h => e h.1), if_neg e]
theorem kkT_no {i : Nat} (h : ¬ (n ≤ p + i ∧ kk (p + i) = none)) : kkT n e p oct kk (i + 1) = kkT n e p oct kk i := by
  funext x
  rw [kkT_succ, if_neg]
  rintro ⟨rfl, h1, h2⟩
  exact h ⟨h1, h2⟩
theorem kkT_far {x : Int} {B : Int} (hB : ∀ x, B ≤ x → kk x = none) (hB2 : p + oct.length ≤ B) (hx : B ≤ x) : kkT n e p oct kk (keptT e p oct).length x = none := by
  have hk8 : (keptT e p oct).length ≤ oct.length := cut_length _ _ _
  unfold kkT; rw [if_neg (by omega)]; exact hB x hx
theorem twin_law (C : Cx (KK w) g L o s m (x0 :: (wd, wo) :: (kd, ko) :: tl)) (hA : Room A 2) (HW : wo.IsDictOf (PySem.strKind prog w) (WL v0 (.int n tn) (.ref kd) (.int rd trd) (.int e te) (optV fin tf) (.bool ov)))
    (HK : ko.IsDictOf (PySem.intKind prog w) kvs) (lo : (kd == sysModules) = false) (hI : KIn kvs kk) (hkl : kvs.length ≤ 900000) (ho : oct.length ≤ 8) (B : Int) (hB : ∀ x, B ≤ x → kk x = none) (hB2 : p + oct.length ≤ B) (hn : n ≤ B)
    (k : ∀ n' tn' ko' kvs' wo' tf' D tr c s', n ≤ n' → (∀ x, n ≤ x → x < n' → (kkT n e p oct kk (keptT e p oct).length x).isSome = true) → kkT n e p oct kk (keptT e p oct).length n' = none →
      wo'.IsDictOf (PySem.strKind prog w) (WL v0 (.int n' tn') (.ref kd) (.int rd trd) (.int e te) (optV (finT e p oct hf fin) tf') (.bool (ov || decide (finT e p oct hf fin = some n')))) → ko'.IsDictOf (PySem.intKind prog w) kvs' → KIn kvs' (kkT n e p oct kk (keptT e p oct).length) → kvs'.length ≤ kvs.length + 8 →
      Cx (KK w) g L o s' m ((D, lstO [.int (n' - n) tr, .bool (decide (p ≤ n))] c) :: x0 :: (wd, wo') :: (kd, ko') :: tl) → R (.ok (.ret (.ref D))) s') :
    codeAny (model prog w) A (.call (.ref 307) ⟨[.ref wd, .int p tp, .bytes oct.toArray to, .bool hf], []⟩) R s := by
  refine call_fn [("world", .ref wd), ("place", .int p tp), ("octets", .bytes oct.toArray to), ("has_fin", .bool hf)] [("has_fin", .bool hf), ("octets", .bytes oct.toArray to), ("place", .int p tp), ("world", .ref wd)] C hA.dep (by rfl) (by rfl) (BindsTo.of_eq rfl) (by rfl) (by rfl) ?_
  clear C
  intro g' L' s' C back
  wtm_at "gi"
  have hk8 : (keptT e p oct).length ≤ oct.length := cut_length _ _ _
  have hk9 : (cut oct none (some (max 0 (e - p)))).length ≤ oct.length := cut_length _ _ _
  refine sIfJ (fun s => Any4 fun junk wo tf t => All2 (wo.IsDictOf (PySem.strKind prog w) (WL v0 (.int n tn) (.ref kd) (.int rd trd) (.int e te) (optV (finT e p oct hf fin) tf) (.bool ov))) (Cx (KK w) g' L' o s (lj [("kept", .bytes (keptT e p oct).toArray t), ("begins", .bool (decide (p ≤ n))), ("place", .int p tp), ("world", .ref wd)] junk) (x0 :: (wd, wo) :: (kd, ko) :: tl))) ?_ ?_
  · intro QB hQB
    have same : ∀ {s t}, finT e p oct hf fin = fin → Cx (KK w) g' L' o s (lk [("kept", .bytes (cut oct none (some (max 0 (e - p)))).toArray t), ("begins", .bool (decide (p ≤ n))), ("has_fin", .bool hf), ("octets", .bytes oct.toArray to), ("place", .int p tp), ("world", .ref wd)]) (x0 :: (wd, wo) :: (kd, ko) :: tl) → QB .next s :=
      fun e1 C => hQB _ ⟨_, wo, tf, _, by rw [e1]; exact HW, C.norm [("kept", _), ("begins", _), ("place", _), ("world", _)] (by wtm_at "ag")⟩
    wtm_at "g"
    refine ⟨fun hb => ?_, fun hb => ?_⟩
    · wtm_at "g"
      refine ⟨fun hb2 => ?_, fun hb2 => ?_⟩
      · wtm_at "g"
        rw [show (optV fin tf == Value.none) = fin.isNone by cases fin <;> rfl]
        refine ⟨fun hb3 => ?_, fun hb3 => ?_⟩
        · have e1 : finT e p oct hf fin = some (p + oct.length) := if_pos ⟨hb, by have := eq_of_beq hb2; show List.length (cut oct none (some (max 0 (e - p)))) = _; omega, by simpa using hb3⟩
          wtm_at "g"
          refine xDSet [_] C HW (PySem.strKind_is _ _ _ _) (by show 7 ≤ 1000000; decide) ws5 ?_
          clear C; intro wo s C HW
          wtm_at "g"
          exact hQB _ ⟨_, wo, _, _, by rw [e1]; exact HW, C.norm [("kept", _), ("begins", _), ("place", _), ("world", _)] (by wtm_at "ag")⟩
        · wtm_at "g"
          exact same (if_neg fun h => by rw [h.2.2] at hb3; cases hb3) C
      · wtm_at "g"
        exact same (if_neg fun h => by have h := h.2.1; unfold keptT at h; rw [h] at hb2; simp at hb2) C
    · wtm_at "g"
      exact same (if_neg fun h => by rw [h.1] at hb; cases hb) C
  clear C HW
  rintro s ⟨junk, wo, tf, t, HW, C⟩
  have C0 := C
  refine sForR C0 (a := 0) (N := (keptT e p oct).length) (J := fun i m led => Any3 fun ko kvs' junk => All5 (m = lj [("kept", .bytes (keptT e p oct).toArray t), ("begins", .bool (decide (p ≤ n))), ("place", .int p tp), ("world", .ref wd)] junk) (led = x0 :: (wd, wo) :: (kd, ko) :: tl) (ko.IsDictOf (PySem.intKind prog w) kvs') (KIn kvs' (kkT n e p oct kk i)) (kvs'.length ≤ kvs.length + i)) hA.hh (by omega) (by decide) (by decide) ?_ ?_ ?_
  · intro QI hQI
    wtm_at "g"
    rw [← Int.zero_add ((keptT e p oct).length : Int)] at C
    exact hQI _ _ _ _ _ _ _ C ⟨ko, kvs, _, rfl, rfl, HK, by rw [show kkT n e p oct kk 0 = kk from funext fun x => kkT_zero]; exact hI, by omega⟩
  · clear C C0 HK hI
    rintro i I ob QB hN _ _ t1 m led s hi ⟨ko, kvs', junk, rfl, rfl, HK, hI, hl⟩ C
    obtain ⟨c, hc⟩ : ∃ c, (keptT e p oct)[i]? = some c := ⟨_, List.getElem?_eq_getElem hi⟩
    have e0 : p + (0 + (i : Int)) = p + i := by omega
    have hk : (valueAt kvs' (p + (0 + (i : Int)))).isSome = (kk (p + i)).isSome := by rw [e0, hI.some, kkT_at]
    wtm_at "g"
    refine ⟨fun hb => ?_, fun hb => ?_⟩
    · have hb := of_decide_eq_true hb
      wtm_at "g"
      refine xDNotIn C (by wtm_at "mm") HK lo (PySem.intKind_is _ _ _ _) hk ?_
      clear C; intro s C
      wtm_at "g"
      refine ⟨fun hb2 => ?_, fun hb2 => ?_⟩
      · have hb2 : kk (p + i) = none := by cases h : kk (p + i) <;> simp_all
        wtm_at "g"
        refine xItemBy (c := c) C (by omega) (by omega) (by rw [← hc]; congr 1; omega) ?_
        clear C; intro t2 s C
        wtm_at "g"
        refine xDSet [_, _, _] C HK (PySem.intKind_is _ _ _ _) (by omega) rfl ?_
        clear C HK; intro ko s C HK
        wtm_at "g"
        have q := hI.set (k := p + (0 + (i : Int))) (c := c) (t := t2)
        have l2 := @stored_length kvs' (p + (0 + (i : Int))) (.int c.toNat t2)
        rw [e0] at q
        rw [← kkT_yes (by omega) hb2 hc] at q
        rw [e0] at HK l2
        exact hN _ _ _ _ (.inl rfl) (C.norm [("kept", _), ("begins", _), ("place", _), ("world", _)] (by wtm_at "ag")) ⟨ko, _, _, rfl, rfl, HK, q, by omega⟩
      · have hb2 : kk (p + i) ≠ none := by cases h : kk (p + i) <;> simp_all
        wtm_at "g"
        exact hN _ _ _ _ (.inl rfl) (C.norm [("kept", _), ("begins", _), ("place", _), ("world", _)] (by wtm_at "ag")) ⟨ko, _, _, rfl, rfl, HK, by rw [kkT_no fun h => hb2 h.2]; exact hI, by omega⟩
    · have hb := of_decide_eq_false hb
      wtm_at "g"
      exact hN _ _ _ _ (.inl rfl) (C.norm [("kept", _), ("begins", _), ("place", _), ("world", _)] (by wtm_at "ag")) ⟨ko, _, _, rfl, rfl, HK, by rw [kkT_no fun h => hb (by omega)]; exact hI, by omega⟩
  clear C C0 HK hI
  rintro m led s ⟨ko, kvs', junk, rfl, rfl, HK, hI, hl⟩ C
  wtm_at "g"
  generalize hkkF : kkT n e p oct kk (keptT e p oct).length = kkF at *
  have far : ∀ x, B ≤ x → kkF x = none := fun x hx => by rw [← hkkF]; exact kkT_far hB hB2 hx
  refine sWhile (I := fun M s => Any5 fun n1 tn1 tf1 wo junk => All6 (M = (B - n1).toNat) (n ≤ n1) (n1 ≤ B) (∀ x, n ≤ x → x < n1 → (kkF x).isSome = true) (Obj.IsDictOf (PySem.strKind prog w) wo (WL v0 (.int n1 tn1) (.ref kd) (.int rd trd) (.int e te) (optV (finT e p oct hf fin) tf) (.bool ov))) (Cx (KK w) g' L' o s (lj [("fresh", .int (n1 - n) tf1), ("begins", .bool (decide (p ≤ n))), ("world", .ref wd)] junk) (x0 :: (wd, wo) :: (kd, ko) :: tl))) (B - n).toNat ⟨n, _, t, wo, _, rfl, Int.le_refl _, hn, (fun x h1 h2 => by omega), HW, by rw [Int.sub_self]; exact C.norm [("fresh", _), ("begins", _), ("world", _)] (by wtm_at "ag")⟩ ?_
  clear C HW
  rintro M QW hW _ _ s ⟨n1, tn1, tf1, wo, junk, rfl, n0, nB, hs, HW, C⟩
  wtm_at "g"
  refine xDIn C (by wtm_at "mm") HK lo (PySem.intKind_is _ _ _ _) (hI.some n1) ?_
  clear C; intro s C
  wtm_at "g"
  refine ⟨fun hb => ?_, fun hb => ?_⟩
  · have n2 : n1 < B := by
      rcases Int.lt_or_le n1 B with h | h
      · exact h
      · rw [far n1 h] at hb; cases hb
    wtm_at "g"
    refine xDSet [_] C HW (PySem.strKind_is _ _ _ _) (by show 7 ≤ 1000000; decide) ws1 ?_
    clear C HW; intro wo s C HW
    wtm_at "g"
    refine hW _ _ _ (.inl rfl) ?_ ⟨n1 + 1, _, _, wo, _, rfl, by omega, by omega, ?_, HW, by rw [show n1 + 1 - n = n1 - n + 1 by omega]; exact C.norm [("fresh", _), ("begins", _), ("world", _)] (by wtm_at "ag")⟩
    · omega
    · intro x h1 h2
      by_cases h3 : x = n1
      · rw [h3]; exact hb
      · exact hs x h1 (by omega)
  · have hnone : kkF n1 = none := by cases h : kkF n1 <;> simp_all
    wtm_at "gi"
    refine sIfJ (fun s => Any2 fun junk wo => All2 (Obj.IsDictOf (PySem.strKind prog w) wo (WL v0 (.int n1 tn1) (.ref kd) (.int rd trd) (.int e te) (optV (finT e p oct hf fin) tf) (.bool (ov || decide (finT e p oct hf fin = some n1))))) (Cx (KK w) g' L' o s (lj [("fresh", .int (n1 - n) tf1), ("begins", .bool (decide (p ≤ n))), ("world", .ref wd)] junk) (x0 :: (wd, wo) :: (kd, ko) :: tl))) ?_ ?_
    · intro QB hQB
      wtm_at "g"
      refine xEqOpt ?_
      wtm_at "g"
      refine ⟨fun hb2 => ?_, fun hb2 => ?_⟩
      · wtm_at "g"
        refine xDSet [_] C HW (PySem.strKind_is _ _ _ _) (by show 7 ≤ 1000000; decide) ws6 ?_
        clear C HW; intro wo s C HW
        wtm_at "g"
        exact hQB _ ⟨_, wo, by rw [hb2, Bool.or_true]; exact HW, C⟩
      · wtm_at "g"
        exact hQB _ ⟨_, wo, by rw [hb2, Bool.or_false]; exact HW, C⟩
    clear C HW
    rintro s ⟨junk, wo, HW, C⟩
    wtm_at "g"
    exact k n1 tn1 ko kvs' wo tf _ _ _ _ n0 hs hnone HW HK hI (by omega) (back _ _ _ C)

end
section
variable {prog : Program} {w : World} {A : Around} {g : Heap} {L : Addr} {o : OsState} {s : Shared} {m : Str → Option Value} {news : List (Addr × Obj)} {R : Result → Shared → Prop}
variable {r : RH} {st : RS} {pl : Addr} {vs : List Value} {nl : Nat} {ps : List (Int × List UInt8)} {rd : List UInt8} {own tl : List (Addr × Obj)} {x0 : Addr × Obj} {wd kd : Addr} {wo : Obj} {n e rdp : Int} {tn te trd tr tm : Tok} {ov : Bool} {v0 v5 : Value}
def edgeT (rdp room mss e : Int) (ov : Bool) : Int := if max 1 (min mss (room / 2)) ≤ rdp + room - e ∧ ov = false then rdp + room else e
theorem window_law (C : Cx (KK w) g L o s m (own ++ x0 :: (wd, wo) :: tl)) (hA : Room A 12) (I : RW w own r st pl vs nl ps rd) (HW : wo.IsDictOf (PySem.strKind prog w) (WL v0 (.int n tn) (.ref kd) (.int rdp trd) (.int e te) v5 (.bool ov)))
    (hr : 256 ≤ r.a.ring) (h1 : 0 ≤ rdp) (h2 : rdp ≤ n) (h3 : n ≤ e) (h4 : e ≤ rdp + r.room) (h5 : n ≤ 40) (h6 : r.room ≤ 30) (h7 : 6 ≤ r.room) (hq : st.q = n + (if ov then 1 else 0)) (he : st.e = e) (hl : (rd.length : Int) = n - rdp) (hf : st.hf = ov)
    (k : ∀ own' wo' tr tr' s', RW w own' r { st with e := edgeT rdp r.room r.mss e ov, te := tr' } pl vs nl ps rd → wo'.IsDictOf (PySem.strKind prog w) (WL v0 (.int n tn) (.ref kd) (.int rdp trd) (.int (edgeT rdp r.room r.mss e ov) tr) v5 (.bool ov)) →
      Cx (KK w) g L o s' m (own' ++ x0 :: (wd, wo') :: tl) → R (.ok (.ret (.bool true))) s') :
    codeAny (model prog w) A (.call (.ref 319) ⟨[.ref r.x, .ref wd, .int r.room tr, .int r.mss tm], []⟩) R s := by
  refine call_fn [("receiver", .ref r.x), ("world", .ref wd), ("room", .int r.room tr), ("mss", .int r.mss tm)] [("mss", .int r.mss tm), ("room", .int r.room tr), ("world", .ref wd), ("receiver", .ref r.x)] C hA.dep (by rfl) (by rfl) (BindsTo.of_eq rfl) (by rfl) (by rfl) ?_
  clear C
  intro g' L' s' C back
  obtain ⟨i1, i2, i3, i4, i5, i6, iP, hne⟩ := id I
  wtm_at "gi"
  refine sIfJ (fun s => Any3 fun junk wo te' => All2 (Obj.IsDictOf (PySem.strKind prog w) wo (WL v0 (.int n tn) (.ref kd) (.int rdp trd) (.int (edgeT rdp r.room r.mss e ov) te') v5 (.bool ov))) (Cx (KK w) g' L' o s (lj [("room", .int r.room tr), ("world", .ref wd), ("receiver", .ref r.x)] junk) (own ++ x0 :: (wd, wo) :: tl))) ?_ ?_
  · intro QB hQB
    wtm_at "g"
    refine ⟨fun hb => ?_, fun hb => ?_⟩
    · have hb := of_decide_eq_true hb
      wtm_at "g"
      refine ⟨fun hb2 => ?_, fun hb2 => ?_⟩
      · have e1 : edgeT rdp r.room r.mss e ov = rdp + r.room := if_pos ⟨hb, by simpa using hb2⟩
        wtm_at "g"
        refine xDSetO C HW (PySem.strKind_is _ _ _ _) (by show 7 ≤ 1000000; decide) ws4 ?_
        clear C HW; intro wo s C HW
        wtm_at "g"
        exact hQB _ ⟨_, wo, _, by rw [e1]; exact HW, C.norm [("room", _), ("world", _), ("receiver", _)] (by wtm_at "ag")⟩
      · have e1 : edgeT rdp r.room r.mss e ov = e := if_neg fun h => by rw [h.2] at hb2; cases hb2
        wtm_at "g"
        exact hQB _ ⟨_, wo, _, by rw [e1]; exact HW, C.norm [("room", _), ("world", _), ("receiver", _)] (by wtm_at "ag")⟩
    · have hb := of_decide_eq_false hb
      have e1 : edgeT rdp r.room r.mss e ov = e := if_neg fun h => hb h.1
      wtm_at "g"
      exact hQB _ ⟨_, wo, _, by rw [e1]; exact HW, C.norm [("room", _), ("world", _), ("receiver", _)] (by wtm_at "ag")⟩
  clear C HW
  rintro s ⟨junk, wo, te', HW, C⟩
  wtm_at "g"
  have hq2 : 0 ≤ (if ov = true then (1 : Int) else 0) ∧ (if ov = true then (1 : Int) else 0) ≤ 1 := by cases ov <;> decide
  have hmss : 1 ≤ max 1 (min r.mss (r.room / 2)) := by omega
  refine window_spec C ((hA.deeper _).le (by decide)) ⟨List.mem_append_left _ i1, List.mem_append_left _ i2⟩ (List.mem_append_left _ i6) (by omega) hr ?_ ?_ ?_
  · intro h
    have : ov = false := by rw [← hf]; exact h
    rw [this] at hq
    simp only [Bool.false_eq_true, if_false] at hq
    omega
  · rintro e9 (rfl | ⟨_, rfl⟩) <;> omega
  clear C
  intro e1 te1 t1 news1 s E1 U C
  have E2 : e1 = edgeT rdp r.room r.mss e ov := by
    rw [E1]
    unfold edgeT
    cases hov : ov with
    | true =>
      rw [hov] at hf
      rw [hf]
      simp [he]
    | false =>
      rw [hov] at hf hq
      rw [hf]
      simp only [Bool.false_eq_true, if_false] at hq
      have q1 : st.q + (r.room - (rd.length : Int)) = rdp + r.room := by omega
      rw [q1, he]
      by_cases hc : max 1 (min r.mss (r.room / 2)) ≤ rdp + r.room - e
      · rw [if_pos, if_pos ⟨hc, rfl⟩]
        simp only [Bool.not_false, Bool.true_and, Bool.and_eq_true, decide_eq_true_eq]
        exact ⟨by omega, hc⟩
      · rw [if_neg, if_neg fun h => hc h.1]
        simp only [Bool.not_false, Bool.true_and, Bool.and_eq_true, decide_eq_true_eq]
        exact fun h => hc h.2
  clear E1
  subst E2
  obtain ⟨own', rfl, V⟩ := U.own i2 (by have := C.nd; rw [U.map] at this; exact this)
  have I' := I.set V rfl
  clear I U i1 i2 i3 i4 i5 i6 iP
  obtain ⟨i1, i2, i3, i4, i5, i6, iP, hne⟩ := id I'
  have hE : -128 < edgeT rdp r.room r.mss e ov - st.q ∧ edgeT rdp r.room r.mss e ov - st.q < 128 := by
    unfold edgeT; split <;> omega
  generalize hEE : edgeT rdp r.room r.mss e ov = ee at *
  have hdue : max 0 (ee - n - if ov = true then 1 else 0) = max 0 (ee - st.q) := by rw [hq]; congr 1; omega
  rw [hdue] at C
  wtm_at "g"
  rw [beq_self_eq_true]
  refine ⟨fun _ => ?_, fun h => nomatch h⟩
  wtm_at "g"
  refine told_window_spec (st := { st with e := ee, te := te1 }) C ((hA.deeper _).le (by decide)) ⟨List.mem_append_left _ i1, List.mem_append_left _ i2⟩ hr hE ?_
  clear C; intro t2 s C
  wtm_at "g"
  rw [beq_self_eq_true]
  exact k own' wo te' te1 s I' HW (back _ _ _ C)

end
section
section
variable {prog : Program} {w : World} {M : Model} {A : Around} {E : Value → Shared → Prop} {K : Frag} {g : Heap} {L : Addr} {o : OsState} {s : Shared} {m : Str → Option Value} {news news' : List (Addr × Obj)}
variable {name : Str} {scope : Scope} {a c : Addr} {cd : Value} {cl : List (Str × Addr)} {ob : Obj}
theorem yLocal (C : Cx K g L o s m news) {x : Str} {pos : Pos} {v : Value} {Q : Value → Shared → Prop} (hv : m x = some v) (h : Q v s)
    (hk : scope.kind = .function := by with_unfolding_all exact rfl) (hl : (envX name scope L a cd cl).kindOf x = some .local := by with_unfolding_all exact rfl) (hd : (x == ("__debug__" : Str)) = false := by with_unfolding_all decide) :
    wpAny M A (eval (.Name x pos) (envX name scope L a cd cl)) Q E s := nameX_L C.fr hv h hk hl hd
theorem yCell (C : Cx K g L o s m news) {x : Str} {pos : Pos} {v : Value} {Q : Value → Shared → Prop} (hm : (c, ob) ∈ news) (hob : ob.data = .cell (some v)) (hc : cl.lookup x = some c) (h : Q v s)
    (hk : scope.kind = .function := by with_unfolding_all exact rfl) (hl : (envX name scope L a cd cl).kindOf x = some .cell := by with_unfolding_all exact rfl) (hd : (x == ("__debug__" : Str)) = false := by with_unfolding_all decide) :
    wpAny M A (eval (.Name x pos) (envX name scope L a cd cl)) Q E s := nameX_C C.nw hc hm hob h hk hl hd
theorem yGlob (C : Cx K g L o s m news) {x : Str} {pos : Pos} {v : Value} {Q : Value → Shared → Prop} (e : nsIn K mainGlobals x = some (some v)) (h : Q v s)
    (hk : scope.kind = .function := by with_unfolding_all exact rfl) (hx : (envX name scope L a cd cl).kindOf x = some .globalImplicit := by with_unfolding_all exact rfl) (hd : (x == ("__debug__" : Str)) = false := by with_unfolding_all decide) :
    wpAny M A (eval (.Name x pos) (envX name scope L a cd cl)) Q E s := by
  obtain ⟨_, _, _, _, T⟩ := C.st.t
  exact nameX_K C.fr C.st.k T e h hk hx hd
theorem yBi (C : Cx K g L o s m news) {x : Str} {pos : Pos} {v : Value} {Q : Value → Shared → Prop} (e : nsIn K mainGlobals x = some none) (hv : bootBuiltins x = some v) (h : Q v s) (hn : x ≠ "__name__" := by with_unfolding_all decide)
    (hk : scope.kind = .function := by with_unfolding_all exact rfl) (hx : (envX name scope L a cd cl).kindOf x = some .globalImplicit := by with_unfolding_all exact rfl) (hd : (x == ("__debug__" : Str)) = false := by with_unfolding_all decide) :
    wpAny M A (eval (.Name x pos) (envX name scope L a cd cl)) Q E s := by
  obtain ⟨_, _, _, _, T⟩ := C.st.t
  exact nameX_B C.fr C.st.k T e hv hn h hk hx hd
theorem yBiT {w : World} (C : Cx (KK w) g L o s m news) {x : Str} {pos : Pos} {v : Value} {Q : Value → Shared → Prop} (e : tB.lookup x = some v) (h : Q v s) (hn : x ≠ "__name__" := by with_unfolding_all decide)
    (hk : scope.kind = .function := by with_unfolding_all exact rfl) (hx : (envX name scope L a cd cl).kindOf x = some .globalImplicit := by with_unfolding_all exact rfl) (hd : (x == ("__debug__" : Str)) = false := by with_unfolding_all decide) :
    wpAny M A (eval (.Name x pos) (envX name scope L a cd cl)) Q E s := yBi C (bAll e).1 (bAll (w := w) e).2 h hn hk hx hd
theorem yStore {l : List (Str × Value)} (C : Cx K g L o s (lk l) news) {x : Str} {v : Value} {Q : Unit → Shared → Prop} (h : ∀ s', Cx K g L o s' (lk ((x, v) :: l)) news → Q () s')
    (hk : scope.kind = .function := by with_unfolding_all exact rfl) (hl : (envX name scope L a cd cl).kindOf x = some .local := by with_unfolding_all exact rfl) :
    wpAny M A (storeName (envX name scope L a cd cl) x v) Q E s :=
  storeX_L C.fr C.nw (fun h' F N => h _ (lk_cons l x v ▸ C.mk' F N C.nd)) hk hl
end
section
variable {prog : Program} {w : World} {A : Around} {K : Frag} {g : Heap} {L : Addr} {o : OsState} {s : Shared} {m : Str → Option Value} {news : List (Addr × Obj)}
/-- a function with one parameter that a comprehension looks at -/
theorem call_fnC0 {R : Result → Shared → Prop} {name qual : Str} {params : Arguments} {body : List Stmt} {scope : Scope} {dV kV doc pm cdv ct oc : Value} {an od : Option Addr} {osl : Array (Option Value)} {f : Addr} {args : Args} (binds l : List (Str × Value)) (x : Str) (v : Value)
    (C : Cx K g L o s m news) (hroom : A.depth < 1000)
    (ho : K.lookup f = some ⟨oc, od, .func (fnOf name qual params body scope dV kV doc pm an cdv ct), osl⟩) (hcd : codeIn K cdv qual = true)
    (hbind : BindsTo s (fnOf name qual params body scope dV kV doc pm an cdv ct) args binds) (hkind : (binds.all fun y => scope.names.lookup y.1 == some .local || scope.names.lookup y.1 == some .cell) = true)
    (hcs : ∀ L, cellsFrom (L + 1) scope.names [] = [(x, L + 1)]) (hcs0 : ((cellsFrom 0 scope.names []).map (·.1)).Nodup)
    (hbl : ∀ L', bindL (envX qual scope L' f cdv [(x, L' + 1)]).kindOf binds (fun _ => none) = lk l) (hbc : ∀ L', bindC (envX qual scope L' f cdv [(x, L' + 1)]).kindOf binds (fun _ => none) x = some v)
    (h : ∀ g' L' c ob s', ob.data = .cell (some v) → Cx K g' L' o s' (lk l) ((c, ob) :: news) → (∀ s'' m'' news'', Cx K g' L' o s'' m'' news'' → Cx K g L o s'' m news'') →
      wpAny (model prog w) (A.deeper (envX qual scope L' f cdv [(x, c)])) (execs body (envX qual scope L' f cdv [(x, c)])) (fun fl s'' => R (.ok (.ret (retOf fl))) s'') (fun _ _ => False) s')
    (hco : scope.isCoroutine = false := by rfl) (hgen : scope.isGenerator = false := by rfl) (hk : scope.kind = .function := by rfl) : codeAny (model prog w) A (.call (.ref f) args) R s := by
  have X := C.kin
  obtain ⟨_, _, _, _, T⟩ := C.st.t
  have F := C.fr
  have N := C.nw
  refine codeAny_call_function (fd := fnOf name qual params body scope dV kV doc pm an cdv ct) hroom (X _ _ ho) rfl hco hgen rfl (codeRec_of X hcd) (hbind _ _ _ _ ?_)
  refine wpAny_newFunctionEnv_cells hk (kindsX hkind _) fun env' he s' x' => ?_
  subst he
  refine ⟨(T.nolimit.keeps F.keep).keeps x'.toInCall.keep, codeAny_func ?_⟩
  obtain ⟨h₁, tk, rfl, _⟩ := x'.done
  have hk₁ := x'.toInCall.keep
  obtain ⟨cells, NC, Y⟩ := Cl.news (h₀ := s.heap) (Nat.le_refl _) fun n c hm => ⟨x'.cell n c (lookup_of_mem_nodup (cellsFrom_names scope.names 0 (s.heap.objs.size + 1) [] [] rfl ▸ hcs0) hm), x'.above n c hm⟩
  have he : callEnvC (fnOf name qual params body scope dV kV doc pm an cdv ct) s.heap.objs.size f = envX qual scope s.heap.objs.size f cdv [(x, s.heap.objs.size + 1)] := by
    rw [← hcs]; rfl
  have Y' : CellsAre (bindC (envX qual scope s.heap.objs.size f cdv [(x, s.heap.objs.size + 1)]).kindOf binds fun _ => none) [(x, s.heap.objs.size + 1)] cells := by
    rw [← hcs]; exact Y
  obtain ⟨ob, rfl, hob⟩ := CellsAre.one Y'
  rw [hbc] at hob
  have hns : h₁.Ns s.heap.objs.size (lk l) := by
    rw [← hbl s.heap.objs.size, ← hcs]; exact x'.toInCall.ns
  have nm : ∀ b o, g.get? b = some o → b ∉ news.map (·.1) := fun b o e q => by
    obtain ⟨p, hp, rfl⟩ := List.mem_map.mp q
    rw [(N p hp).2.2] at e; cases e
  have st : g.StaysIn (hideAll s.heap (news.map (·.1))) := fun b o e => hideAll_get _ (F.keep b o e) (nm b o e)
  obtain ⟨oL, es, ep, hL, hLd, hLk, hLf⟩ := F.ns
  have nL : L ∉ news.map (·.1) := fun q => by
    obtain ⟨p, hp, e⟩ := List.mem_map.mp q
    exact (N p hp).2.1 e
  have hLg := hideAll_get (news.map (·.1)) hL nL
  have back : ∀ L' s'' m'' news'', Cx K (hideAll s.heap (news.map (·.1))) L' o s'' m'' news'' → Cx K g L o s'' m news'' := by
    intro L' s'' m'' news'' C'
    refine ⟨C.st, ⟨⟨oL, es, ep, C'.fr.keep L oL hLg, hLd, hLk, hLf⟩, fun b o e => C'.fr.keep b o (st b o e), F.above⟩, fun p hp => ⟨(C'.nw p hp).1, fun q => ?_, ?_⟩, C'.nd, C'.gn, C'.os⟩
    · have := (C'.nw p hp).2.2; rw [q, hLg] at this; cases this
    · cases q : g.get? p.1 with
      | none => rfl
      | some o => have := (C'.nw p hp).2.2; rw [st _ _ q] at this; cases this
  have z := NC (s.heap.objs.size + 1, ob) (.head _)
  have go := h (hideAll s.heap (news.map (·.1))) s.heap.objs.size (s.heap.objs.size + 1) ob { s with heap := h₁, toks := tk } hob ?_ (back _)
  · rw [← he] at go
    exact wpAny_mono go (fun fl s' hl => by cases fl <;> exact hl) (fun _ _ y => y.elim)
  refine ⟨C.st.keeps st, ⟨hns, fun b o e => hk₁ b o (of_hideAll _ e), Nat.le_of_eq (hideAll_size _ _)⟩, ?_, ?_, C.gn, C.os⟩
  · intro p hp
    cases hp with
    | head =>
      refine ⟨z.1, z.2.1, ?_⟩
      cases q : (hideAll s.heap (news.map (·.1))).get? (s.heap.objs.size + 1) with
      | none => rfl
      | some o => have := of_hideAll _ q; rw [z.2.2] at this; cases this
    | tail _ hp => exact ⟨hk₁ _ _ (N p hp).1, Nat.ne_of_lt (Heap.lt_size (N p hp).1), hideAll_none _ (List.mem_map_of_mem hp)⟩
  · rw [List.map_cons, List.nodup_cons]
    refine ⟨fun q => ?_, C.nd⟩
    obtain ⟨p, hp, e⟩ := List.mem_map.mp q
    have := (N p hp).1
    rw [e, z.2.2] at this; cases this
theorem call_fnC {R : Result → Shared → Prop} {name qual : Str} {params : Arguments} {body body' : List Stmt} {scope scope' : Scope} {dV kV doc pm cdv ct oc : Value} {an od : Option Addr} {osl : Array (Option Value)} {f : Addr} {args : Args} (binds l : List (Str × Value)) (x : Str) (v : Value)
    (C : Cx K g L o s m news) (hroom : A.depth < 1000)
    (ho : K.lookup f = some ⟨oc, od, .func (fnOf name qual params body scope dV kV doc pm an cdv ct), osl⟩) (hcd : codeIn K cdv qual = true)
    (hbind : BindsTo s (fnOf name qual params body scope dV kV doc pm an cdv ct) args binds) (hkind : (binds.all fun y => scope.names.lookup y.1 == some .local || scope.names.lookup y.1 == some .cell) = true)
    (hcs : ∀ L, cellsFrom (L + 1) scope.names [] = [(x, L + 1)]) (hcs0 : ((cellsFrom 0 scope.names []).map (·.1)).Nodup)
    (hbl : ∀ L', bindL (envX qual scope L' f cdv [(x, L' + 1)]).kindOf binds (fun _ => none) = lk l) (hbc : ∀ L', bindC (envX qual scope L' f cdv [(x, L' + 1)]).kindOf binds (fun _ => none) x = some v)
    (h : ∀ g' L' c ob s', ob.data = .cell (some v) → Cx K g' L' o s' (lk l) ((c, ob) :: news) → (∀ s'' m'' news'', Cx K g' L' o s'' m'' news'' → Cx K g L o s'' m news'') →
      wpAny (model prog w) (A.deeper (envX qual scope' L' f cdv [(x, c)])) (execs body' (envX qual scope' L' f cdv [(x, c)])) (fun fl s'' => R (.ok (.ret (retOf fl))) s'') (fun _ _ => False) s')
    (eb : body = body' := by with_unfolding_all (conv => lhs; whnf) <;> exact rfl) (es : scope = scope' := by with_unfolding_all (conv => lhs; whnf) <;> exact rfl)
    (hco : scope'.isCoroutine = false := by rfl) (hgen : scope'.isGenerator = false := by rfl) (hk : scope'.kind = .function := by rfl) : codeAny (model prog w) A (.call (.ref f) args) R s := by
  subst eb es
  exact call_fnC0 binds l x v C hroom ho hcd hbind hkind hcs hcs0 hbl hbc h hco hgen hk
end
end
section
theorem Walks.bound {prog : Program} {w : World} {A : Around} {I : Addr} {fp wr : List Addr} {n : Nat} {P : Nat → Value → Prop} {St : Nat → Heap → Prop} (W : Walks prog w A I fp wr n P St) : Walks prog w A I fp wr n (fun i v => i < n ∧ P i v) St where
  sub := W.sub
  frame := W.frame
  item := fun i s Q E hi st hQ => W.item i s Q E hi st fun v h' tk hp => hQ v h' tk ⟨hi, hp⟩
  done := W.done
  self := W.self
theorem paired_get {α β : Type} {F : α → β → Prop} : ∀ {l : List α} {l' : List β}, Paired F l l' → ∀ {j : Nat} {b : β}, l'[j]? = some b → ∃ a, l[j]? = some a ∧ F a b
  | _, _, .nil, j, b, h => by simp at h
  | _, _, .cons f r, 0, b, h => by simp at h; subst h; exact ⟨_, rfl, f⟩
  | _, _, .cons f r, j + 1, b, h => by simp at h; obtain ⟨a, h1, h2⟩ := paired_get r h; exact ⟨a, by simpa using h1, h2⟩
section
variable {K : Frag} {g : Heap} {L : Addr} {o : OsState} {s : Shared} {m m' : Str → Option Value} {news : List (Addr × Obj)} {D I : Addr} {ob : Obj} {h' : Heap} {tk : Nat}
theorem Cx.loseL (C : Cx K g L o s m ((I, ob) :: news)) (hns : h'.Ns L m') (e : ∀ b x, b ≠ L → b ≠ I → s.heap.get? b = some x → h'.get? b = some x) : Cx K g L o { s with heap := h', toks := tk } m' news := by
  have z := C.nw (I, ob) (.head _)
  have nd := C.nd
  rw [List.map_cons, List.nodup_cons] at nd
  refine ⟨C.st, ⟨hns, fun b x q => e b x ?_ (fun h => by rw [h, z.2.2] at q; cases q) (C.fr.keep b x q), C.fr.above⟩, fun p hp => ?_, nd.2, C.gn, C.os⟩
  · rintro rfl
    exact absurd (Heap.lt_size q) (Nat.not_lt.mpr C.fr.above)
  · have P := C.nw p (.tail _ hp)
    exact ⟨e _ _ P.2.1 (fun h => nd.1 (List.mem_map.mpr ⟨p, hp, h⟩)) P.1, P.2⟩
theorem Cx.add (C : Cx K g L o s m news) (s0 : Heap) (h0 : s0.get? D = none) (hL : ∃ x, s0.get? L = some x) (hg : ∀ b x, g.get? b = some x → ∃ y, s0.get? b = some y) (hn : ∀ p ∈ news, ∃ y, s0.get? p.1 = some y) (h1 : s.heap.get? D = some ob) : Cx K g L o s m ((D, ob) :: news) := by
  refine ⟨C.st, C.fr, fun p hp => ?_, ?_, C.gn, C.os⟩
  · cases hp with
    | head =>
      refine ⟨h1, ?_, ?_⟩
      · rintro rfl
        obtain ⟨x, hx⟩ := hL
        rw [h0] at hx; cases hx
      · cases q : g.get? D with
        | none => rfl
        | some x => obtain ⟨y, hy⟩ := hg _ _ q; rw [h0] at hy; cases hy
    | tail _ hp => exact C.nw p hp
  · rw [List.map_cons, List.nodup_cons]
    refine ⟨fun q => ?_, C.nd⟩
    obtain ⟨p, hp, e⟩ := List.mem_map.mp q
    obtain ⟨y, hy⟩ := hn p hp
    rw [e, h0] at hy; cases hy
end
section
variable {prog : Program} {w : World} {A : Around} {E : Value → Shared → Prop} {K : Frag} {g : Heap} {L : Addr} {o : OsState} {s : Shared} {m : Str → Option Value} {l : LL} {news : List (Addr × Obj)} {env : Env} {rest : List Stmt} {a : Int}
  {elt iter : Expr} {x y : Str} {px py : Pos} {scope : Scope} {cl : List (Str × Addr)} {pos spos : Pos} {N : Nat} {G : Int → Value → Prop}
theorem sCompR {Q : Flow → Shared → Prop} {s0 : Shared} (C0 : Cx K g L o s0 (lk l) news) (hL : env.locals = L) (hh : A.handled = none) (hN : N ≤ 1000000) (ha : 0 ≤ a) (ha2 : a ≤ 1000000)
    (hsw : swapsWith (.ListComp elt [⟨.Name x px, iter, [], 0⟩] scope pos) (some (.Name y py)) spos.line env = pure true)
    (hclos : closureFor scope env = pure cl) (hcell : ∀ z ∈ scope.names, z.2 ≠ .cell) (hkind : scope.kind = .function)
    (hnames : ∀ z ∈ scope.names, z.2 = .local → scope.names.lookup z.1 = some .local) (hx : scope.names.lookup x = some .local)
    (hy : env.kindOf y = some .local) (hp : (env.scope.kind == .class || (env.scope.kind == .module && env.locals != env.globals)) = false)
    (hs : ∀ x, foldedSetIterable iter env x = pure x)
    (h : ∀ QI : Value → Shared → Prop, (∀ D t1 t2 t3 s₁, Cx K g L o s₁ (lk l) ((D, rangeO a (a + N) t1 t2 t3) :: news) → QI (.ref D) s₁) → wpAny (model prog w) A (eval iter env) QI E s)
    (helt : ∀ (i : Nat) t C s₃ m₃ E', i < N → s₃.heap.Ns C m₃ → m₃ x = some (.int (a + i) t) → (∀ p ∈ news, s₃.heap.get? p.1 = some p.2) → wpAny (model prog w) A (eval elt (compEnvC scope cl C env)) (fun v s₄ => G (a + i) v ∧ Keeps s₃ s₄) E' s₃)
    (k : ∀ D ys n s', ys.length = N → (∀ (j : Nat) v, ys[j]? = some v → G (a + j) v) → Cx K g L o s' (lk ((y, .ref D) :: l)) ((D, lstO ys n) :: news) → wpAny (model prog w) A (execs rest env) Q E s') :
    wpAny (model prog w) A (execs (.Assign [.Name y py] (.ListComp elt [⟨.Name x px, iter, [], 0⟩] scope pos) spos :: rest) env) Q E s := by
  subst hL
  refine wpAny_execs_cons (wpAny_Assign_ListComp_free (fun _ => true) (fun v y => ∀ z t, v = .int z t → G z y) hsw hclos hcell hkind hnames hx hy hp (wpAny_mono (h (fun xv s₁ => ∃ D t1 t2 t3, xv = .ref D ∧ Cx K g env.locals o s₁ (lk l) ((D, rangeO a (a + N) t1 t2 t3) :: news)) fun D t1 t2 t3 s₁ h1 => ⟨D, t1, t2, t3, rfl, h1⟩) (fun xv s₁ h₁ => ?_) fun _ _ e => e) hs)
  obtain ⟨D, t1, t2, t3, rfl, C⟩ := h₁
  refine wpAny_pyIter_range (a := a) (b := a + N) (c := 1) (C.get (.head _)) (small_one (by omega) (by omega) (by omega) (by omega)) ?_
  have C₁ := C.drop1.push (tk := s₁.toks) (rngI a (Builtin.Range.rangeSize a (a + N) 1))
  rw [rangeSize_nat] at C₁ ⊢
  refine ⟨s₁.heap.objs.size, _, _, N, _, _, lk l, rfl, Walks.bound (Walks.range hh s₁.heap.objs.size a 1 N), by rw [sizeLine_eq]; omega, ?_, ?_, ?_, C₁.fr.ns, ⟨?_, ?_⟩, ?_⟩
  · have := C₁.get (.head _)
    have e1 : a + ((0 : Nat) : Int) * 1 = a := by omega
    rw [e1]
    exact this
  · intro b hb; simp at hb; subst hb; exact C₁.lt _ (.head _)
  · intro hb; simp at hb; exact (C₁.nw _ (.head _)).2.1 hb.symm
  · intro C i v s₃ m₃ E' _ _ _ _ _ _
    exact wpAny_pure ⟨rfl, s₃.heap, s₃.toks, rfl, fun _ _ e => e⟩
  · intro C' i v s₃ m₃ E' _ hv _ hn hm hk _
    obtain ⟨hi, t, rfl⟩ := hv
    rw [show a + (i : Int) * 1 = a + i by omega] at hm
    have nd := C₁.nd
    rw [List.map_cons, List.nodup_cons] at nd
    refine wpAny_mono (helt i t C' s₃ m₃ E' hi hn hm fun p hp => hk _ _ (by simp; intro e; exact nd.1 (List.mem_map.mpr ⟨p, hp, e⟩)) (C₁.get (.tail _ hp))) (fun v s₄ h₄ => ⟨fun z t' e => ?_, h₄.2⟩) fun _ _ e => e
    cases e
    rw [show a + (i : Int) * 1 = a + i by omega]
    exact h₄.1
  · intro D' h' tk ys vs hD hl hpl hlen hP hF hns hk
    obtain ⟨n', hpl⟩ := hpl
    have C₂ := Cx.loseL (tk := tk) C₁ hns fun b ob h1 h2 e => hk b ob h1 (by simpa using h2) e
    have hf : (vs.filter fun _ => true) = vs := List.filter_eq_self.mpr fun _ _ => rfl
    rw [hf] at hF
    refine k D' ys.toList n' _ (by rw [← hF.length, hlen]) (fun j v hv => ?_) ?_
    · obtain ⟨u, hu, hG⟩ := paired_get hF hv
      obtain ⟨hj, t, rfl⟩ := hP j u hu
      have := hG _ _ rfl
      rw [show a + (j : Int) * 1 = a + j by omega] at this
      exact this
    · have C₃ := Cx.add (D := D') (ob := lstO ys.toList n') C₂ _ hD (by obtain ⟨x, _, _, hx, _⟩ := C₁.fr.ns; exact ⟨x, hx⟩) (fun b x e => ⟨_, C₁.fr.keep b x e⟩) (fun p hp => ⟨_, C₁.get (.tail _ hp)⟩) (by rw [hpl])
      rw [lk_cons] at C₃
      exact C₃
end
end
section
theorem intKind_inv {prog : Program} {w : World} {k : Int} {v : Value} (h : (PySem.intKind prog w).is k v = true) : ∃ t, v = .int k t := by
  cases v <;> simp [PySem.intKind, Value.isInt] at h
  subst h; exact ⟨_, rfl⟩
section
variable {prog : Program} {w : World} {A : Around} {E : Value → Shared → Prop} {K : Frag} {g : Heap} {L : Addr} {o : OsState} {s : Shared} {m : Str → Option Value} {l : LL} {news : List (Addr × Obj)} {env : Env} {rest : List Stmt} {a : Int}
  {elt iter : Expr} {x y : Str} {px py : Pos} {scope : Scope} {cl : List (Str × Addr)} {pos spos : Pos} {N : Nat} {G : Int → Value → Prop} {kd : Addr} {ko : Obj} {kvs : List (Int × Value)}
theorem Cx.led {news' : List (Addr × Obj)} (C : Cx K g L o s m news) (e : news = news') : Cx K g L o s m news' := e ▸ C
theorem xLenL {vs : List Value} {n : Nat} {D : Addr} (C : Cx K g L o s m news) (hm : (D, lstO vs n) ∈ news) {Q : Value → Shared → Prop} (hz : vs.length ≤ 1000000) (h : ∀ t s', Cx K g L o s' m news → Q (.int (vs.length : Int) t) s') :
    wpAny (model prog w) A (call (.builtin "len") [.ref D] []) Q E s :=
  Calls.call_len_list (C.isList hm) (by rw [List.size_toArray]; omega) (by rw [List.size_toArray]; exact h _ _ C.toks)
theorem xCompD {Q : Value → Shared → Prop} {s0 : Shared} (C0 : Cx K g L o s0 m news) (hh : A.handled = none) (hN : kvs.length ≤ 1000000) (hm : (kd, ko) ∈ news) (HK : ko.IsDictOf (PySem.intKind prog w) kvs) (lo : (kd == sysModules) = false)
    (hclos : closureFor scope env = pure cl) (hcell : ∀ z ∈ scope.names, z.2 ≠ .cell) (hkind : scope.kind = .function)
    (hnames : ∀ z ∈ scope.names, z.2 = .local → scope.names.lookup z.1 = some .local) (hx : scope.names.lookup x = some .local)
    (hs : ∀ x, foldedSetIterable iter env x = pure x)
    (h : ∀ QI : Value → Shared → Prop, (∀ s₁, Cx K g L o s₁ m news → QI (.ref kd) s₁) → wpAny (model prog w) A (eval iter env) QI E s)
    (helt : ∀ z t C s₃ m₃ E', s₃.heap.Ns C m₃ → m₃ x = some (.int z t) → (∀ b ob, g.get? b = some ob → s₃.heap.get? b = some ob) → wpAny (model prog w) A (eval elt (compEnvC scope cl C env)) (fun v s₄ => G z v ∧ Keeps s₃ s₄) E' s₃)
    (k : ∀ D ys n s', ys.length = kvs.length → (∀ (j : Nat) v, ys[j]? = some v → ∃ z u, kvs[j]? = some (z, u) ∧ G z v) → Cx K g L o s' m ((D, lstO ys n) :: news) → Q (.ref D) s') :
    wpAny (model prog w) A (eval (.ListComp elt [⟨.Name x px, iter, [], 0⟩] scope pos) env) Q E s := by
  refine wpAny_ListComp_free (fun _ => true) (fun v y => ∀ z t, v = .int z t → G z y) hclos hcell hkind hnames hx (wpAny_mono (h (fun xv s₁ => xv = .ref kd ∧ Cx K g L o s₁ m news) fun s₁ h1 => ⟨rfl, h1⟩) (fun xv s₁ h₁ => ?_) fun _ _ e => e) hs
  obtain ⟨rfl, C⟩ := h₁
  obtain ⟨ep, hat⟩ := (kda_dict C.nw hm HK).dictAt
  refine wpAny_pyIter_dict lo hat ?_
  have C₁ := C.push (tk := s₁.toks) { cls := .type "dict_keyiterator", data := .fields #[.ref kd, .int 0 0, .int kvs.length 0, .int ep 0] }
  have nd := C₁.nd
  rw [List.map_cons, List.nodup_cons] at nd
  have hne : kd ≠ s₁.heap.objs.size := fun e => nd.1 (List.mem_map.mpr ⟨_, hm, e⟩)
  refine ⟨s₁.heap.objs.size, _, _, kvs.length, _, _, rfl, Walks.bound (Walks.dictKeys hh s₁.heap.objs.size kd hne kvs ep), by rw [sizeLine_eq]; omega, ⟨⟨_, C₁.get (.head _), rfl, rfl⟩, hat.push _⟩, ?_, ⟨?_, ?_⟩, ?_⟩
  · intro b hb; simp at hb; rcases hb with rfl | rfl
    · exact C₁.lt _ (.head _)
    · exact C₁.lt _ (.tail _ hm)
  · intro C i v s₃ m₃ E' _ _ _ _ _ _
    exact wpAny_pure ⟨rfl, s₃.heap, s₃.toks, rfl, fun _ _ e => e⟩
  · intro C' i v s₃ m₃ E' _ hv _ hn hm' hk _
    obtain ⟨hi, z, u, hz, hzv⟩ := hv
    obtain ⟨t, rfl⟩ := intKind_inv hzv
    refine wpAny_mono (helt z t C' s₃ m₃ E' hn hm' fun b ob e => hk _ _ (by simp; rintro rfl; have := (C₁.nw _ (.head _)).2.2; rw [e] at this; cases this) (C₁.fr.keep _ _ e)) (fun v s₄ h₄ => ⟨fun z' t' e => ?_, h₄.2⟩) fun _ _ e => e
    cases e
    exact h₄.1
  · intro D' h' tk ys vs hD hl hpl hlen hP hF hk
    obtain ⟨n', hpl⟩ := hpl
    have C₂ := Cx.lose (tk := tk) C₁ (fun b ob h1 e => hk b ob (by simpa using h1) e)
    have hf : (vs.filter fun _ => true) = vs := List.filter_eq_self.mpr fun _ _ => rfl
    rw [hf] at hF
    refine k D' ys.toList n' _ (by rw [← hF.length, hlen]) (fun j v hv => ?_) ?_
    · obtain ⟨q, hq, hG⟩ := paired_get hF hv
      obtain ⟨hj, z, u, hz, hzv⟩ := hP j q hq
      obtain ⟨t, rfl⟩ := intKind_inv hzv
      exact ⟨z, u, hz, hG _ _ rfl⟩
    · exact Cx.add (D := D') (ob := lstO ys.toList n') C₂ _ hD (by obtain ⟨x, _, _, hx, _⟩ := C₁.fr.ns; exact ⟨x, hx⟩) (fun b x e => ⟨_, C₁.fr.keep b x e⟩) (fun p hp => ⟨_, C₁.get (.tail _ hp)⟩) (by rw [hpl])
end
end
section
variable {prog : Program} {w : World} {A : Around} {g : Heap} {L : Addr} {o : OsState} {s : Shared} {m : Str → Option Value} {news : List (Addr × Obj)} {R : Result → Shared → Prop}
variable {r : RH} {st : RS} {pl : Addr} {vs : List Value} {nl : Nat} {ps : List (Int × List UInt8)} {rd : List UInt8} {own junk : List (Addr × Obj)} {src wd kd : Addr} {S : SV} {wo ko : Obj} {n e rdp : Int} {tn te trd : Tok} {ov : Bool} {v0 v5 : Value} {kvs : List (Int × Value)} {kk : Int → Option UInt8}
theorem RW.rdy {T own own' : List (Addr × Obj)} {D : Addr} {rd' : List UInt8} (I : RW w own r st pl vs nl ps rd) (U : At r.dx (dictOf (r.es w st) 10) (dictOf (r.es w { st with rd := D }) 10) own own') (hm : (D, bytO rd') ∈ T) : RW w (T ++ own') r { st with rd := D } pl vs nl ps rd' :=
  ⟨List.mem_append_right _ (U.keep _ I.h1 (fun e => inst_ne_dict (congrArg (fun z => z.2) e))), List.mem_append_right _ U.mem',
    List.mem_append_right _ (U.keep _ I.h3 (fun e => inst_ne_dict (congrArg (fun z => z.2) e))), List.mem_append_right _ (U.keep _ I.h4 (fun e => I.hne (congrArg (fun z => z.1) e))), List.mem_append_right _ (U.keep _ I.h5 (fun e => lst_ne_dict (congrArg (fun z => z.2) e))),
    List.mem_append_left _ hm, (I.hP.upd U).mono (fun _ h => List.mem_append_right _ h), I.hne⟩
theorem ints_of : ∀ {ys : List Value} {bs : List UInt8}, ys.length = bs.length → (∀ (j : Nat) v, ys[j]? = some v → ∃ b t, bs[j]? = some b ∧ v = .int b.toNat t) → IntsAre ys (bs.map fun b => (b.toNat : Int))
  | [], [], _, _ => .nil
  | y :: ys, b :: bs, hl, h => by
    obtain ⟨c, t, hc, rfl⟩ := h 0 y rfl
    simp at hc; subst hc
    exact .cons _ _ (ints_of (by simpa using hl) fun j v hv => by simpa using h (j + 1) v (by simpa using hv))
theorem bytes_back (bs : List UInt8) : ((bs.map fun b => (b.toNat : Int)).map fun n => n.toNat.toUInt8) = bs := by
  rw [List.map_map]
  conv => rhs; rw [← List.map_id bs]
  congr 1
  funext b
  simp
theorem read_law (C : Cx (KK w) g L o s m (own ++ (src, S.ob) :: (wd, wo) :: (kd, ko) :: junk)) (hA : Room A 12) (hS : S.Ok) (I : RW w own r st pl vs nl ps rd) (HW : wo.IsDictOf (PySem.strKind prog w) (WL v0 (.int n tn) (.ref kd) (.int rdp trd) (.int e te) v5 (.bool ov)))
    (HK : ko.IsDictOf (PySem.intKind prog w) kvs) (lo : (kd == sysModules) = false) (hI : KIn kvs kk) (h1 : 0 ≤ rdp) (h2 : rdp ≤ n) (h5 : n ≤ 40) (hl : (rd.length : Int) = n - rdp) (hrd : ∀ (j : Nat) b, rd[j]? = some b → kk (rdp + j) = some b)
    (k : ∀ (m2 : Nat) own' wo' tr' D (S' : SV) s', m2 ≤ rd.length → RW w own' r { st with rd := D } pl vs nl ps (rd.drop m2) → wo'.IsDictOf (PySem.strKind prog w) (WL v0 (.int n tn) (.ref kd) (.int (rdp + m2) tr') (.int e te) v5 (.bool ov)) → S'.Ok →
      Cx (KK w) g L o s' m (own' ++ (src, S'.ob) :: (wd, wo') :: (kd, ko) :: junk) → R (.ok (.ret (.bool true))) s') :
    codeAny (model prog w) A (.call (.ref 324) ⟨[.ref src, .ref r.x, .ref wd], []⟩) R s := by
  refine call_fnC [("source", .ref src), ("receiver", .ref r.x), ("world", .ref wd)] [("receiver", .ref r.x), ("source", .ref src)] "world" (.ref wd) C hA.dep (by rfl) (by rfl) (BindsTo.of_eq rfl) (by rfl) (fun _ => rfl) (by decide) (fun _ => ?_) (fun _ => rfl) ?_
  · rw [← lk_cons, ← lk_cons]
    rfl
  clear C
  intro g' L' c ob s' HC C back
  wtm_at "g"
  refine take_law ((c, ob) :: own) C ((hA.deeper _).le (by decide)) hS (by decide) (by decide) ?_
  clear C hS; intro many tm S s y0 y1 hS C
  wtm_at "g"
  refine sCompR C (a := rdp) (N := min rd.length many.toNat) (G := fun z v => ∃ b t, kk z = some b ∧ v = .int b.toNat t) rfl (hA.deeper _).hh (by omega) (by omega) (by omega) (by with_unfolding_all exact rfl) (by with_unfolding_all exact rfl) (by decide) (by rfl) (by decide) (by rfl) (by rfl) (by rfl) (by intro _; rfl) ?_ ?_ ?_
  · intro QI hQI
    wtm_at "g"
    rw [show min n (rdp + many) = rdp + ((min rd.length many.toNat : Nat) : Int) by omega] at C
    exact hQI _ _ _ _ _ C
  · clear C
    intro i t C' s₃ m₃ E' hi hns hm hk
    have hw := hk (wd, wo) (by wtm_at "mm")
    have hkd := hk (kd, ko) (by wtm_at "mm")
    have hc := hk (c, ob) (by wtm_at "mm")
    refine Subscript_ (Subscript_ (wpAny_Name (wpAny_loadName_cell (c := c) rfl rfl rfl ⟨ob, hc, HC⟩ ?_) (by decide)))
    refine Calls.Constant_str ?_
    have D1 : ∀ {q : Shared}, q.heap = s₃.heap → q.heap.DictOf (PySem.strKind prog w) wd _ := fun e => by rw [e]; exact Heap.dictOf_iff.mpr ⟨wo, hw, HW⟩
    have D2 : ∀ {q : Shared}, q.heap = s₃.heap → q.heap.DictOf (PySem.intKind prog w) kd _ := fun e => by rw [e]; exact Heap.dictOf_iff.mpr ⟨ko, hkd, HK⟩
    refine tail_any (D1 rfl).typeIs slot_dict_getitem.lookup (wpAny_getItem_of (PySem.strKind_is _ _ _ _) (D1 rfl).mapOf wg2 ?_) (by rfl)
    refine wpAny_Name (wpAny_loadName_local rfl rfl hns hm ?_) (by decide)
    obtain ⟨b, hb⟩ : ∃ b, rd[i]? = some b := ⟨rd[i]'(by omega), List.getElem?_eq_getElem _⟩
    have hkb := hrd i b hb
    obtain ⟨t', hv⟩ := hI.get hkb
    refine tail_any (D2 rfl).typeIs slot_dict_getitem.lookup (wpAny_getItem_of (PySem.intKind_is _ _ _ _) (D2 rfl).mapOf hv ?_) (by rfl)
    exact ⟨⟨b, t', hkb, rfl⟩, _, _, rfl, fun _ _ e => e⟩
  clear C
  intro D ys n9 s hlen hG C
  have hN : ys.length = (rd.take many.toNat).length := by rw [hlen, List.length_take]; omega
  have hints : IntsAre ys ((rd.take many.toNat).map fun b => (b.toNat : Int)) := by
    refine ints_of hN fun j v hv => ?_
    obtain ⟨b, t', hb, rfl⟩ := hG j v hv
    have hj : j < (rd.take many.toNat).length := by
      rw [← hN]
      rcases Nat.lt_or_ge j ys.length with h | h
      · exact h
      · rw [List.getElem?_eq_none h] at hv; cases hv
    have hj2 : j < many.toNat ∧ j < rd.length := by rw [List.length_take] at hj; omega
    have := hrd j rd[j] (List.getElem?_eq_getElem hj2.2)
    rw [hb] at this
    cases this
    exact ⟨rd[j], t', by rw [List.getElem?_take, if_pos hj2.1]; exact List.getElem?_eq_getElem hj2.2, rfl⟩
  obtain ⟨i1, i2, i3, i4, i5, i6, iP, hne⟩ := id I
  wtm_at "g"
  have C : Cx (KK w) g' L' o s _ (own ++ (D, lstO ys n9) :: (c, ob) :: (src, S.ob) :: (wd, wo) :: (kd, ko) :: junk) := C.perm (List.perm_append_comm_assoc own [_, _] _)
  refine read_spec C ((hA.deeper _).le (by decide)) ⟨List.mem_append_left _ i1, List.mem_append_left _ i2⟩ (List.mem_append_left _ i6) (by omega) y0 ?_
  clear C
  intro t5 D5 T news1 s U C hD5
  obtain ⟨own', rfl, V⟩ := U.own i2 (by have := C.nd; rw [List.map_append, U.map] at this; exact (List.nodup_append.mp this).2.1)
  have e1 : cut rd none (some many) = rd.take many.toNat := by unfold cut; simp
  have I' := I.rdy V hD5
  rw [e1] at I'
  have e2 : cut rd (some ((rd.take many.toNat).length : Int)) none = rd.drop (min many.toNat rd.length) := by
    unfold cut
    simp only [Option.getD_some, Option.getD_none, List.length_take]
    rw [List.take_of_length_le (by simp)]
    congr 1
  rw [e2] at I'
  rw [e1]
  wtm_at "g"
  refine xBytesL C (by wtm_at "mm") hints ?_ ?_ (hA.deeper _).hh ?_
  · intro x hx
    obtain ⟨b, _, rfl⟩ := List.mem_map.mp hx
    have := b.toNat_lt
    omega
  · omega
  clear C; intro t6 s C
  rw [bytes_back]
  wtm_at "g"
  refine ⟨fun hb => ?_, fun _ => ?_⟩
  · simp at hb
  wtm_at "g"
  refine xLenL C (by wtm_at "mm") (by omega) ?_
  clear C; intro t7 s C
  wtm_at "g"
  have C := C.led (news' := (T ++ own' ++ [(D, lstO ys n9), (c, ob), (src, S.ob)]) ++ (wd, wo) :: (kd, ko) :: junk) (by simp)
  refine xDSet _ C HW (PySem.strKind_is _ _ _ _) (by show 7 ≤ 1000000; decide) ws3 ?_
  clear C HW; intro wo s C HW
  have C := C.led (news' := (T ++ own') ++ (D, lstO ys n9) :: (c, ob) :: (src, S.ob) :: (wd, wo) :: (kd, ko) :: junk) (by simp)
  obtain ⟨i1, i2, i3, i4, i5, i6, iP, hne⟩ := id I'
  wtm_at "g"
  refine available_spec C ((hA.deeper _).le (by decide)) ⟨List.mem_append_left _ i1, List.mem_append_left _ i2⟩ (List.mem_append_left _ i6) (by simp; omega) ?_
  clear C; intro t8 s C
  wtm_at "g"
  have e3 : min many.toNat rd.length = ys.length := by omega
  rw [e3] at I' ⊢
  have e4 : (((rd.drop ys.length).length : Int) == n - (rdp + (ys.length : Int))) = true := by rw [beq_iff_eq, List.length_drop]; omega
  rw [e4]
  exact k ys.length _ wo _ D5 S s (by omega) I' HW hS (back _ _ _ (C.sub (List.Sublist.append_left (.cons _ (.cons _ (.refl _))) _)))

end
section
variable {prog : Program} {w : World} {A : Around} {g : Heap} {L : Addr} {o : OsState} {s : Shared} {m : Str → Option Value} {news : List (Addr × Obj)} {R : Result → Shared → Prop}
theorem nameG_B {M : Model} {E : Value → Shared → Prop} {K : Frag} {x : Str} {v : Value} {pos : Pos} {env : Env} {Q : Value → Shared → Prop} (st : Stat K g) (keep : ∀ b ob, g.get? b = some ob → s.heap.get? b = some ob) (e : nsIn K mainGlobals x = some none) (hv : bootBuiltins x = some v) (hn : x ≠ "__name__") (h : Q v s)
    (hk : env.scope.kind = .function) (hx : env.kindOf x = some .globalImplicit) (hg : env.globals = mainGlobals) (hb : env.builtins = builtinsNs) (hd : (x == ("__debug__" : Str)) = false) : wpAny M A (eval (.Name x pos) env) Q E s := by
  obtain ⟨X, p, loose, mg, mb, T⟩ := st
  exact Calls.Name_function_global hk hx (Calls.loadGlobal_builtin (env := env) (hg ▸ T.g.keeps keep) (mg_none_of X T.g e) (hb ▸ T.b.keeps keep) ((T.builtins x hn).trans hv) h) hd
/-- the known places from at on, as runs -/
def Runs (kk : Int → Option UInt8) : Int → List (Int × List UInt8) → Prop
  | at_, [] => ∀ x, at_ ≤ x → kk x = none
  | at_, (p, d) :: ps => at_ < p ∧ (∀ x, at_ ≤ x → x < p → kk x = none) ∧ (∀ x, p ≤ x → x < p + d.length → (kk x).isSome = true) ∧ 0 < d.length ∧ kk (p + d.length) = none ∧ Runs kk (p + d.length) ps
theorem ints_ofZ : ∀ {ys : List Value} {zs : List Int}, ys.length = zs.length → (∀ (j : Nat) v, ys[j]? = some v → ∃ z t, zs[j]? = some z ∧ v = .int z t) → IntsAre ys zs
  | [], [], _, _ => .nil
  | y :: ys, b :: bs, hl, h => by
    obtain ⟨c, t, hc, rfl⟩ := h 0 y rfl
    simp at hc; subst hc
    exact .cons _ _ (ints_ofZ (by simpa using hl) fun j v hv => by simpa using h (j + 1) v (by simpa using hv))
theorem key_some {kvs : List (Int × Value)} {z : Int} {u : Value} (h : (z, u) ∈ kvs) : (valueAt kvs z).isSome = true := by
  unfold valueAt
  rw [Option.isSome_map, List.find?_isSome]
  exact ⟨_, h, by simp⟩
theorem some_key {kvs : List (Int × Value)} {z : Int} (h : (valueAt kvs z).isSome = true) : ∃ u, (z, u) ∈ kvs := by
  unfold valueAt at h
  rw [Option.isSome_map, List.find?_isSome] at h
  obtain ⟨⟨a, b⟩, h1, h2⟩ := h
  simp at h2; subst h2
  exact ⟨_, h1⟩
variable {wd kd : Addr} {wo ko : Obj} {f r n e rdp : Int} {tn te trd tf tr : Tok} {ov : Bool} {v0 v3 v4 v5 v6 : Value} {kvs : List (Int × Value)} {kk : Int → Option UInt8} {ps : List (Int × List UInt8)}
theorem holes_law (C : Cx (KK w) g L o s m news) (hA : Room A 2) (hw : (wd, wo) ∈ news) (hkm : (kd, ko) ∈ news) (HW : wo.IsDictOf (PySem.strKind prog w) (WL v0 (.int n tn) (.ref kd) v3 v4 v5 v6))
    (HK : ko.IsDictOf (PySem.intKind prog w) kvs) (lo : (kd == sysModules) = false) (hI : KIn kvs kk) (hkl : kvs.length ≤ 900000) (hR : Runs kk n ps) (hps : ps.length ≤ 1000) (hr : 0 < r)
    (k : ∀ F fvs fn T s', Cx (KK w) g L o s' m ((F, lstO fvs fn) :: (T ++ news)) → PairsIn (T ++ news) fvs (holesLoop f r ps n []) → R (.ok (.ret (.ref F))) s') :
    codeAny (model prog w) A (.call (.ref 312) ⟨[.ref wd, .int f tf, .int r tr], []⟩) R s := by
  refine call_fn [("world", .ref wd), ("first", .int f tf), ("ring", .int r tr)] [("ring", .int r tr), ("first", .int f tf), ("world", .ref wd)] C hA.dep (by rfl) (by rfl) (BindsTo.of_eq rfl) (by rfl) (by rfl) ?_
  clear C
  intro g' L' s' C back
  wtm_at "g"
  rename_i D0 s8 t8 s7 s6 D1 s5 s4 s3 s2 t4 s1 s9
  refine xCompD (kvs := kvs) (G := fun z v => ∃ t, v = .int z t) C (hA.deeper _).hh (by omega) (by wtm_at "mm") HK lo (by with_unfolding_all exact rfl) (by decide) (by rfl) (by decide) (by rfl) (by intro _; rfl) ?_ ?_ ?_
  · intro QI hQI
    wtm_at "g"
    exact hQI _ C
  · intro z t C' s₃ m₃ E' hns hm keep
    refine xCall ?_
    refine nameG_B C.st keep bint boot_int (by decide) ?_ rfl rfl rfl rfl (by decide)
    refine xCallT ?_
    refine xArg ?_
    refine wpAny_Name (wpAny_loadName_local rfl rfl hns hm ?_) (by decide)
    refine xArg0 ?_
    refine call_int_int ?_
    exact ⟨⟨t, rfl⟩, _, _, rfl, fun _ _ e => e⟩
  clear C
  intro D2 ys n2 s hyl hys C
  wtm_at "g"
  have hints : IntsAre ([.int n tn] ++ ys) (n :: kvs.map (·.1)) := .cons _ _ (ints_ofZ (by simpa using hyl) fun j v hv => by
    obtain ⟨z, u, h1, t, rfl⟩ := hys j v hv
    exact ⟨z, t, by simp [h1], rfl⟩)
  refine xMaxL C (.head _) hints (by simp) (hA.deeper _).hh ?_
  have C := C.sub (.cons _ (.cons _ (.cons _ (.refl _))))
  clear C
  intro M tM s C hM1 hM2
  have C := C.sub (.cons _ (.cons _ (.cons _ (.refl _))))
  have hlast : ∀ x, (kk x).isSome = true → x ≤ M := fun x hx => by
    rw [← hI.some] at hx
    obtain ⟨u, hu⟩ := some_key hx
    exact hM2 x (.tail _ (List.mem_map.mpr ⟨_, hu, rfl⟩))
  have hlast2 : M = n ∨ (kk M).isSome = true := by
    cases hM1 with
    | head => exact .inl rfl
    | tail _ h =>
      obtain ⟨⟨z, u⟩, hz, rfl⟩ := List.mem_map.mp h
      right
      rw [← hI.some]
      exact key_some hz
  have hnM : n ≤ M := hM2 n (.head _)
  clear hM1 hM2 hints hys hyl
  wtm_at "g"
  refine sWhile (I := fun k9 s => Any8 fun at_ ta acc ps' T fvs fn junk => All7 (k9 = ps'.length) (n ≤ at_) (Runs kk at_ ps') (holesLoop f r ps' at_ acc = holesLoop f r ps n []) (acc.length + ps'.length ≤ 1000) (PairsIn (T ++ news) fvs acc) (Cx (KK w) g' L' o s (lj [("found", .ref s8), ("at", .int at_ ta), ("last", .int M tM), ("ring", .int r tr), ("first", .int f tf), ("world", .ref wd)] junk) ((s8, lstO fvs fn) :: (T ++ news)))) ps.length
    ⟨n, tn, [], ps, [], [], _, _, rfl, Int.le_refl _, hR, rfl, by simpa using hps, .nil, C.norm [("found", _), ("at", _), ("last", _), ("ring", _), ("first", _), ("world", _)] (by wtm_at "ag")⟩ ?_
  clear C
  rintro k9 QW hW _ _ s ⟨at_, ta, acc, ps', T, fvs, fn, junk, rfl, hn, hR, hloop, hacc, hF, C⟩
  wtm_at "g"
  refine ⟨fun hb => ?_, fun hb => ?_⟩
  · have hb := of_decide_eq_true hb
    cases ps' with
    | nil =>
      exfalso
      rcases hlast2 with h | h
      · omega
      · rw [hR M (by omega)] at h; cases h
    | cons x ps' =>
      obtain ⟨p, d⟩ := x
      obtain ⟨r1, r2, r3, r4, r5, r6⟩ := hR
      have hpM := hlast p (r3 p (Int.le_refl _) (by omega))
      have hpk := r3 p (Int.le_refl _) (by omega)
      wtm_at "g"
      refine sWhile (I := fun k8 s => Any3 fun x tx junk => All4 (k8 = (p - x).toNat) (at_ ≤ x) (x ≤ p) (Cx (KK w) g' L' o s (lj [("found", .ref s8), ("begin", .int at_ ta), ("at", .int x tx), ("last", .int M tM), ("ring", .int r tr), ("first", .int f tf), ("world", .ref wd)] junk) ((s8, lstO fvs fn) :: (T ++ news))))
        (p - at_).toNat ⟨at_, ta, _, rfl, Int.le_refl _, by omega, C.norm [("found", _), ("begin", _), ("at", _), ("last", _), ("ring", _), ("first", _), ("world", _)] (by wtm_at "ag")⟩ ?_
      clear C
      rintro k8 QV hV _ _ s ⟨x, tx, junk, rfl, x1, x2, C⟩
      wtm_at "g"
      refine xDNotIn C (by wtm_at "mm") HK lo (PySem.intKind_is _ _ _ _) (hI.some x) ?_
      clear C; intro s C
      wtm_at "g"
      refine ⟨fun hb2 => ?_, fun hb2 => ?_⟩
      · have x3 : x < p := by
          rcases Int.lt_or_le x p with h | h
          · exact h
          · have : x = p := by omega
            rw [this, hpk] at hb2; cases hb2
        wtm_at "g"
        refine ⟨fun _ => ?_, fun hb3 => ?_⟩
        · wtm_at "g"
          exact hV _ _ _ (.inl rfl) (by omega) ⟨x + 1, _, _, rfl, by omega, by omega, C.norm [("found", _), ("begin", _), ("at", _), ("last", _), ("ring", _), ("first", _), ("world", _)] (by wtm_at "ag")⟩
        · have := of_decide_eq_false hb3
          omega
      · have x3 : x = p := by
          rcases Int.lt_or_le x p with h | h
          · rw [r2 x x1 h] at hb2; cases hb2
          · omega
        subst x3
        have hfl := hF.length
        wtm_at "g"
        refine ⟨fun _ => ?_, fun hb3 => ?_⟩
        · simp only [holesLoop] at hloop
          rw [if_pos (by omega)] at hloop
          simp only [List.length_cons] at hacc
          wtm_at "g"
          refine sWhile (I := fun k8 s => Any6 fun y ty T fvs fn junk => All5 (k8 = (x + d.length - y).toNat) (x ≤ y) (y ≤ x + d.length) (PairsIn (T ++ news) fvs (acc ++ [(W f r at_, x - at_)])) (Cx (KK w) g' L' o s (lj [("found", .ref s8), ("at", .int y ty), ("last", .int M tM), ("ring", .int r tr), ("first", .int f tf), ("world", .ref wd)] junk) ((s8, lstO fvs fn) :: (T ++ news))))
            (x + d.length - x).toNat ⟨x, tx, (_, _) :: T, _, _, _, rfl, Int.le_refl _, by omega, (hF.mono fun _ h => .tail _ h).append (.cons (.head _) .nil), C.rot2.norm [("found", _), ("at", _), ("last", _), ("ring", _), ("first", _), ("world", _)] (by wtm_at "ag")⟩ ?_
          clear C
          rintro k7 QU hU _ _ s ⟨y, ty, T, fvs, fn, junk, rfl, y1, y2, hF, C⟩
          wtm_at "g"
          refine xDIn C (by wtm_at "mm") HK lo (PySem.intKind_is _ _ _ _) (hI.some y) ?_
          clear C; intro s C
          wtm_at "g"
          refine ⟨fun hb4 => ?_, fun hb4 => ?_⟩
          · have y3 : y < x + d.length := by
              rcases Int.lt_or_le y (x + d.length) with h | h
              · exact h
              · have : y = x + d.length := by omega
                rw [this, r5] at hb4; cases hb4
            wtm_at "g"
            exact hU _ _ _ (.inl rfl) (by omega) ⟨y + 1, _, T, fvs, fn, _, rfl, by omega, by omega, hF, C.norm [("found", _), ("at", _), ("last", _), ("ring", _), ("first", _), ("world", _)] (by wtm_at "ag")⟩
          · have y3 : y = x + d.length := by
              rcases Int.lt_or_le y (x + d.length) with h | h
              · rw [r3 y y1 h] at hb4; cases hb4
              · omega
            subst y3
            wtm_at "g"
            exact hW _ _ _ (.inl rfl) (by simp) ⟨x + d.length, _, _, ps', T, fvs, fn, _, rfl, by omega, r6, hloop, by simp; omega, hF, C⟩
        · have := of_decide_eq_false hb3
          omega
  · cases ps' with
    | nil =>
      rw [← hloop] at k
      wtm_at "g"
      exact k _ _ _ T _ (back _ _ _ C) hF
    | cons x ps' =>
      exfalso
      obtain ⟨p, d⟩ := x
      obtain ⟨r1, r2, r3, r4, r5, r6⟩ := hR
      have := hlast p (r3 p (Int.le_refl _) (by omega))
      have := of_decide_eq_false hb
      omega

end
section
abbrev PL := List (Int × List UInt8)
abbrev KF := Int → Option UInt8
/-- d lies at p in κ -/
def Has (κ : KF) (p : Int) (d : List UInt8) : Prop := ∀ (j : Nat) b, d[j]? = some b → κ (p + j) = some b
/-- ps tells just what κ knows from a on; parts may touch -/
def Wk (κ : KF) : Int → PL → Prop
  | a, [] => ∀ x, a ≤ x → κ x = none
  | a, (p, d) :: ps => a ≤ p ∧ (∀ x, a ≤ x → x < p → κ x = none) ∧ Has κ p d ∧ 0 < d.length ∧ Wk κ (p + d.length) ps
/-- the same, no two parts touch -/
def Rn (κ : KF) : Int → PL → Prop
  | a, [] => ∀ x, a ≤ x → κ x = none
  | a, (p, d) :: ps => a ≤ p ∧ (∀ x, a ≤ x → x < p → κ x = none) ∧ Has κ p d ∧ 0 < d.length ∧ κ (p + d.length) = none ∧ Rn κ (p + d.length) ps
theorem Has.known {κ : KF} {p : Int} {d : List UInt8} (h : Has κ p d) {x : Int} (h1 : p ≤ x) (h2 : x < p + d.length) : ∃ b, d[(x - p).toNat]? = some b ∧ κ x = some b := by
  have hl : (x - p).toNat < d.length := by omega
  have := h (x - p).toNat d[(x - p).toNat] (List.getElem?_eq_getElem hl)
  rw [show p + ((x - p).toNat : Int) = x by omega] at this
  exact ⟨_, List.getElem?_eq_getElem hl, this⟩
theorem Rn.wk {κ : KF} : ∀ {ps : PL} {a : Int}, Rn κ a ps → Wk κ a ps
  | [], a, h => h
  | (p, d) :: ps, a, ⟨h1, h2, h3, h4, h5, h6⟩ => ⟨h1, h2, h3, h4, h6.wk⟩
theorem Wk.uniq {κ κ' : KF} : ∀ {ps : PL} {a : Int}, Wk κ a ps → Wk κ' a ps → ∀ x, a ≤ x → κ x = κ' x
  | [], a, h, h', x, hx => by rw [h x hx, h' x hx]
  | (p, d) :: ps, a, ⟨h1, h2, h3, h4, h5⟩, ⟨g1, g2, g3, g4, g5⟩, x, hx => by
    by_cases c : x < p
    · rw [h2 x hx c, g2 x hx c]
    · by_cases c' : x < p + d.length
      · obtain ⟨b, e1, e2⟩ := h3.known (by omega) c'
        obtain ⟨b', e1', e2'⟩ := g3.known (by omega) c'
        rw [e2, e2', ← e1, ← e1']
      · exact h5.uniq g5 x (by omega)
theorem Has.congr {κ κ' : KF} {p : Int} {d : List UInt8} (h : Has κ p d) (e : ∀ x, p ≤ x → x < p + d.length → κ x = κ' x) : Has κ' p d := fun j b hj => by
  have hl : j < d.length := by
    rcases Nat.lt_or_ge j d.length with h | h
    · exact h
    · rw [List.getElem?_eq_none h] at hj; cases hj
  rw [← e _ (by omega) (by omega)]; exact h j b hj
theorem Rn.congr {κ κ' : KF} : ∀ {ps : PL} {a : Int}, Rn κ a ps → (∀ x, a ≤ x → κ x = κ' x) → Rn κ' a ps
  | [], a, h, e => fun x hx => by rw [← e x hx]; exact h x hx
  | (p, d) :: ps, a, ⟨h1, h2, h3, h4, h5, h6⟩, e => ⟨h1, fun x a b => by rw [← e x a]; exact h2 x a b, h3.congr fun x a b => e x (by omega), h4, by rw [← e _ (by omega)]; exact h5, h6.congr fun x hx => e x (by omega)⟩
theorem Wk.congr {κ κ' : KF} : ∀ {ps : PL} {a : Int}, Wk κ a ps → (∀ x, a ≤ x → κ x = κ' x) → Wk κ' a ps
  | [], a, h, e => fun x hx => by rw [← e x hx]; exact h x hx
  | (p, d) :: ps, a, ⟨h1, h2, h3, h4, h6⟩, e => ⟨h1, fun x a b => by rw [← e x a]; exact h2 x a b, h3.congr fun x a b => e x (by omega), h4, h6.congr fun x hx => e x (by omega)⟩
theorem Wk.lower {κ : KF} {a a' : Int} : ∀ {ps : PL}, Wk κ a ps → a' ≤ a → (∀ x, a' ≤ x → x < a → κ x = none) → Wk κ a' ps
  | [], h, h1, h2 => fun x hx => by
    by_cases c : x < a
    · exact h2 x hx c
    · exact h x (by omega)
  | (p, d) :: ps, ⟨g1, g2, g3, g4, g5⟩, h1, h2 => ⟨by omega, fun x hx hp => by
    by_cases c : x < a
    · exact h2 x hx c
    · exact g2 x (by omega) hp, g3, g4, g5⟩
/-- shifting all places -/
theorem Rn.shift {κ : KF} {q : Int} : ∀ {ps : PL} {a : Int}, Rn κ a ps → Rn (fun x => κ (q + x)) (a - q) (rel q ps)
  | [], a, h => fun x hx => h _ (by omega)
  | (p, d) :: ps, a, ⟨h1, h2, h3, h4, h5, h6⟩ => by
    refine ⟨by simp only; omega, fun x a b => h2 _ (by omega) (by simp only at b; omega), fun j b hj => ?_, h4, ?_, ?_⟩
    · have := h3 j b hj
      simp only
      rw [show q + (p - q + (j : Int)) = p + j by omega]; exact this
    · simp only
      rw [show q + (p - q + (d.length : Int)) = p + d.length by omega]; exact h5
    · have := h6.shift (q := q)
      rw [show p + (d.length : Int) - q = p - q + d.length by omega] at this
      exact this
theorem Rn.unshift {κ κ' : KF} {q : Int} : ∀ {ps : PL} {a : Int}, Rn κ a ps → (∀ x, κ' x = κ (x - q)) → Rn κ' (q + a) (ps.map fun x => (q + x.1, x.2))
  | [], a, h, e => fun x hx => by rw [e]; exact h _ (by omega)
  | (p, d) :: ps, a, ⟨h1, h2, h3, h4, h5, h6⟩, e => by
    refine ⟨by simp only; omega, fun x a b => by rw [e]; exact h2 _ (by omega) (by simp only at b; omega), fun j b hj => ?_, h4, ?_, ?_⟩
    · have := h3 j b hj
      simp only
      rw [e, show q + p + (j : Int) - q = p + j by omega]; exact this
    · simp only
      rw [e, show q + p + (d.length : Int) - q = p + d.length by omega]; exact h5
    · have := h6.unshift (q := q) e
      simp only
      rw [show q + p + (d.length : Int) = q + (p + d.length) by omega]
      exact this
/-! missing, without the list carried along -/
def missE (beg : Int) (oct : List UInt8) (at_ : Int) : PL := if at_ < beg + oct.length then [(at_, cut oct (some (at_ - beg)) none)] else []
def missF (beg : Int) (oct : List UInt8) : PL → Int → PL
  | [], at_ => missE beg oct at_
  | (p, d) :: ps, at_ =>
    if p + d.length ≤ at_ then missF beg oct ps at_
    else if beg + oct.length ≤ p then missE beg oct at_
    else (if at_ < p then [(at_, cut oct (some (at_ - beg)) (some (p - beg)))] else []) ++ missF beg oct ps (p + d.length)
theorem missE_eq {beg : Int} {oct : List UInt8} {at_ : Int} {acc : PL} : missFin beg oct at_ acc = acc ++ missE beg oct at_ := by
  unfold missFin missE; split <;> simp
theorem missF_eq {beg : Int} {oct : List UInt8} : ∀ {ps : PL} {at_ : Int} {acc : PL}, missLoop beg oct ps at_ acc = acc ++ missF beg oct ps at_
  | [], at_, acc => missE_eq
  | (p, d) :: ps, at_, acc => by
    unfold missLoop missF
    split
    · exact missF_eq
    · split
      · exact missE_eq
      · rw [missF_eq]; split <;> simp
def mergeF : PL → PL → PL
  | [], rest => rest
  | (p, d) :: ps, rest => rest.takeWhile (fun x => decide (x.1 < p)) ++ (p, d) :: mergeF ps (rest.dropWhile fun x => decide (x.1 < p))
theorem mergeF_eq : ∀ {ps rest acc : PL}, mergeLoop ps rest acc = acc ++ mergeF ps rest
  | [], rest, acc => rfl
  | (p, d) :: ps, rest, acc => by
    unfold mergeLoop mergeF
    rw [mergeF_eq]; simp
def joinF (x : Int) (y : List UInt8) : PL → PL
  | [] => [(x, y)]
  | (p, d) :: ps => if x + y.length = p then joinF x (y ++ d) ps else (x, y) :: joinF p d ps
theorem joinF_eq : ∀ {l : PL} {x : Int} {y : List UInt8} {acc : PL}, joinLoop l (some (x + y.length)) (acc ++ [(x, y)]) = acc ++ joinF x y l
  | [], x, y, acc => rfl
  | (p, d) :: ps, x, y, acc => by
    unfold joinLoop joinF
    by_cases e : x + (y.length : Int) = p
    · rw [if_pos (by rw [e]), if_pos e]
      simp only [List.getLast?_append, List.getLast?_singleton, Option.some_or, List.dropLast_concat]
      have := @joinF_eq ps x (y ++ d) acc
      rw [← this]
      congr 2
      simp only [List.length_append]; omega
    · rw [if_neg (fun h => e (Option.some.inj h)), if_neg e]
      rw [joinF_eq (acc := acc ++ [(x, y)])]
      simp
def joinA : PL → PL
  | [] => []
  | (p, d) :: ps => joinF p d ps
theorem joinA_eq : ∀ {l : PL}, joinLoop l none [] = joinA l
  | [] => rfl
  | (p, d) :: ps => by
    unfold joinLoop joinA
    rw [if_neg (by intro h; cases h)]
    exact joinF_eq (acc := [])
theorem Has.append {κ : KF} {x : Int} {y d : List UInt8} (h1 : Has κ x y) (h2 : Has κ (x + y.length) d) : Has κ x (y ++ d) := fun j b hj => by
  rw [List.getElem?_append] at hj
  split at hj
  · exact h1 j b hj
  · rename_i hl
    have := h2 _ b hj
    rw [show x + (y.length : Int) + ((j - y.length : Nat) : Int) = x + j by omega] at this
    exact this
theorem joinF_rn {κ : KF} : ∀ {l : PL} {x a : Int} {y : List UInt8}, a ≤ x → (∀ z, a ≤ z → z < x → κ z = none) → Has κ x y → 0 < y.length → Wk κ (x + y.length) l → Rn κ a (joinF x y l)
  | [], x, a, y, h0, hz, h1, h2, h3 => ⟨h0, hz, h1, h2, h3 _ (Int.le_refl _), fun z hz => h3 z hz⟩
  | (p, d) :: ps, x, a, y, h0, hz, h1, h2, ⟨g1, g2, g3, g4, g5⟩ => by
    unfold joinF
    split
    · rename_i e
      subst e
      exact joinF_rn h0 hz (h1.append g3) (by simp; omega) (by rw [List.length_append]; rw [show x + ((y.length + d.length : Nat) : Int) = x + y.length + d.length by omega]; exact g5)
    · rename_i e
      exact ⟨h0, hz, h1, h2, g2 _ (Int.le_refl _) (by omega), joinF_rn g1 g2 g3 g4 g5⟩
theorem joinA_rn {κ : KF} : ∀ {l : PL} {a : Int}, Wk κ a l → Rn κ a (joinA l)
  | [], a, h => h
  | (p, d) :: ps, a, ⟨h1, h2, h3, h4, h5⟩ => joinF_rn h1 h2 h3 h4 h5

theorem cut_get {l : List UInt8} {i : Int} {j : Nat} (h : 0 ≤ i) : (cut l (some i) none)[j]? = l[(i + j).toNat]? := by
  unfold cut
  simp only [Option.getD_some, Option.getD_none, List.getElem?_take, List.getElem?_drop]
  rw [show (i + (j : Int)).toNat = i.toNat + j by omega]
  split
  · rfl
  · rw [List.getElem?_eq_none]; simp only [Int.toNat_natCast] at *; omega
theorem cut_len {l : List UInt8} {i : Int} (h : 0 ≤ i) : (cut l (some i) none).length = l.length - i.toNat := by
  unfold cut; simp
theorem cut_get2 {l : List UInt8} {i k : Int} {j : Nat} (h : 0 ≤ i) (hj : i + j < k) : (cut l (some i) (some k))[j]? = l[(i + j).toNat]? := by
  unfold cut
  simp only [Option.getD_some, List.getElem?_take, List.getElem?_drop]
  rw [if_pos (by omega), show (i + (j : Int)).toNat = i.toNat + j by omega]
theorem cut_len2 {l : List UInt8} {i k : Int} (h : 0 ≤ i) (hk : i ≤ k) (hl : k ≤ l.length) : ((cut l (some i) (some k)).length : Int) = k - i := by
  unfold cut; simp; omega
/-- what oct at beg adds to κ from at on -/
def upd (κ : KF) (beg : Int) (oct : List UInt8) (at_ x : Int) : Option UInt8 := if at_ ≤ x ∧ x < beg + oct.length ∧ κ x = none then oct[(x - beg).toNat]? else κ x
theorem upd_low {κ : KF} {beg at_ x : Int} {oct : List UInt8} (h : x < at_) : upd κ beg oct at_ x = κ x := if_neg (by omega)
theorem upd_high {κ : KF} {beg at_ x : Int} {oct : List UInt8} (h : beg + oct.length ≤ x) : upd κ beg oct at_ x = κ x := if_neg (by omega)
theorem upd_known {κ : KF} {beg at_ x : Int} {oct : List UInt8} {b : UInt8} (h : κ x = some b) : upd κ beg oct at_ x = κ x := if_neg (fun e => by rw [h] at e; cases e.2.2)
theorem missE_ge {beg : Int} {oct : List UInt8} {at_ : Int} : ∀ x ∈ missE beg oct at_, at_ ≤ x.1 := by
  unfold missE; split
  · intro x hx; simp at hx; subst hx; exact Int.le_refl _
  · intro x hx; cases hx
theorem missF_ge {beg : Int} {oct : List UInt8} : ∀ {ps : PL} {at_ : Int}, ∀ x ∈ missF beg oct ps at_, at_ ≤ x.1
  | [], at_ => missE_ge
  | (p, d) :: ps, at_ => by
    unfold missF
    split
    · exact missF_ge
    · split
      · exact missE_ge
      · intro x hx
        rcases List.mem_append.mp hx with h | h
        · split at h
          · simp at h; subst h; exact Int.le_refl _
          · cases h
        · have := missF_ge x h; omega
theorem takeWhile_ge {F : PL} {p : Int} (h : ∀ x ∈ F, p ≤ x.1) : F.takeWhile (fun x => decide (x.1 < p)) = [] ∧ F.dropWhile (fun x => decide (x.1 < p)) = F := by
  cases F with
  | nil => exact ⟨rfl, rfl⟩
  | cons x r =>
    have := h x (.head _)
    have e : decide (x.1 < p) = false := decide_eq_false (by omega)
    simp [List.takeWhile_cons, List.dropWhile_cons, e]
theorem mergeF_ge {p : Int} {d : List UInt8} {ps F : PL} (h : ∀ x ∈ F, p ≤ x.1) : mergeF ((p, d) :: ps) F = (p, d) :: mergeF ps F := by
  show F.takeWhile (fun x => decide (x.1 < p)) ++ (p, d) :: mergeF ps (F.dropWhile fun x => decide (x.1 < p)) = _
  rw [(takeWhile_ge h).1, (takeWhile_ge h).2]; rfl
theorem mergeF_lt {p a : Int} {d o : List UInt8} {ps F : PL} (h : ∀ x ∈ F, p ≤ x.1) (ha : a < p) : mergeF ((p, d) :: ps) ((a, o) :: F) = (a, o) :: (p, d) :: mergeF ps F := by
  show ((a, o) :: F).takeWhile (fun x => decide (x.1 < p)) ++ (p, d) :: mergeF ps (((a, o) :: F).dropWhile fun x => decide (x.1 < p)) = _
  have e : decide (a < p) = true := decide_eq_true ha
  rw [List.takeWhile_cons, List.dropWhile_cons]
  simp only [e, if_true]
  rw [(takeWhile_ge h).1, (takeWhile_ge h).2]; rfl
theorem mergeF_nil : ∀ {ps : PL}, mergeF ps [] = ps
  | [] => rfl
  | (p, d) :: ps => by unfold mergeF; simp [mergeF_nil]
theorem mergeF_wk {κ : KF} {beg : Int} {oct : List UInt8} : ∀ {ps : PL} {a at_ : Int}, Wk κ a ps → a ≤ at_ → beg ≤ at_ → Wk (upd κ beg oct at_) a (mergeF ps (missF beg oct ps at_))
  | [], a, at_, h, h1, h2 => by
    unfold missF mergeF missE
    split
    · rename_i hl
      refine ⟨h1, fun x x1 x2 => by rw [upd_low x2]; exact h x x1, fun j b hj => ?_, ?_, ?_⟩
      · rw [cut_get (by omega)] at hj
        have hb : (at_ - beg + j).toNat < oct.length := by
          rcases Nat.lt_or_ge (at_ - beg + j).toNat oct.length with h | h
          · exact h
          · rw [List.getElem?_eq_none h] at hj; cases hj
        unfold upd
        rw [if_pos ⟨by omega, by omega, h _ (by omega)⟩, show at_ + (j : Int) - beg = at_ - beg + j by omega, hj]
      · rw [cut_len (by omega)]; omega
      · rw [cut_len (by omega)]
        intro x hx
        rw [upd_high (by omega)]
        exact h x (by omega)
    · rename_i hl
      intro x hx
      rw [show upd κ beg oct at_ x = κ x from if_neg (by omega)]
      exact h x hx
  | (p, d) :: ps, a, at_, ⟨g1, g2, g3, g4, g5⟩, h1, h2 => by
    have keep : ∀ x, x < p → a ≤ x → κ x = none := fun x x1 x2 => g2 x x2 x1
    have hhas : Has (upd κ beg oct at_) p d := g3.congr fun x x1 x2 => by
      obtain ⟨b, _, e⟩ := g3.known x1 x2
      exact (upd_known e).symm
    unfold missF
    split
    · rename_i c
      rw [mergeF_ge (fun x hx => by have := missF_ge x hx; omega)]
      refine ⟨g1, fun x x1 x2 => by rw [upd_low (by omega)]; exact g2 x x1 x2, hhas, g4, mergeF_wk g5 c h2⟩
    · rename_i c
      split
      · rename_i c2
        unfold missE
        split
        · rename_i hl
          rw [mergeF_lt (fun x hx => by cases hx) (by omega), mergeF_nil]
          have hlen : ((cut oct (some (at_ - beg)) none).length : Int) = beg + oct.length - at_ := by rw [cut_len (by omega)]; omega
          refine ⟨h1, fun x x1 x2 => by rw [upd_low x2]; exact g2 x x1 (by omega), fun j b hj => ?_, by omega, ?_, ?_, hhas, g4, ?_⟩
          · rw [cut_get (by omega)] at hj
            have hb : (at_ - beg + j).toNat < oct.length := by
              rcases Nat.lt_or_ge (at_ - beg + j).toNat oct.length with h | h
              · exact h
              · rw [List.getElem?_eq_none h] at hj; cases hj
            unfold upd
            rw [if_pos ⟨by omega, by omega, g2 _ (by omega) (by omega)⟩, show at_ + (j : Int) - beg = at_ - beg + j by omega, hj]
          · rw [hlen]; omega
          · intro x x1 x2
            rw [hlen] at x1
            rw [upd_high (by omega)]; exact g2 x (by omega) x2
          · exact g5.congr fun x hx => (upd_high (by omega)).symm
        · rename_i hl
          rw [mergeF_nil]
          refine ⟨g1, fun x x1 x2 => ?_, hhas, g4, g5.congr fun x hx => (upd_high (by omega)).symm⟩
          rw [show upd κ beg oct at_ x = κ x from if_neg (by omega)]
          exact g2 x x1 x2
      · rename_i c2
        have ih := mergeF_wk (oct := oct) (beg := beg) (at_ := p + d.length) g5 (Int.le_refl _) (by omega)
        have hge : ∀ x ∈ missF beg oct ps (p + d.length), p ≤ x.1 := fun x hx => by have := missF_ge x hx; omega
        have hih : Wk (upd κ beg oct at_) (p + d.length) (mergeF ps (missF beg oct ps (p + d.length))) := ih.congr fun x hx => by
          unfold upd
          by_cases c3 : x < beg + oct.length ∧ κ x = none
          · rw [if_pos ⟨hx, c3⟩, if_pos ⟨by omega, c3⟩]
          · rw [if_neg (fun h => c3 h.2), if_neg (fun h => c3 h.2)]
        split
        · rename_i hl
          rw [List.singleton_append, mergeF_lt hge hl]
          have hlen : ((cut oct (some (at_ - beg)) (some (p - beg))).length : Int) = p - at_ := by rw [cut_len2 (by omega) (by omega) (by omega)]; omega
          refine ⟨h1, fun x x1 x2 => by rw [upd_low x2]; exact g2 x x1 (by omega), fun j b hj => ?_, by omega, by omega, ?_, hhas, g4, hih⟩
          · have hj2 : j < (cut oct (some (at_ - beg)) (some (p - beg))).length := by
              rcases Nat.lt_or_ge j (cut oct (some (at_ - beg)) (some (p - beg))).length with h | h
              · exact h
              · rw [List.getElem?_eq_none h] at hj; cases hj
            rw [cut_get2 (by omega) (by omega)] at hj
            unfold upd
            rw [if_pos ⟨by omega, by omega, g2 _ (by omega) (by omega)⟩, show at_ + (j : Int) - beg = at_ - beg + j by omega, hj]
          · intro x x1 x2
            omega
        · rename_i hl
          rw [List.nil_append, mergeF_ge hge]
          exact ⟨g1, fun x x1 x2 => by rw [upd_low (by omega)]; exact g2 x x1 x2, hhas, g4, hih⟩
end
section
/-- all octets of the parts -/
def tot (l : PL) : Nat := (l.map (·.2.length)).sum
theorem tot_cons {x : Int × List UInt8} {l : PL} : tot (x :: l) = x.2.length + tot l := by simp [tot]
theorem tot_app {l l' : PL} : tot (l ++ l') = tot l + tot l' := by simp [tot]
theorem tot_le : ∀ {l : PL}, ∀ x ∈ l, x.2.length ≤ tot l
  | y :: l, x, hx => by
    rw [tot_cons]
    cases hx with
    | head => omega
    | tail _ h => have := tot_le x h; omega
theorem tot_rel {q : Int} {l : PL} : tot (rel q l) = tot l := by unfold tot rel; rw [List.map_map]; rfl
theorem tot_missE {beg at_ : Int} {oct : List UInt8} (h : beg ≤ at_) : (tot (missE beg oct at_) : Int) ≤ max 0 (beg + oct.length - at_) := by
  unfold missE
  split
  · rw [tot_cons, cut_len (by omega)]; simp [tot]; omega
  · simp [tot]; omega
theorem tot_missF {beg : Int} {oct : List UInt8} : ∀ {ps : PL} {at_ : Int}, beg ≤ at_ → (tot (missF beg oct ps at_) : Int) ≤ max 0 (beg + oct.length - at_)
  | [], at_, h => tot_missE h
  | (p, d) :: ps, at_, h => by
    unfold missF
    split
    · exact tot_missF h
    · split
      · exact tot_missE h
      · have ih := @tot_missF beg oct ps (p + d.length) (by omega)
        rw [tot_app]
        split
        · rw [tot_cons]
          have := cut_len2 (l := oct) (i := at_ - beg) (k := p - beg) (by omega) (by omega) (by omega)
          simp only [show tot [] = 0 from rfl]
          omega
        · simp only [show tot [] = 0 from rfl]
          omega
theorem len_missE {beg at_ : Int} {oct : List UInt8} : (missE beg oct at_).length ≤ 1 := by unfold missE; split <;> simp
theorem len_missF {beg : Int} {oct : List UInt8} : ∀ {ps : PL} {at_ : Int}, (missF beg oct ps at_).length ≤ ps.length + 1
  | [], at_ => by have := @len_missE beg at_ oct; simpa [missF] using this
  | (p, d) :: ps, at_ => by
    unfold missF
    have e := @len_missE beg at_ oct
    split
    · have := @len_missF beg oct ps at_; simp; omega
    · split
      · simp; omega
      · have := @len_missF beg oct ps (p + d.length)
        rw [List.length_append]
        split <;> simp <;> omega
theorem len_mergeF : ∀ {ps F : PL}, (mergeF ps F).length = ps.length + F.length
  | [], F => by simp [mergeF]
  | (p, d) :: ps, F => by
    show (F.takeWhile (fun x => decide (x.1 < p)) ++ (p, d) :: mergeF ps (F.dropWhile fun x => decide (x.1 < p))).length = _
    have := congrArg List.length (List.takeWhile_append_dropWhile (p := fun x : Int × List UInt8 => decide (x.1 < p)) (l := F))
    rw [List.length_append] at this
    rw [List.length_append, List.length_cons, len_mergeF, List.length_cons]; omega
theorem tot_mergeF : ∀ {ps F : PL}, tot (mergeF ps F) = tot ps + tot F
  | [], F => by simp [mergeF, tot]
  | (p, d) :: ps, F => by
    show tot (F.takeWhile (fun x => decide (x.1 < p)) ++ (p, d) :: mergeF ps (F.dropWhile fun x => decide (x.1 < p))) = _
    have := congrArg tot (List.takeWhile_append_dropWhile (p := fun x : Int × List UInt8 => decide (x.1 < p)) (l := F))
    rw [tot_app] at this
    rw [tot_app, tot_cons, tot_mergeF, tot_cons]; omega
theorem tot_joinF : ∀ {l : PL} {x : Int} {y : List UInt8}, tot (joinF x y l) = y.length + tot l
  | [], x, y => by simp [joinF, tot]
  | (p, d) :: ps, x, y => by
    unfold joinF
    split
    · rw [tot_joinF, tot_cons, List.length_append]; simp only; omega
    · rw [tot_cons, tot_joinF, tot_cons]
theorem tot_joinA : ∀ {l : PL}, tot (joinA l) = tot l
  | [] => rfl
  | (p, d) :: ps => by rw [joinA, tot_joinF, tot_cons]
theorem hm_of {q : Int} {ps : PL} (hps : ps.length ≤ 100) (ht : tot ps ≤ 100) : ∀ b (d' : List UInt8), 0 ≤ b → d'.length ≤ 100 → (missLoop b d' (rel q ps) b []).length ≤ 101 ∧ (∀ x ∈ missLoop b d' (rel q ps) b [], x.2.length ≤ 100) ∧ (mergeLoop (rel q ps) (missLoop b d' (rel q ps) b []) []).length ≤ 500 ∧
      (∀ x ∈ mergeLoop (rel q ps) (missLoop b d' (rel q ps) b []) [], x.2.length ≤ 1000) ∧ (∀ x ∈ joinLoop (mergeLoop (rel q ps) (missLoop b d' (rel q ps) b []) []) none [], x.2.length ≤ 1000) := by
  intro b d' hb hd
  rw [missF_eq, List.nil_append, mergeF_eq, List.nil_append, joinA_eq]
  have h1 := @len_missF b d' (rel q ps) b
  have h2 := @tot_missF b d' (rel q ps) b (Int.le_refl _)
  have h3 := @len_mergeF (rel q ps) (missF b d' (rel q ps) b)
  have h4 := @tot_mergeF (rel q ps) (missF b d' (rel q ps) b)
  have h5 : (rel q ps).length = ps.length := by simp [rel]
  rw [tot_rel] at h4
  refine ⟨by omega, fun x hx => by have := tot_le x hx; omega, by omega, fun x hx => by have := tot_le x hx; omega, fun x hx => by have := tot_le x hx; rw [tot_joinA] at this; omega⟩
/-- what is known behind a segment d at p -/
def kkP (kk : KF) (q p : Int) (d : List UInt8) (x : Int) : Option UInt8 := if q ≤ x ∧ p ≤ x ∧ x < p + d.length ∧ kk x = none then d[(x - p).toNat]? else kk x
theorem put_rn {kk : KF} {q p : Int} {ps : PL} {d : List UInt8} (h : Rn kk q ps) : Rn (kkP kk q p d) q (putP q ps p d) := by
  obtain ⟨b, eb⟩ : ∃ b, b = (if p - q < 0 then 0 else p - q) := ⟨_, rfl⟩
  obtain ⟨d', ed⟩ : ∃ d', d' = (if p - q < 0 then cut d (some (0 - (p - q))) none else d) := ⟨_, rfl⟩
  rw [putP_eq eb ed, missF_eq, List.nil_append, mergeF_eq, List.nil_append, joinA_eq]
  have hs := h.shift (q := q)
  rw [Int.sub_self] at hs
  have hb : 0 ≤ b := by rw [eb]; split <;> omega
  have hM := mergeF_wk (oct := d') hs.wk hb (Int.le_refl b)
  have key : ∀ x, q ≤ x → kkP kk q p d x = upd (fun x => kk (q + x)) b d' b (x - q) := fun x hx => by
    unfold kkP upd
    simp only
    rw [show q + (x - q) = x by omega]
    by_cases c : p - q < 0
    · rw [if_pos c] at eb ed
      have hl : d'.length = d.length - (0 - (p - q)).toNat := by rw [ed, cut_len (by omega)]
      by_cases c2 : q ≤ x ∧ p ≤ x ∧ x < p + d.length ∧ kk x = none
      · rw [if_pos c2, if_pos ⟨by omega, by omega, c2.2.2.2⟩, ed, cut_get (by omega)]
        congr 1; omega
      · rw [if_neg c2, if_neg (fun h => c2 ⟨hx, by omega, by omega, h.2.2⟩)]
    · rw [if_neg c] at eb ed
      rw [ed]
      by_cases c2 : q ≤ x ∧ p ≤ x ∧ x < p + d.length ∧ kk x = none
      · rw [if_pos c2, if_pos ⟨by omega, by omega, c2.2.2.2⟩]
        congr 1; omega
      · rw [if_neg c2, if_neg (fun h => c2 ⟨hx, by omega, by omega, h.2.2⟩)]
  split
  · rename_i e
    rw [e, mergeF_nil] at hM
    refine h.congr fun x hx => ?_
    have := hs.wk.uniq hM (x - q) (by omega)
    rw [key x hx, ← this]
    congr 1; omega
  · have := (joinA_rn hM).unshift (q := q) (κ' := fun x => upd (fun x => kk (q + x)) b d' b (x - q)) (fun x => rfl)
    rw [Int.add_zero] at this
    exact this.congr fun x hx => (key x hx).symm
theorem take_rn {kk : KF} {q : Int} : ∀ {ps : PL}, Rn kk q ps → Has kk q (takeD q ps).1 ∧ kk (q + (takeD q ps).1.length) = none ∧ Rn kk (q + (takeD q ps).1.length) (takeD q ps).2
  | [], h => ⟨fun j b hj => by simp [takeD] at hj, by simp only [takeD, List.length_nil]; exact h _ (by omega), by simp only [takeD, List.length_nil]; intro x hx; exact h x (by omega)⟩
  | (x, d) :: ps, ⟨h1, h2, h3, h4, h5, h6⟩ => by
    by_cases e : x = q
    · have e2 : takeD q ((x, d) :: ps) = (d, ps) := if_pos e
      rw [e2, ← e]; exact ⟨h3, h5, h6⟩
    · have e2 : takeD q ((x, d) :: ps) = ([], (x, d) :: ps) := if_neg e
      rw [e2]
      have e3 : q + (([] : List UInt8).length : Int) = q := by simp
      refine ⟨fun j b hj => by simp at hj, ?_, ?_⟩
      · simp only [e3]
        exact h2 q (Int.le_refl _) (by omega)
      · simp only [e3]
        exact ⟨h1, h2, h3, h4, h5, h6⟩
theorem Rn.runs {kk : KF} : ∀ {ps : PL} {a : Int}, Rn kk a ps → kk a = none → Runs kk a ps
  | [], a, h, _ => h
  | (p, d) :: ps, a, ⟨h1, h2, h3, h4, h5, h6⟩, hn => by
    refine ⟨?_, h2, fun x x1 x2 => ?_, h4, h5, h6.runs h5⟩
    · rcases Int.lt_or_le a p with h | h
      · exact h
      · obtain ⟨b, _, e⟩ := h3.known (x := a) (by omega) (by omega)
        rw [hn] at e; cases e
    · obtain ⟨b, _, e⟩ := h3.known x1 x2
      rw [e]; rfl
theorem Rn.bound {kk : KF} {B : Int} (hB : ∀ x, B ≤ x → kk x = none) : ∀ {ps : PL} {a : Int}, Rn kk a ps → a ≤ B → (tot ps : Int) ≤ B - a ∧ ps.length ≤ tot ps ∧ ∀ x ∈ ps, a ≤ x.1 ∧ x.1 + x.2.length ≤ B ∧ 0 < x.2.length
  | [], a, h, ha => ⟨by simp [tot]; omega, by simp, fun x hx => by cases hx⟩
  | (p, d) :: ps, a, ⟨h1, h2, h3, h4, h5, h6⟩, ha => by
    have hpB : p + d.length ≤ B := by
      rcases Int.lt_or_le B (p + d.length) with h | h
      · obtain ⟨b, _, e⟩ := h3.known (x := p + d.length - 1) (by omega) (by omega)
        rw [hB _ (by omega)] at e; cases e
      · exact h
    obtain ⟨g1, g2, g3⟩ := h6.bound hB hpB
    rw [tot_cons, List.length_cons]
    refine ⟨by simp only; omega, by simp only; omega, fun x hx => ?_⟩
    cases hx with
    | head => exact ⟨h1, hpB, h4⟩
    | tail _ hx => have := g3 x hx; omega
theorem cutLoop_id {e : Int} : ∀ {ps acc : PL}, (∀ x ∈ ps, x.1 + x.2.length ≤ e ∧ 0 < x.2.length) → cutLoop e ps acc = acc ++ ps
  | [], acc, _ => by simp [cutLoop]
  | (p, d) :: ps, acc, h => by
    obtain ⟨h1, h2⟩ := h (p, d) (.head _)
    simp only at h1 h2
    have e1 : cut d none (some (max 0 (e - p))) = d := by unfold cut; exact List.take_of_length_le (by simp only [Option.getD_some, Option.getD_none, List.length_drop]; omega)
    unfold cutLoop
    rw [e1, if_neg (by intro h; rw [h] at h2; simp at h2), cutLoop_id fun x hx => h x (.tail _ hx)]
    simp
theorem letIn_kept {e p : Int} {d : List UInt8} : letIn e p d = keptT e p d := by
  unfold letIn keptT
  split
  · congr 2; omega
  · unfold cut; simp only [Option.getD_some, Option.getD_none]; rw [show (max 0 (e - p)).toNat - Int.toNat 0 = 0 by omega]; simp
end
section
/-- the twin and the receiver say the same -/
structure Sy (kk : KF) (n rdp e N room : Int) (fin : Option Int) (ov : Bool) (ps : PL) (rd : List UInt8) : Prop where
  r0 : 0 ≤ rdp
  r1 : rdp ≤ n
  ne : n ≤ e
  eb : e ≤ rdp + room
  nN : n ≤ N
  N40 : N ≤ 40
  o1 : 6 ≤ room
  o2 : room ≤ 30
  rl : (rd.length : Int) = n - rdp
  rc : Has kk rdp rd
  far : ∀ x, N ≤ x → kk x = none
  edge : ∀ x, e ≤ x → kk x = none
  rn : Rn kk n ps
  nn : kk n = none
  fn : fin = none ∨ fin = some N
  fo : ov = decide (fin = some n)
def qOf (n : Int) (ov : Bool) : Int := n + (if ov then 1 else 0)
section
variable {kk : KF} {n rdp e N room : Int} {fin : Option Int} {ov : Bool} {ps : PL} {rd : List UInt8}
theorem Sy.ovN (h : Sy kk n rdp e N room fin ov ps rd) (ho : ov = true) : n = N ∧ fin = some N ∧ ps = [] := by
  have h1 := h.fo
  rw [ho] at h1
  have h1 : fin = some n := of_decide_eq_true h1.symm
  have hn : n = N := by
    rcases h.fn with h2 | h2
    · rw [h2] at h1; cases h1
    · rw [h2] at h1; injection h1 with h1; exact h1.symm
  refine ⟨hn, by rw [← hn]; exact h1, ?_⟩
  have := (h.rn.bound h.far h.nN)
  cases ps with
  | nil => rfl
  | cons x ps => have := this.2.2 x (.head _); omega
theorem Sy.bound (h : Sy kk n rdp e N room fin ov ps rd) : (tot ps : Int) ≤ N - n ∧ ps.length ≤ tot ps ∧ ∀ x ∈ ps, n ≤ x.1 ∧ x.1 + x.2.length ≤ N ∧ 0 < x.2.length := h.rn.bound h.far h.nN
theorem Sy.wide {e' : Int} (h : Sy kk n rdp e N room fin ov ps rd) (h1 : e ≤ e') (h2 : e' ≤ rdp + room) : Sy kk n rdp e' N room fin ov ps rd :=
  { h with ne := by have := h.ne; omega, eb := h2, edge := fun x hx => h.edge x (by omega) }
theorem Sy.read {m : Nat} (h : Sy kk n rdp e N room fin ov ps rd) (hm : m ≤ rd.length) : Sy kk n (rdp + m) e N room fin ov ps (rd.drop m) :=
  { h with
    r0 := by have := h.r0; omega
    r1 := by have := h.rl; omega
    eb := by have := h.eb; omega
    rl := by have := h.rl; rw [List.length_drop]; omega
    rc := fun j b hj => by
      rw [List.getElem?_drop] at hj
      have := h.rc _ b hj
      rw [show rdp + ((m + j : Nat) : Int) = rdp + m + j by omega] at this
      exact this }
variable {p : Int} {oct : List UInt8} {hf : Bool}
theorem finA_eq (h : Sy kk n rdp e N room fin ov ps rd) (hp : p + oct.length ≤ N) (hN : hf = true → p + oct.length = N) : finA (qOf n ov) e p oct hf fin = finT e p oct hf fin := by
  unfold finA finT
  rw [letIn_kept]
  by_cases c : hf = true ∧ (keptT e p oct).length = oct.length ∧ fin = none
  · have hq : ¬ p + (oct.length : Int) < qOf n ov := by
      have hov : ov = false := by rw [h.fo, c.2.2]; rfl
      have := hN c.1
      have := h.nN
      unfold qOf; rw [hov]
      simp only [Bool.false_eq_true, if_false]; omega
    rw [if_pos c, if_pos ⟨c.1, c.2.1, c.2.2, hq⟩]
  · rw [if_neg c, if_neg fun h => c ⟨h.1, h.2.1, h.2.2.1⟩]
theorem finT_or (h : Sy kk n rdp e N room fin ov ps rd) (hN : hf = true → p + oct.length = N) : finT e p oct hf fin = none ∨ finT e p oct hf fin = some N := by
  unfold finT
  split
  · rename_i c; right; exact congrArg some (hN c.1)
  · exact h.fn
theorem kkT_eq {i : Nat} {x : Int} (hi : i = (keptT e p oct).length) : kkT n e p oct kk i x = kkP kk n p (keptT e p oct) x := by subst hi; rfl
theorem step (h : Sy kk n rdp e N room fin ov ps rd) (p0 : 0 ≤ p) (pN : p + oct.length ≤ N) (hN : hf = true → p + oct.length = N) {n' : Int} (n0 : n ≤ n')
    (hs : ∀ x, n ≤ x → x < n' → (kkT n e p oct kk (keptT e p oct).length x).isSome = true) (hn : kkT n e p oct kk (keptT e p oct).length n' = none)
    {fr : List UInt8} {ps' : PL} (efr : fr = (if ov then [] else (takeD (qOf n ov) (psA (qOf n ov) p ps ov (letIn e p oct))).1)) (eps : ps' = (if ov then psA (qOf n ov) p ps ov (letIn e p oct) else (takeD (qOf n ov) (psA (qOf n ov) p ps ov (letIn e p oct))).2)) :
    n' - n = fr.length ∧ Sy (kkT n e p oct kk (keptT e p oct).length) n' rdp e N room (finT e p oct hf fin) (ov || decide (finT e p oct hf fin = some n')) ps' (rd ++ fr) ∧
      qOf n ov + fr.length + (if !ov && decide (finT e p oct hf fin = some (qOf n ov + fr.length)) then 1 else 0) = qOf n' (ov || decide (finT e p oct hf fin = some n')) ∧
      (ov || decide (finT e p oct hf fin = some (qOf n ov + fr.length))) = (ov || decide (finT e p oct hf fin = some n')) := by
  have hkl : (keptT e p oct).length ≤ oct.length := cut_length _ _ _
  have hkl2 : ((keptT e p oct).length : Int) ≤ max 0 (e - p) := by unfold keptT cut; simp; omega
  cases hov : ov with
  | true =>
    rw [hov] at efr eps
    simp only [if_true] at efr eps
    obtain ⟨rfl, hfin, hps⟩ := h.ovN hov
    have hkk : kkT n e p oct kk (keptT e p oct).length = kk := by
      funext x
      unfold kkT; rw [if_neg (by omega)]
    rw [hkk] at hs hn ⊢
    have hnn : n' = n := by
      rcases Int.lt_or_le n n' with c | c
      · have := hs n (Int.le_refl _) c
        rw [h.nn] at this; cases this
      · omega
    subst hnn
    have hpsA : psA (qOf n' true) p ps true (letIn e p oct) = ps := if_neg fun h => by cases h.1
    rw [hpsA] at eps
    subst efr eps
    have hft : finT e p oct hf fin = fin := if_neg fun c => by rw [hfin] at c; cases c.2.2
    rw [hft]
    refine ⟨by simp, ?_, by simp [qOf], by simp⟩
    rw [List.append_nil]
    have := h
    rw [hov] at this
    rw [Bool.true_or]
    exact this
  | false =>
    rw [hov] at efr eps
    have hq : qOf n false = n := by simp [qOf]
    rw [hq] at efr eps ⊢
    simp only [Bool.false_eq_true, if_false] at efr eps
    have hkkP : kkT n e p oct kk (keptT e p oct).length = kkP kk n p (keptT e p oct) := funext fun x => kkT_eq rfl
    rw [hkkP] at hs hn ⊢
    have hrn : Rn (kkP kk n p (keptT e p oct)) n (psA n p ps false (letIn e p oct)) := by
      unfold psA
      rw [letIn_kept]
      by_cases c : keptT e p oct = []
      · rw [if_neg fun h => h.2 c, c]
        exact h.rn.congr fun x hx => by unfold kkP; rw [if_neg]; simp; omega
      · rw [if_pos ⟨rfl, c⟩]
        exact put_rn h.rn
    obtain ⟨t1, t2, t3⟩ := take_rn hrn
    rw [← efr] at t1 t2 t3
    rw [← eps] at t3
    generalize hK : kkP kk n p (keptT e p oct) = K at *
    have hnn : n' = n + fr.length := by
      rcases Int.lt_trichotomy n' (n + fr.length) with c | c | c
      · obtain ⟨b, _, e⟩ := t1.known n0 c
        rw [hn] at e; cases e
      · exact c
      · have := hs _ (by omega) c
        rw [t2] at this; cases this
    have hKe : ∀ x, x < n → K x = kk x := fun x hx => by rw [← hK]; unfold kkP; rw [if_neg (by omega)]
    have hfar : ∀ x, N ≤ x → K x = none := fun x hx => by rw [← hK]; unfold kkP; rw [if_neg (by omega)]; exact h.far x hx
    have hedge : ∀ x, e ≤ x → K x = none := fun x hx => by rw [← hK]; unfold kkP; rw [if_neg (by omega)]; exact h.edge x hx
    subst hnn
    have hrl := h.rl
    have hr1 := h.r1
    have hend : fr.length = 0 ∨ (n + fr.length ≤ N ∧ n + fr.length ≤ e) := by
      rcases Nat.eq_zero_or_pos fr.length with c | c
      · exact .inl c
      · right
        obtain ⟨b, _, eb⟩ := t1.known (x := n + fr.length - 1) (by omega) (by omega)
        constructor
        · rcases Int.lt_or_le (n + fr.length - 1) N with q | q
          · omega
          · rw [hfar _ q] at eb; cases eb
        · rcases Int.lt_or_le (n + fr.length - 1) e with q | q
          · omega
          · rw [hedge _ q] at eb; cases eb
    refine ⟨by omega, ?_, ?_, rfl⟩
    · refine { r0 := h.r0, r1 := by omega, ne := by have := h.ne; omega, eb := h.eb, nN := by have := h.nN; omega, N40 := h.N40, o1 := h.o1, o2 := h.o2, rl := by rw [List.length_append]; omega, rc := ?_, far := hfar, edge := hedge, rn := t3, nn := t2, fn := finT_or h hN, fo := by rw [Bool.false_or] }
      refine Has.append (h.rc.congr fun x x1 x2 => ?_) ?_
      · exact (hKe x (by omega)).symm
      · rw [show rdp + (rd.length : Int) = n by omega]; exact t1
    · unfold qOf
      simp only [Bool.not_false, Bool.true_and, Bool.false_or]

theorem psA_rn (h : Sy kk n rdp e N room fin ov ps rd) (pN : p + oct.length ≤ N) (hov : ov = false) :
    Rn (kkP kk n p (keptT e p oct)) n (psA (qOf n ov) p ps ov (letIn e p oct)) ∧ ∀ x, N ≤ x → kkP kk n p (keptT e p oct) x = none := by
  have hkl : (keptT e p oct).length ≤ oct.length := cut_length _ _ _
  have hq : qOf n ov = n := by simp [qOf, hov]
  refine ⟨?_, fun x hx => by unfold kkP; rw [if_neg (by omega)]; exact h.far x hx⟩
  rw [hq, hov]
  unfold psA
  rw [letIn_kept]
  by_cases c : keptT e p oct = []
  · rw [if_neg fun h => h.2 c, c]
    exact h.rn.congr fun x hx => by unfold kkP; rw [if_neg]; simp; omega
  · rw [if_pos ⟨rfl, c⟩]
    exact put_rn h.rn
theorem psA_bound (h : Sy kk n rdp e N room fin ov ps rd) (pN : p + oct.length ≤ N) :
    (∀ x ∈ psA (qOf n ov) p ps ov (letIn e p oct), 0 ≤ x.1 - qOf n ov ∧ x.1 - qOf n ov < 128) ∧ (psA (qOf n ov) p ps ov (letIn e p oct)).length ≤ 100 ∧ (∀ x ∈ psA (qOf n ov) p ps ov (letIn e p oct), x.2.length ≤ 100) ∧
      ((if ov then [] else (takeD (qOf n ov) (psA (qOf n ov) p ps ov (letIn e p oct))).1).length ≤ 40) := by
  have hN40 := h.N40
  have hr0 := h.r0
  have hr1 := h.r1
  cases hov : ov with
  | true =>
    obtain ⟨_, _, hps⟩ := h.ovN hov
    have : psA (qOf n true) p ps true (letIn e p oct) = [] := by rw [hps]; exact if_neg fun h => by cases h.1
    rw [this]
    exact ⟨fun x hx => (nomatch hx), Nat.zero_le _, fun x hx => (nomatch hx), Nat.zero_le _⟩
  | false =>
    obtain ⟨h1, h2⟩ := psA_rn h pN hov
    rw [hov] at h1
    obtain ⟨b1, b2, b3⟩ := h1.bound h2 h.nN
    have hq : qOf n false = n := by simp [qOf]
    rw [hq] at h1 b1 b2 b3 ⊢
    refine ⟨fun x hx => ?_, by omega, fun x hx => ?_, ?_⟩
    · have := b3 x hx; omega
    · have := b3 x hx; omega
    · simp only [Bool.false_eq_true, if_false]
      have : ∀ (l : PL), (takeD n l).1 = [] ∨ ∃ x ∈ l, (takeD n l).1 = x.2 := fun l => by
        cases l with
        | nil => exact .inl rfl
        | cons x l =>
          obtain ⟨a, d⟩ := x
          by_cases c : a = n
          · exact .inr ⟨_, .head _, by rw [show takeD n ((a, d) :: l) = (d, l) from if_pos c]⟩
          · exact .inl (by rw [show takeD n ((a, d) :: l) = ([], (a, d) :: l) from if_neg c])
      rcases this (psA n p ps false (letIn e p oct)) with c | ⟨x, hx, c⟩
      · rw [c]; simp
      · rw [c]; have := b3 x hx; omega
theorem hah_of (h : Sy kk n rdp e N room fin ov ps rd) (p0 : 0 ≤ p) (pN : p + oct.length ≤ N) (hN : hf = true → p + oct.length = N) :
    ∀ fp, finA (qOf n ov) e p oct hf fin = some fp → (-128 < p - fp ∧ p - fp < 128) ∧ (if p < fp then cut (letIn e p oct) none (some (fp - p)) else []) = letIn e p oct := by
  intro fp hfp
  rw [finA_eq h pN hN] at hfp
  have hN40 := h.N40
  have hfN : fp = N := by
    rcases finT_or (e := e) (p := p) (oct := oct) h hN with c | c
    · rw [c] at hfp; cases hfp
    · rw [c] at hfp; injection hfp with hfp; exact hfp.symm
  subst hfN
  have hl : (letIn e p oct).length ≤ oct.length := by rw [letIn_kept]; exact cut_length _ _ _
  refine ⟨by omega, ?_⟩
  split
  · unfold cut
    exact List.take_of_length_le (by simp only [Option.getD_some, Option.getD_none, List.length_drop]; omega)
  · have : (letIn e p oct).length = 0 := by omega
    exact (List.length_eq_zero_iff.mp this).symm
end
end
section
section
variable {prog : Program} {w : World} {A : Around} {E : Value → Shared → Prop} {K : Frag} {g : Heap} {L : Addr} {o : OsState} {s : Shared} {m : Str → Option Value} {l : LL} {news : List (Addr × Obj)} {env : Env} {D D2 a : Addr} {vs vs2 : List Value} {n n2 : Nat}
theorem Room.in1 {k : Nat} (h : Room A (k + 1)) : Room A.in1 k := ⟨by have := h.d; show A.depth + (k : Nat) < 1000; omega, by have := h.u; show A.units + _ + 20 * k < 9900; omega, h.hh⟩
theorem range_true (n : Nat) : (List.range n).all (fun _ => true) = true := by simp
theorem xNeIB {x : Int} {b : Bool} {t u : Tok} {Q : Value → Shared → Prop} (C : Cx K g L o s m news) (h1 : (D, lstO [.int x t, .bool b] n) ∈ news) (h2 : (D2, lstO [.int x u, .bool b] n2) ∈ news) (hA : Room A 1) (h : Q (.bool false) s) : wpAny (model prog w) A (compareOp .NotEq (.ref D) (.ref D2)) Q E s := by
  have hu : A.units < cLine := by have := hA.u; show A.units < 9900; omega
  show wpAny _ _ (richCompare .NotEq _ _) _ _ _
  refine SeqAt.RcNeAt.lists (e := fun _ => true) (C.isList h1) (C.isList h2) rfl hu (fun j h1 h2 => ?_) prog w E Q h
  match j, h1, h2 with
  | 0, _, _ => have := SeqAt.EqAt.int_int (A := A.in1) (s := s) x t x u; rw [beq_self_eq_true] at this; exact this
  | 1, _, _ => exact SeqAt.EqAt.same _
theorem xEqPairs {l : List (Int × Int)} {Q : Value → Shared → Prop} (C : Cx K g L o s m news) (h1 : (D, lstO vs n) ∈ news) (h2 : (D2, lstO vs2 n2) ∈ news) (P : PairsIn news vs l) (P2 : PairsIn news vs2 l) (hA : Room A 3) (h : Q (.bool true) s) : wpAny (model prog w) A (compareOp .Eq (.ref D) (.ref D2)) Q E s := by
  have hu : A.units < cLine := by have := hA.u; show A.units < 9900; omega
  refine SeqAt.eq_listAt (e := fun _ => true) (C.isList h1) (C.isList h2) (by simp [P.length, P2.length]) hu (fun j k1 k2 => ?_) (by rw [range_true]; exact h)
  have key : ∀ {vs : List Value} {l : List (Int × Int)}, PairsIn news vs l → ∀ (j : Nat) (h : j < vs.length), ∃ a q d t u, vs[j] = .ref a ∧ (a, tupO [.int q t, .int d u]) ∈ news ∧ l[j]? = some (q, d) := by
    intro vs l P
    induction P with
    | nil => intro j h; cases h
    | @cons a q d t u vs ps hm _ ih =>
      intro j h
      cases j with
      | zero => exact ⟨a, q, d, t, u, rfl, hm, rfl⟩
      | succ j => simpa using ih j (by simpa using h)
  obtain ⟨a, q, d, t, u, e1, m1, l1⟩ := key P j (by simpa using k1)
  obtain ⟨b, q', d', t', u', e2, m2, l2⟩ := key P2 j (by simpa using k2)
  rw [l1] at l2
  cases l2
  simp only [List.getElem_toArray, e1, e2]
  by_cases c : a = b
  · subst c; exact SeqAt.EqAt.same _
  · have hu2 : A.in1.units < cLine := by show A.in1.units < 9900; have := (hA.in1 (k := 2)).u; omega
    have R := SeqAt.RcAt.tuples (A := A.in1) (e := fun _ => true) (l := a) (b := b) ⟨_, C.get m1, rfl, 0, rfl⟩ ⟨_, C.get m2, rfl, 0, rfl⟩ hu2 (fun j h1 h2 => by
      match j, h1, h2 with
      | 0, _, _ => have := SeqAt.EqAt.int_int (A := A.in1.in1) (s := s) q t q t'; rw [beq_self_eq_true] at this; exact this
      | 1, _, _ => have := SeqAt.EqAt.int_int (A := A.in1.in1) (s := s) d u d u'; rw [beq_self_eq_true] at this; exact this)
    exact SeqAt.EqAt.of_refs c R
theorem xUnp3 {x y z : Value} {n1 n2 n3 : Str} {p1 p2 p3 pos : Pos} {k : Nat} {Q : Unit → Shared → Prop} (C : Cx K g L o s m news) (hm : (a, tupO [x, y, z]) ∈ news) (hh : A.handled = none)
    (h : ∀ s', Cx K g L o s' m news → wpAny (model prog w) A (storeName env n1 x) (fun _ s₁ => wpAny (model prog w) A (storeName env n2 y) (fun _ s₂ => wpAny (model prog w) A (storeName env n3 z) Q E s₂) E s₁) E s') :
    wpAny (model prog w) A (assign (.Tuple [.Name n1 p1, .Name n2 p2, .Name n3 p3] k pos) env (.ref a)) Q E s := by
  refine unpackN_ C.fr C.nw (C.isTup hm) hh rfl rfl fun h' F N => ?_
  have h := h _ (C.mk0 F N C.nd)
  show wpAny _ _ (do holding [y, z] (assign (.Name n1 p1) env x); assignInOrder [fun v => assign (.Name n2 p2) env v, fun v => assign (.Name n3 p3) env v] [y, z]) _ _ _
  refine wpAny_bind (wpAny_holding (assign_Name (wpAny_mono h (fun _ s₁ h₁ => ?_) fun _ _ e => e)))
  show wpAny _ _ (do holding [z] (assign (.Name n2 p2) env y); assignInOrder [fun v => assign (.Name n3 p3) env v] [z]) _ _ _
  refine wpAny_bind (wpAny_holding (assign_Name (wpAny_mono h₁ (fun _ s₂ h₂ => ?_) fun _ _ e => e)))
  show wpAny _ _ (do holding [] (assign (.Name n3 p3) env z); assignInOrder [] []) _ _ _
  exact wpAny_bind (wpAny_holding (assign_Name (wpAny_mono h₂ (fun _ s₃ h₃ => wpAny_pure h₃) fun _ _ e => e)))
end
end
section
section
variable {prog : Program} {w : World} {M : Model} {A : Around} {E : Value → Shared → Prop} {K : Frag} {g : Heap} {L : Addr} {o : OsState} {s : Shared} {m : Str → Option Value} {news : List (Addr × Obj)} {env : Env} {rest body : List Stmt} {pos : Pos} {target iter : Expr} {a : Int}
theorem wpX_forLoop {R : Result → Shared → Prop} {it : Value} (I : Nat → Shared → Prop)
    (turn : ∀ n s, I n s → wpAny (model prog w) A (pyNext it) (fun r s₁ => match r with
      | none => R (.ok .next) s₁
      | some v => wpAny (model prog w) A (letOwnedTupleGo target it v) (fun _ s₁' => wpAny (model prog w) A (assign target env v) (fun _ s₂ => wpX (model prog w) A (execs body env) (fun f s₃ => match f with
        | .next | .cont => ∃ m, m < n ∧ I m s₃
        | .brk => R (.ok .next) s₃
        | .ret v => R (.ok (.ret v)) s₃) (fun _ _ => False) s₂) (fun _ _ => False) s₁') (fun _ _ => False) s₁) (fun _ _ => False) s)
    (n : Nat) (h : I n s) : codeX (model prog w) A (.forLoop target it body [] env) R s := by
  refine codeX_loop rfl rfl I (fun n s hI => ?_) n h
  rw [Around.under_of_weight rfl]
  show wpX _ A ((forTurn target it body [] env).onRaise (fun x => do noteFrame x env; theTreesLotGoes x)) _ _ s
  refine wpX_onRaise (wpX_mono (E := fun _ _ => False) (Q := fun fin s' => match fin with
        | .done f => R (.ok f) s'
        | .again c' => (c' = .forLoop target it body [] env ∧ ∃ m, m < n ∧ I m s') ∨ (c'.quiet = true ∧ codeX (model prog w) A c' R s')) ?_ (fun _ _ h => h) fun _ _ e => e.elim)
  simp only [forTurn]
  refine wpX_bind (xa (wpAny_standAt (wpX_bind (wpX_onRaise (wpX_mono (xa (turn n s hI)) (fun r s₁ h₁ => ?_) fun _ _ h' => h'.elim)))))
  cases r with
  | none =>
    refine wpX_pure (.inr ⟨rfl, cxa (codeAny_block (wpAny_execs_nil h₁))⟩)
  | some v =>
    refine wpX_bind (wpX_mono (xa h₁) (fun _ s₁' h₁' => ?_) fun _ _ h' => h')
    refine wpX_bind (wpX_mono (xa h₁') (fun _ s₂ h₂ => wpX_bind (wpX_mono h₂ (fun f s₃ h₃ => ?_) fun _ _ h' => h')) fun _ _ h' => h')
    cases f with
    | next => exact wpX_pure (.inl ⟨rfl, h₃⟩)
    | cont => exact wpX_pure (.inl ⟨rfl, h₃⟩)
    | brk => exact wpX_pure h₃
    | ret v => exact wpX_pure h₃
theorem sForRX {m0 : Str → Option Value} {led0 : List (Addr × Obj)} {s0 : Shared} {Q : Flow → Shared → Prop} (C0 : Cx K g L o s0 m0 led0) (J : Nat → (Str → Option Value) → List (Addr × Obj) → Prop) (hh : A.handled = none) (ha : 0 ≤ a) (ha2 : a ≤ 1000000)
    (h : ∀ QI : Value → Shared → Prop, (∀ D t1 t2 t3 N m led s₁, N ≤ 1000 → Cx K g L o s₁ m ((D, rangeO a (a + (N : Nat)) t1 t2 t3) :: led) → J 0 m led → QI (.ref D) s₁) → wpAny (model prog w) A (eval iter env) QI (fun _ _ => False) s)
    (turn : ∀ (i : Nat) I ob (QB : Flow → Shared → Prop), (∀ f m' led' s₃, f = .next ∨ f = .cont → Cx K g L o s₃ m' ((I, ob) :: led') → J (i + 1) m' led' → QB f s₃) → (∀ s₃, wpX (model prog w) A (execs rest env) Q (fun _ _ => False) s₃ → QB .brk s₃) → (∀ v s₃, Q (.ret v) s₃ → QB (.ret v) s₃) →
      ∀ t m led s, i < 1000 → J i m led → Cx K g L o s m ((I, ob) :: led) →
      wpAny (model prog w) A (assign target env (.int (a + i) t)) (fun _ s₂ => wpX (model prog w) A (execs body env) QB (fun _ _ => False) s₂) (fun _ _ => False) s)
    (done : ∀ N m led s, J N m led → Cx K g L o s m led → wpX (model prog w) A (execs rest env) Q (fun _ _ => False) s)
    (hs : ∀ x, foldedSetIterable iter env x = pure x := by intro _; with_unfolding_all exact rfl) (ht : ∀ (I : Addr) (v : Value) (s : Shared) (Q : Unit → Shared → Prop), Q () s → wpAny (model prog w) A (letOwnedTupleGo target (.ref I) v) Q (fun _ _ => False) s := by exact fun _ _ _ _ h2 => wpAny_pure h2) :
    wpX (model prog w) A (execs (.For target iter body [] pos :: rest) env) Q (fun _ _ => False) s := by
  refine wpX_execs_cons ?_
  rw [exec_For]
  refine wpX_bind (xa (wpAny_standAt (wpX_bind (wpX_mono (xa (h (fun xv s₁ => ∃ D t1 t2 t3 N m led, N ≤ 1000 ∧ xv = .ref D ∧ Cx K g L o s₁ m ((D, rangeO a (a + (N : Nat)) t1 t2 t3) :: led) ∧ J 0 m led) fun D t1 t2 t3 N m led s₁ h1 h2 h3 => ⟨D, t1, t2, t3, N, m, led, h1, rfl, h2, h3⟩)) (fun xv s₁ h₁ => ?_) fun _ _ e => e))))
  rw [hs]
  refine wpX_bind (wpX_pure (wpX_bind (xa (wpAny_standAt (wpX_bind (xa (wpAny_holding ?_)))))))
  obtain ⟨D, t1, t2, t3, N, m, led, hN, rfl, C, hJ⟩ := h₁
  refine wpAny_pyIter_range (a := a) (b := a + N) (c := 1) (C.get (.head _)) (small_one (by omega) (by omega) (by omega) (by omega)) ?_
  have C₁ := C.drop1.push (tk := s₁.toks) (rngI a (Builtin.Range.rangeSize a (a + N) 1))
  unfold runOwn
  refine wpX_onRaise (wpX_run ?_)
  refine wpX_forLoop (fun k s => ∃ i m led, k = N + 1 - i ∧ i ≤ N ∧ Cx K g L o s m ((s₁.heap.objs.size, rngI (a + (i : Nat)) (((N - i : Nat)) : Int)) :: led) ∧ J i m led) ?_
    (N + 1) ⟨0, m, led, rfl, Nat.zero_le _, ?_, hJ⟩
  rotate_left
  · rw [rangeSize_nat] at C₁
    have e1 : a + ((0 : Nat) : Int) = a := by omega
    rw [e1, rangeSize_nat]; exact C₁
  rintro k s ⟨i, m, led, rfl, hi, C, hJ⟩
  by_cases hlt : i < N
  · refine wpAny_pyNext_range_item (C.get (.head _)) (by omega) fun h' hit' hs' => ?_
    have C' : Cx K g L o { s with heap := h', toks := s.toks + 1 } m ((s₁.heap.objs.size, rngI (a + ((i + 1 : Nat))) (((N - (i + 1) : Nat)) : Int)) :: led) := by
      refine C.but .head hs' ?_
      have e1 : a + (i : Int) + 1 = a + ((i + 1 : Nat) : Int) := by omega
      have e2 : ((N - i : Nat) : Int) - 1 = ((N - (i + 1) : Nat) : Int) := by omega
      rw [e1, e2] at hit'
      exact hit'
    refine ht _ _ _ _ ?_
    refine wpAny_mono (turn i _ _ (fun f s₃ => match f with
        | .next | .cont => ∃ m' led', Cx K g L o s₃ m' ((s₁.heap.objs.size, rngI (a + ((i + 1 : Nat))) (((N - (i + 1) : Nat)) : Int)) :: led') ∧ J (i + 1) m' led'
        | .brk => wpX (model prog w) A (execs rest env) Q (fun _ _ => False) s₃
        | .ret v => Q (.ret v) s₃) (fun f m' led' s₃ hf h1 h2 => by rcases hf with rfl | rfl <;> exact ⟨m', led', h1, h2⟩) (fun _ h => h) (fun _ _ h => h) _ m led _ (by omega) hJ C') (fun _ s₂ h₂ => wpX_mono h₂ (fun f s₃ h₃ => ?_) fun _ _ e => e) fun _ _ e => e
    cases f with
    | next => obtain ⟨m', led', C'', hJ'⟩ := h₃; exact ⟨N + 1 - (i + 1), by omega, i + 1, m', led', rfl, hlt, C'', hJ'⟩
    | cont => obtain ⟨m', led', C'', hJ'⟩ := h₃; exact ⟨N + 1 - (i + 1), by omega, i + 1, m', led', rfl, hlt, C'', hJ'⟩
    | brk => exact h₃
    | ret v => exact h₃
  · have hin : i = N := by omega
    subst hin
    refine wpAny_pyNext_range_end hh (C.get (.head _)) (by omega) fun h' he' => ?_
    exact done i m led _ hJ (C.lose (tk := s.toks) he')
/-- if not CALL, where the call says yes -/
theorem sIfNotX {e : Expr} {p1 : Pos} {Q : Flow → Shared → Prop} (h : wpX M A (eval e env) (fun v s' => v = .bool true ∧ wpX M A (execs rest env) Q E s') E s)
    (he : isTrue e env (eval e env) = (do let v ← eval e env; standAt e.pos; holding [v] (truthy v)) := by with_unfolding_all exact rfl) :
    wpX M A (execs (.If (.UnaryOp .Not e p1) body [] pos :: rest) env) Q E s := by
  refine wpX_execs_cons ?_
  rw [exec_If]
  refine wpX_bind (xa (wpAny_standAt (wpX_bind ?_)))
  show wpX M A (do return !(← isTrue e env (eval e env))) _ _ _
  rw [he]
  refine wpX_bind (wpX_bind (wpX_mono h (fun v s' h' => ?_) fun _ _ x => x))
  obtain ⟨rfl, h'⟩ := h'
  refine wpX_bind (xa (wpAny_standAt (xa (wpAny_holding (wpAny_truthy_bool (wpX_pure ?_))))))
  simp only [Bool.not_true, Bool.false_eq_true, if_false]
  exact xa (wpAny_execs_nil h')
theorem wpX_spliced_cons {x : Sem Value} {rest : List (Bool × Sem Value)} {Q : List Value → Shared → Prop}
    (h : wpX M A x (fun v s₁ => wpX M A (spliced rest) (fun vs s₂ => Q (v :: vs) s₂) E s₁) E s) : wpX M A (spliced ((false, x) :: rest)) Q E s := by
  rw [spliced]
  refine wpX_bind (wpX_mono h (fun v s₁ h₁ => ?_) fun _ _ x => x)
  simp only [Bool.false_eq_true, if_false]
  exact wpX_bind (wpX_pure (wpX_bind (wpX_holding (wpX_mono h₁ (fun vs s₂ h₂ => wpX_pure h₂) fun _ _ x => x))))
/-- a, b = X, y -/
theorem sAsgWX {elts : List Expr} {k : Nat} {tpos vpos : Pos} {e : Expr} {es : List Expr} {k2 : Nat} {names : List Str} {Q : Flow → Shared → Prop}
    (hw : swappedStores [.Tuple elts k tpos] (.Tuple (e :: es) k2 vpos) env = pure (some names))
    (h : wpX M A (eval e env) (fun v s₁ => wpAny M A (spliced (backTo vpos (starEach es env))) (fun vs s₂ => wpAny M A (newTuple (v :: vs)) (fun v s₁ => wpAny M A (unpackItems v names.length none) (fun items s₂ => wpAny M A (assignInOrder (names.reverse.map fun n => bindName env n) items.reverse) (fun _ s' => wpX M A (execs rest env) Q E s') E s₂) E s₁) E s₂) E s₁) E s)
    (he : starEach (e :: es) env = (false, eval e env) :: starEach es env := by with_unfolding_all exact rfl)
    (hs : swapsWithSole [.Tuple elts k tpos] (.Tuple (e :: es) k2 vpos) pos.line env = pure false := by with_unfolding_all exact rfl) :
    wpX M A (execs (.Assign [.Tuple elts k tpos] (.Tuple (e :: es) k2 vpos) pos :: rest) env) Q E s := by
  refine wpX_execs_cons ?_
  rw [exec_Assign]
  refine wpX_bind (xa (wpAny_standAt ?_))
  rw [hs]
  refine wpX_bind (wpX_pure ?_)
  rw [if_neg (by decide)]
  refine wpX_bind ?_
  show wpX M A (do standAt vpos; newTuple (← spliced (backTo vpos (starEach (e :: es) env)))) _ _ _
  refine wpX_bind (xa (wpAny_standAt (wpX_bind ?_)))
  rw [he]
  refine wpX_spliced_cons (wpX_mono (E := E) h (fun v s₁ h₁ => ?_) fun _ _ e => e)
  refine xa (wpAny_mono h₁ (fun vs s₂ h₂ => ?_) fun _ _ e => e)
  refine xa (wpAny_mono h₂ (fun v s₁ h₁ => ?_) fun _ _ e => e)
  rw [hw]
  refine wpX_bind (wpX_pure ?_)
  show wpX M A (do rule "assign.swapped-stores"; let items ← unpackItems v names.length none; assignInOrder (names.reverse.map fun n => bindName env n) items.reverse; pure Flow.next : Sem Flow) _ _ s₁
  exact wpX_bind (xa (wpAny_rule (wpX_bind (xa (wpAny_mono h₁ (fun items s₂ h₂ => wpX_bind (xa (wpAny_mono h₂ (fun _ _ x => wpX_pure x) fun _ _ x => x))) fun _ _ x => x)))))
end
end
section
section
variable {prog : Program} {w : World} {A : Around} {E : Value → Shared → Prop} {K : Frag} {g : Heap} {L : Addr} {o : OsState} {s : Shared} {m : Str → Option Value} {l : LL} {news : List (Addr × Obj)} {env : Env} {rest : List Stmt} {a : Int} {d : Addr} {ob : Obj}
  {elt iter : Expr} {x y : Str} {px py : Pos} {scope : Scope} {cl : List (Str × Addr)} {pos spos : Pos} {G : Int → Value → Prop}
theorem xDictE {Q : Value → Shared → Prop} (C : Cx K g L o s m news) (h : ∀ D ob s', (D == sysModules) = false → ob.IsDictOf (PySem.strKind prog w) [] → ob.IsDictOf (PySem.intKind prog w) [] → Cx K g L o s' m ((D, ob) :: news) → Q (.ref D) s') :
    wpAny (model prog w) A (eval (.Dict [] [] pos) env) Q E s := by
  obtain ⟨_, _, _, _, T⟩ := C.st.t
  exact newDict_K C.fr C.nw T.nolimit fun d h' o F' N' l1 lo h1 _ h2 _ => h d o _ lo h1 h2 (C.mk0 F' N' (nodup_cons_lt l1 C.nd))
theorem xDictS {keys : List (Option PySem.Expr)} {values : List PySem.Expr} {Q : Value → Shared → Prop} (C : Cx K g L o s m news)
    (hall : keys.all (·.isSome) = true) (hl : keys.length = values.length) (h0 : keys ≠ []) (hlen : keys.length ≤ 15)
    (h : ∀ d ob s', Cx K g L o s' m ((d, ob) :: news) → ob.IsDictOf (PySem.strKind prog w) [] → wpAny (model prog w) A (evalPairs (pairTrees keys values env pos)) (fun vs s₁ => KdnMade prog w (PySem.strKind prog w) d Q vs s₁) E s') :
    wpAny (model prog w) A (eval (.Dict keys values pos) env) Q E s := by
  obtain ⟨_, _, _, _, T⟩ := C.st.t
  exact kdn_eval C.fr C.nw T.nolimit hall hl h0 hlen fun d h' o F' N' l1 lo hd => h d o _ (C.mk0 F' N' (nodup_cons_lt l1 C.nd)) hd
theorem xMade {vs : List (Value × Value)} {pairs : List (Str × Value)} {Q : Value → Shared → Prop} {post : List (Addr × Obj)} (pre : List (Addr × Obj)) (C : Cx K g L o s m (pre ++ (d, ob) :: post)) (hd : ob.IsDictOf (PySem.strKind prog w) []) (hk : allStrKeys vs = true) (hp : strPairs vs = pairs) (hn : (pairs.map (·.1)).Nodup)
    (h : ∀ ob' s', Cx K g L o s' m (pre ++ (d, ob') :: post) → ob'.IsDictOf (PySem.strKind prog w) pairs → Q (.ref d) s') : KdnMade prog w (PySem.strKind prog w) d Q vs s := by
  obtain ⟨g', U, hU⟩ := updF_of C.nd (List.mem_append_right _ (.head _))
  refine kdn_made_str C.fr C.nw U hd hk (hp ▸ hn) fun h' o' F N hd' => ?_
  have e := At.midE C.nd (hU o')
  have nd : ((g' o').map (·.1)).Nodup := by rw [(hU o').map]; exact C.nd
  have C' := C.mk' (tk := s.toks + vs.length) F N nd
  rw [e] at C'
  exact h _ _ C' (hp ▸ hd')
theorem xCompR2 {P : Nat → List (Addr × Obj) → Prop} {s0 : Shared} (C0 : Cx K g L o s0 m news) {Q : Value → Shared → Prop} (hh : A.handled = none) (ha : 0 ≤ a) (ha2 : a ≤ 1000000)
    (hclos : closureFor scope env = pure cl) (hcell : ∀ z ∈ scope.names, z.2 ≠ .cell) (hkind : scope.kind = .function)
    (hnames : ∀ z ∈ scope.names, z.2 = .local → scope.names.lookup z.1 = some .local) (hx : scope.names.lookup x = some .local)
    (hs : ∀ x, foldedSetIterable iter env x = pure x)
    (h : ∀ QI : Value → Shared → Prop, (∀ D t1 t2 t3 N news s₁, N ≤ 1000 → Cx K g L o s₁ m ((D, rangeO a (a + (N : Nat)) t1 t2 t3) :: news) → P N news → QI (.ref D) s₁) → wpAny (model prog w) A (eval iter env) QI E s)
    (helt : ∀ (i : Nat) t C s₃ m₃ E', i < 1000 → s₃.heap.Ns C m₃ → m₃ x = some (.int (a + i) t) → wpAny (model prog w) A (eval elt (compEnvC scope cl C env)) (fun v s₄ => G (a + i) v ∧ Keeps s₃ s₄) E' s₃)
    (k : ∀ N D ys n news s', P N news → N ≤ 1000 → ys.length = N → (∀ (j : Nat) v, ys[j]? = some v → G (a + j) v) → Cx K g L o s' m ((D, lstO ys n) :: news) → Q (.ref D) s') :
    wpAny (model prog w) A (eval (.ListComp elt [⟨.Name x px, iter, [], 0⟩] scope pos) env) Q E s := by
  refine wpAny_ListComp_free (fun _ => true) (fun v y => ∀ z t, v = .int z t → G z y) hclos hcell hkind hnames hx (wpAny_mono (h (fun xv s₁ => ∃ D t1 t2 t3 N news, N ≤ 1000 ∧ xv = .ref D ∧ Cx K g L o s₁ m ((D, rangeO a (a + (N : Nat)) t1 t2 t3) :: news) ∧ P N news) fun D t1 t2 t3 N news s₁ h1 h2 h3 => ⟨D, t1, t2, t3, N, news, h1, rfl, h2, h3⟩) (fun xv s₁ h₁ => ?_) fun _ _ e => e) hs
  obtain ⟨D, t1, t2, t3, N, news, hN, rfl, C, hP9⟩ := h₁
  refine wpAny_pyIter_range (a := a) (b := a + N) (c := 1) (C.get (.head _)) (small_one (by omega) (by omega) (by omega) (by omega)) ?_
  have C₁ := C.drop1.push (tk := s₁.toks) (rngI a (Builtin.Range.rangeSize a (a + N) 1))
  rw [rangeSize_nat] at C₁ ⊢
  refine ⟨s₁.heap.objs.size, _, _, N, _, _, rfl, Walks.bound (Walks.range hh s₁.heap.objs.size a 1 N), by rw [sizeLine_eq]; omega, ?_, ?_, ⟨?_, ?_⟩, ?_⟩
  · have := C₁.get (.head _)
    have e1 : a + ((0 : Nat) : Int) * 1 = a := by omega
    rw [e1]
    exact this
  · intro b hb; simp at hb; subst hb; exact C₁.lt _ (.head _)
  · intro C i v s₃ m₃ E' _ _ _ _ _ _
    exact wpAny_pure ⟨rfl, s₃.heap, s₃.toks, rfl, fun _ _ e => e⟩
  · intro C' i v s₃ m₃ E' _ hv _ hn hm hk _
    obtain ⟨hi, t, rfl⟩ := hv
    rw [show a + (i : Int) * 1 = a + i by omega] at hm
    refine wpAny_mono (helt i t C' s₃ m₃ E' (by omega) hn hm) (fun v s₄ h₄ => ⟨fun z t' e => ?_, h₄.2⟩) fun _ _ e => e
    cases e
    rw [show a + (i : Int) * 1 = a + i by omega]
    exact h₄.1
  · intro D' h' tk ys vs hD hl hpl hlen hP hF hk
    obtain ⟨n', hpl⟩ := hpl
    have C₂ := Cx.lose (tk := tk) C₁ fun b ob h2 e => hk b ob (by simpa using h2) e
    have hf : (vs.filter fun _ => true) = vs := List.filter_eq_self.mpr fun _ _ => rfl
    rw [hf] at hF
    refine k N D' ys.toList n' news _ hP9 hN (by rw [← hF.length, hlen]) (fun j v hv => ?_) ?_
    · obtain ⟨u, hu, hG⟩ := paired_get hF hv
      obtain ⟨hj, t, rfl⟩ := hP j u hu
      have := hG _ _ rfl
      rw [show a + (j : Int) * 1 = a + j by omega] at this
      exact this
    · exact Cx.add (D := D') (ob := lstO ys.toList n') C₂ _ hD (by obtain ⟨x, _, _, hx, _⟩ := C₁.fr.ns; exact ⟨x, hx⟩) (fun b x e => ⟨_, C₁.fr.keep b x e⟩) (fun p hp => ⟨_, C₁.get (.tail _ hp)⟩) (by rw [hpl])
end
end
section
section
variable {prog : Program} {w : World} {A : Around} {K : Frag} {g : Heap} {s : Shared} {news : List (Addr × Obj)} {R : Result → Shared → Prop}
/-- a def called where no frame stands -/
theorem call_entry {name qual : Str} {params : Arguments} {body body' : List Stmt} {scope scope' : Scope} {dV kV doc pm cdv ct oc : Value} {an od : Option Addr} {osl : Array (Option Value)} {f : Addr} {args : Args} (binds l : List (Str × Value))
    (hst : Stat K g) (hkp : ∀ b ob, g.get? b = some ob → s.heap.get? b = some ob) (hnw : ∀ p ∈ news, s.heap.get? p.1 = some p.2 ∧ g.get? p.1 = none) (hnd : (news.map (·.1)).Nodup) (hgn : s.gens = #[]) (hroom : A.depth < 1000)
    (ho : K.lookup f = some ⟨oc, od, .func (fnOf name qual params body scope dV kV doc pm an cdv ct), osl⟩) (hcd : codeIn K cdv qual = true)
    (hbind : BindsTo s (fnOf name qual params body scope dV kV doc pm an cdv ct) args binds) (hloc : (binds.all fun x => decide (scope.names.lookup x.1 = some .local)) = true)
    (hl : binds.reverse = l)
    (h : ∀ g' L' s' o, Cx K g' L' o s' (lk l) news → (∀ s'' m'' news'', Cx K g' L' o s'' m'' news'' → (∀ b ob, g.get? b = some ob → s''.heap.get? b = some ob) ∧ s''.gens = #[] ∧ s''.os = s.os) →
      wpX (model prog w) (A.deeper (envOf qual scope' L' f cdv)) (execs body' (envOf qual scope' L' f cdv)) (fun fl s'' => R (.ok (.ret (retOf fl))) s'') (fun _ _ => False) s')
    (eb : body = body' := by with_unfolding_all (conv => lhs; whnf) <;> exact rfl) (es : scope = scope' := by with_unfolding_all (conv => lhs; whnf) <;> exact rfl)
    (hco : scope'.isCoroutine = false := by rfl) (hgen : scope'.isGenerator = false := by rfl) (hk : scope'.kind = .function := by rfl)
    (hcell : ∀ x ∈ scope'.names, x.2 ≠ .cell := by decide) : codeX (model prog w) A (.call (.ref f) args) R s := by
  subst eb es hl
  have X : K.In s.heap := hst.k.keeps hkp
  obtain ⟨_, _, _, _, T⟩ := hst.t
  refine codeX_call_def (fd := fnOf name qual params body scope dV kV doc pm an cdv ct) (body := body) (binds := binds) hroom (X _ _ ho) rfl (T.nolimit.keeps hkp) (codeRec_of X hcd) rfl hbind hcell (locs hloc) (fun h₁ hns hk₁ => ?_) hco hgen hk
  have nm : ∀ b o, g.get? b = some o → b ∉ news.map (·.1) := fun b o e q => by
    obtain ⟨p, hp, rfl⟩ := List.mem_map.mp q
    rw [(hnw p hp).2] at e; cases e
  have st : g.StaysIn (hideAll s.heap (news.map (·.1))) := fun b o e => hideAll_get _ (hkp b o e) (nm b o e)
  refine h (hideAll s.heap (news.map (·.1))) s.heap.objs.size _ s.os ?_ (fun s'' m'' news'' C' => ⟨fun b o e => C'.fr.keep b o (st b o e), C'.gn, C'.os⟩)
  refine ⟨hst.keeps st, ⟨hns, fun b o e => hk₁ b o (of_hideAll _ e), Nat.le_of_eq (hideAll_size _ _)⟩, ?_, hnd, hgn, rfl⟩
  exact fun p hp => ⟨hk₁ _ _ (hnw p hp).1, Nat.ne_of_lt (Heap.lt_size (hnw p hp).1), hideAll_none _ (List.mem_map_of_mem hp)⟩
end
end
section
variable {prog : Program} {w : World} {A : Around} {g : Heap} {L : Addr} {o : OsState} {s : Shared} {m : Str → Option Value} {news : List (Addr × Obj)} {R : Result → Shared → Prop}
variable {r : RH} {st : RS} {pl : Addr} {vs : List Value} {nl : Nat} {ps : List (Int × List UInt8)} {rd : List UInt8} {own junk : List (Addr × Obj)} {src wd kd : Addr} {S : SV} {wo ko : Obj} {n e rdp first : Int} {ts tn te trd tf tfi tri : Tok} {fin : Option Int} {ov : Bool} {strm : List UInt8} {kvs : List (Int × Value)} {kk : Int → Option UInt8}
theorem holesLoop_congr {f f' r : Int} (h : ∀ p, W f r p = W f' r p) : ∀ {ps : List (Int × List UInt8)} {a : Int} {acc : List (Int × Int)}, holesLoop f r ps a acc = holesLoop f' r ps a acc
  | [], a, acc => rfl
  | (p, d) :: ps, a, acc => by unfold holesLoop; rw [h a]; exact holesLoop_congr h
theorem holesLoop_ge {f r : Int} : ∀ {ps : List (Int × List UInt8)} {a : Int} {acc : List (Int × Int)}, acc.length ≤ (holesLoop f r ps a acc).length
  | [], a, acc => Nat.le_refl _
  | (p, d) :: ps, a, acc => by
    unfold holesLoop
    refine Nat.le_trans ?_ holesLoop_ge
    split <;> simp
theorem holesLoop_nil {kk : Int → Option UInt8} {f r a : Int} {ps : List (Int × List UInt8)} (h : Runs kk a ps) : (holesLoop f r ps a []).isEmpty = ps.isEmpty := by
  cases ps with
  | nil => rfl
  | cons x ps =>
    obtain ⟨p, d⟩ := x
    have h1 := h.1
    unfold holesLoop
    rw [if_pos (by omega)]
    have := @holesLoop_ge f r ps (p + d.length) ([] ++ [(W f r a, p - a)])
    cases e : holesLoop f r ps (p + d.length) ([] ++ [(W f r a, p - a)]) with
    | nil => rw [e] at this; simp at this
    | cons x y => rfl
theorem PairsIn.nil_iff {news : List (Addr × Obj)} {vs ps} (h : PairsIn news vs ps) : vs.isEmpty = ps.isEmpty := by cases h <;> rfl
theorem step_law (C : Cx (KK w) g L o s m (own ++ (src, S.ob) :: (wd, wo) :: (kd, ko) :: junk)) (hA : Room A 14) (hS : S.Ok) (I : RW w own r st pl vs nl ps rd) (HW : wo.IsDictOf (PySem.strKind prog w) (WL (.bytes strm.toArray ts) (.int n tn) (.ref kd) (.int rdp trd) (.int e te) (optV fin tf) (.bool ov)))
    (HK : ko.IsDictOf (PySem.intKind prog w) kvs) (lo : (kd == sysModules) = false) (hI : KIn kvs kk) (hkl : kvs.length ≤ 800000) (hr : 256 ≤ r.a.ring) (hf : ∀ p, W first r.a.ring p = W r.f r.a.ring p)
    (hSy : Sy kk n rdp e strm.length r.room fin ov ps rd) (hq : st.q = qOf n ov) (he : st.e = e) (hfi : st.fin = fin) (hov : st.hf = ov)
    (k : ∀ kk' n' fin' ov' ps' rd' own' st' pl' vs' nl' (S' : SV) wo' ko' kvs' tn' tf' s', S'.Ok → RW w own' r st' pl' vs' nl' ps' rd' → wo'.IsDictOf (PySem.strKind prog w) (WL (.bytes strm.toArray ts) (.int n' tn') (.ref kd) (.int rdp trd) (.int e te) (optV fin' tf') (.bool ov')) →
      ko'.IsDictOf (PySem.intKind prog w) kvs' → KIn kvs' kk' → kvs'.length ≤ kvs.length + 8 → Sy kk' n' rdp e strm.length r.room fin' ov' ps' rd' → st'.q = qOf n' ov' → st'.e = e → st'.fin = fin' → st'.hf = ov' →
      Cx (KK w) g L o s' m (own' ++ (src, S'.ob) :: (wd, wo') :: (kd, ko') :: junk) → R (.ok (.ret (.bool true))) s') :
    codeX (model prog w) A (.call (.ref 331) ⟨[.ref src, .ref r.x, .ref wd, .int first tfi, .int r.a.ring tri], []⟩) R s := by
  refine call_fnX [("source", .ref src), ("receiver", .ref r.x), ("world", .ref wd), ("first", .int first tfi), ("ring", .int r.a.ring tri)] [("ring", .int r.a.ring tri), ("first", .int first tfi), ("world", .ref wd), ("receiver", .ref r.x), ("source", .ref src)] C hA.dep (by rfl) (by rfl) (BindsTo.of_eq rfl) (by rfl) (by rfl) ?_
  clear C
  intro g' L' s' C back
  refine wpX_split (pre := [_, _]) ?_
  have hN40 := hSy.N40
  have hr0 := hSy.r0
  have hnN := hSy.nN
  have hne := hSy.ne
  have heb := hSy.eb
  have ho2 := hSy.o2
  have hr1 := hSy.r1
  have C := C.perm (news' := (src, S.ob) :: (own ++ (wd, wo) :: (kd, ko) :: junk)) List.perm_middle.symm
  wtm_at "g"
  refine segment_law C ((hA.deeper _).le (by decide)) hS (by wtm_at "mm") HW (by omega) (by omega) hnN ?_
  clear C hS
  intro p tp oct to hb tu S s hS p0 pN pn1 pn2 ol op hbN C
  wtm_at "g"
  have C := C.drop1.perm (news' := (src, S.ob) :: (wd, wo) :: (kd, ko) :: (own ++ junk)) (List.Perm.cons _ (List.perm_append_comm_assoc [_, _] own _))
  refine twin_law C ((hA.deeper _).le (by decide)) HW HK lo hI (by omega) ol strm.length hSy.far op hnN ?_
  clear C HW HK
  intro n' tn' ko kvs' wo tf' D tr c9 s n0 hs hnone HW HK hI' hkl' C
  wtm_at "g"
  have C := C.perm (news' := own ++ ((D, lstO [.int (n' - n) tr, .bool (decide (p ≤ n))] c9) :: (src, S.ob) :: (wd, wo) :: (kd, ko) :: junk)) (List.perm_append_comm_assoc own [_, _, _, _] _)
  refine wpX_execs_cons (wpX_Assign_Name (wpX_MethodCall ?_))
  obtain ⟨i1, i2, i3, i4, i5, i6, iP, hne2⟩ := id I
  wtm_at "g"
  refine xCallX (k195 (w := w)) ?_
  wtm_at "g"
  rw [show (first + p) % r.a.ring = W r.f r.a.ring p from hf p]
  obtain ⟨sq, stq, srd, se, ste, sfin, stf, shf⟩ := st
  simp only at hq he hfi hov
  subst hq he hfi hov
  have hbd := hSy.bound
  have hpB := psA_bound (oct := oct) (p := p) hSy op
  have hfA := finA_eq (p := p) (oct := oct) (hf := hb) hSy op hbN
  have hrl := hSy.rl
  have hqq : n ≤ qOf n shf ∧ qOf n shf ≤ n + 1 := by unfold qOf; split <;> omega
  have hpq : ∀ x ∈ ps, 0 ≤ x.1 - qOf n shf ∧ x.1 - qOf n shf < 128 := fun x hx => by
    cases hc : shf with
    | true => rw [(hSy.ovN hc).2.2] at hx; cases hx
    | false => have := hbd.2.2 x hx; simp only [qOf, Bool.false_eq_true, if_false]; omega
  have hfn : ∀ x, finA (qOf n shf) se p oct hb sfin = some x → -128 < x - (qOf n shf + (if shf then [] else (takeD (qOf n shf) (psA (qOf n shf) p ps shf (letIn se p oct))).1).length) ∧ x - (qOf n shf + (if shf then [] else (takeD (qOf n shf) (psA (qOf n shf) p ps shf (letIn se p oct))).1).length) < 128 := fun x hx => by
    rw [hfA] at hx
    have hx2 : x = strm.length := by
      rcases finT_or (e := se) (p := p) (oct := oct) hSy hbN with c | c
      · rw [c] at hx; cases hx
      · rw [c] at hx; injection hx with hx; exact hx.symm
    have := hpB.2.2.2
    omega
  refine arrive_spec C ((hA.deeper _).le (by decide)) I hr hpq (by omega) (fun x hx => by have := hbd.2.2 x hx; omega) (by omega) (by omega) (by show -128 < p - qOf n shf ∧ p - qOf n shf < 128; omega) (by show -128 < p - se ∧ p - se < 128; omega)
    (by show -128 < p + (oct.length : Int) - qOf n shf ∧ p + (oct.length : Int) - qOf n shf < 128; omega) (fun h1 _ _ => ?_) (hah_of hSy p0 op hbN) (hm_of (by omega) (by omega)) hpB.1 (Nat.le_trans hpB.2.1 (by decide)) (fun x hx => Nat.le_trans (hpB.2.2.1 x hx) (by decide)) hfn ?_
  · rw [cutLoop_id fun x hx => ?_]
    · rfl
    · have := hbd.2.2 x hx
      have := hbN h1
      omega
  clear C
  intro fr ps' st' tu2 t2 pl' vs' nl' own' s efr eps ese esf esq esh C I'
  simp only at efr eps ese esf esq esh
  obtain ⟨q1, q2, q3, q4⟩ := step (hf := hb) hSy p0 op hbN n0 hs hnone efr eps
  rw [hfA] at esf esq esh
  rw [q3] at esq
  rw [q4] at esh
  clear i1 i2 i3 i4 i5 i6 iP
  obtain ⟨i1, i2, i3, i4, i5, i6, iP, hne2⟩ := id I'
  have eb : decide (p ≤ qOf n shf) = decide (p ≤ n) := by
    by_cases hc : shf = true
    · have := (hSy.ovN hc).1
      rw [decide_eq_true (show p ≤ n by omega), decide_eq_true (show p ≤ qOf n shf by omega)]
    · rw [show qOf n shf = n by unfold qOf; rw [if_neg hc]; omega]
  dsimp only at C
  rw [eb, q1] at C
  generalize hov' : (shf || decide (finT se p oct hb sfin = some n')) = ov' at *
  generalize hfin' : finT se p oct hb sfin = fin' at *
  generalize hkk' : kkT n se p oct kk (keptT se p oct).length = kk' at *
  have hsub : List.Sublist (own' ++ (src, S.ob) :: (wd, wo) :: (kd, ko) :: junk) (own' ++ (tu2, tupO [.int fr.length t2, .bool (decide (p ≤ n))]) :: (D, lstO [.int fr.length tr, .bool (decide (p ≤ n))] c9) :: (src, S.ob) :: (wd, wo) :: (kd, ko) :: junk) := List.Sublist.append_left (.cons _ (.cons _ (.refl _))) _
  refine xStore C ?_
  clear C; intro s C
  refine xa ?_
  wtm_at "gi"
  refine sIfJ (fun s => Cx (KK w) g' L' o s (lk [("told", .ref tu2), ("due", .ref D), ("has_fin", .bool hb), ("octets", .bytes oct.toArray to), ("place", .int p tp), ("ring", .int r.a.ring tri), ("first", .int first tfi), ("world", .ref wd), ("receiver", .ref r.x), ("source", .ref src)]) (own' ++ (src, S.ob) :: (wd, wo) :: (kd, ko) :: junk)) ?_ ?_
  · intro QB hQB
    wtm_at "g"
    refine xListT C (by wtm_at "mm") (by show 2 ≤ 1000000; decide) ?_
    clear C; intro l1 c1 s C
    wtm_at "g"
    refine xNeIB C (.head _) (by wtm_at "mm") ((hA.deeper _).le (by decide)) ?_
    wtm_at "g"
    refine available_spec C ((hA.deeper _).le (by decide)) ⟨by wtm_at "mm", by wtm_at "mm"⟩ (by wtm_at "mm") (by have := q2.rl; have := q2.nN; have := q2.r0; omega) ?_
    clear C; intro t8 s C
    wtm_at "g"
    rw [show (((rd ++ fr).length : Int) != n' - rdp) = false by have := q2.rl; rw [bne_eq_false_iff_eq]; omega]
    refine ⟨fun h => (nomatch h), fun _ => ?_⟩
    wtm_at "g"
    exact hQB _ (C.sub (.cons _ hsub))
  clear C
  intro s C
  wtm_at "gi"
  refine sIfJ (fun s => Cx (KK w) g' L' o s (lk [("told", .ref tu2), ("due", .ref D), ("has_fin", .bool hb), ("octets", .bytes oct.toArray to), ("place", .int p tp), ("ring", .int r.a.ring tri), ("first", .int first tfi), ("world", .ref wd), ("receiver", .ref r.x), ("source", .ref src)]) (own' ++ (src, S.ob) :: (wd, wo) :: (kd, ko) :: junk)) ?_ ?_
  · intro QB hQB
    wtm_at "g"
    rw [show (W r.f r.a.ring st'.q != (first + n' + if ov' = true then 1 else 0) % r.a.ring) = false by
      rw [bne_eq_false_iff_eq, esq, ← hf]; unfold W qOf; congr 1; omega]
    refine ⟨fun h => (nomatch h), fun _ => ?_⟩
    wtm_at "g"
    rw [show (st'.hf != ov') = false by rw [esh]; simp]
    refine ⟨fun h => (nomatch h), fun _ => ?_⟩
    wtm_at "g"
    exact hQB _ C
  clear C
  intro s C
  wtm_at "gi"
  refine sIf ?_
  wtm_at "g"
  have kdone : ∀ {s m led}, Cx (KK w) g' L' o s m led → List.Sublist (own' ++ (src, S.ob) :: (wd, wo) :: (kd, ko) :: junk) led → R (.ok (.ret (.bool true))) s := fun C h =>
    k kk' n' fin' ov' ps' (rd ++ fr) own' st' pl' vs' nl' S wo ko kvs' tn' tf' _ hS I' HW HK hI' hkl' q2 esq ese esf esh (back _ _ _ (C.sub h))
  refine ⟨fun hb9 => ?_, fun hb9 => ?_⟩
  · wtm_at "g"
    exact kdone C (.refl _)
  · have hq' : st'.q = n' := by rw [esq, hb9]; simp [qOf]
    have hruns := q2.rn.runs q2.nn
    have hbd' := q2.bound
    have hr0' := q2.r0
    have hr1' := q2.r1
    have hnN' := q2.nN
    wtm_at "g"
    refine holes_law C ((hA.deeper _).le (by decide)) (by wtm_at "mm") (by wtm_at "mm") HW HK lo hI' (by omega) hruns (by omega) (by omega) ?_
    clear C
    intro F fvs fn T s C hF
    wtm_at "g"
    rw [hq']
    refine holes_spec (ps := ps') C ((hA.deeper _).le (by decide)) (by wtm_at "mm") (by wtm_at "mm") (by wtm_at "mm") (iP.mono fun _ h => .tail _ (List.mem_append_right _ (List.mem_append_left _ h))) hr (fun x hx => by have := hbd'.2.2 x hx; omega) (by omega) ?_
    clear C
    intro F2 fvs2 fn2 T2 s C hF2
    wtm_at "g"
    rw [holesLoop_congr hf] at hF
    have hF' : PairsIn (T2 ++ (F, lstO fvs fn) :: (T ++ (own' ++ (src, S.ob) :: (wd, wo) :: (kd, ko) :: junk))) fvs (holesLoop r.f r.a.ring ps' n' []) := hF.mono fun _ h => List.mem_append_right _ (.tail _ h)
    refine xEqPairs C (.head _) (.tail _ (List.mem_append_right _ (.head _))) (hF2.mono fun _ h => .tail _ h) (hF'.mono fun _ h => .tail _ h) ((hA.deeper _).le (by decide)) ?_
    wtm_at "g"
    refine has_holes_spec C ((hA.deeper _).le (by decide)) ⟨by wtm_at "mm", by wtm_at "mm"⟩ (by wtm_at "mm") (by wtm_at "mm") (by wtm_at "mm") ?_
    clear C; intro s C
    wtm_at "g"
    have ev : vs'.isEmpty = fvs.isEmpty := by
      rw [hF'.nil_iff, holesLoop_nil hruns, iP.nil_iff]
      cases ps' with
      | nil => rfl
      | cons x y => simp [WP]
    rw [ev, beq_self_eq_true]
    exact kdone C (.cons _ (((List.sublist_append_right T _).cons _).trans (List.sublist_append_right T2 _)))

end
section
variable {prog : Program} {w : World} {A : Around} {g : Heap} {L : Addr} {o : OsState} {s : Shared} {m : Str → Option Value} {news : List (Addr × Obj)} {R : Result → Shared → Prop}
variable {sc : Addr} {vs : List Value} {ns : List Int} {nn : Nat}
theorem Cx.inI {p a b c : Addr × Obj} {own l : List (Addr × Obj)} (C : Cx (KK w) g L o s m (p :: (own ++ a :: b :: c :: l))) : Cx (KK w) g L o s m (own ++ a :: b :: c :: p :: l) := by
  have h : List.Perm (own ++ a :: b :: c :: p :: l) (p :: (own ++ a :: b :: c :: l)) := by
    have := List.perm_middle (l₁ := own ++ [a, b, c]) (a := p) (l₂ := l)
    simpa using this
  exact C.perm h
theorem Cx.outI {p a b c : Addr × Obj} {own l : List (Addr × Obj)} (C : Cx (KK w) g L o s m (own ++ a :: b :: c :: p :: l)) : Cx (KK w) g L o s m (p :: (own ++ a :: b :: c :: l)) := by
  have h : List.Perm (own ++ a :: b :: c :: p :: l) (p :: (own ++ a :: b :: c :: l)) := by
    have := List.perm_middle (l₁ := own ++ [a, b, c]) (a := p) (l₂ := l)
    simpa using this
  exact C.perm h.symm
theorem wl_nodup {v0 v1 v2 v3 v4 v5 v6 : Value} : ((WL v0 v1 v2 v3 v4 v5 v6).map (·.1)).Nodup := by
  show (["stream", "next", "known", "read", "edge", "fin", "over"] : List Str).Nodup
  decide
/-- the whole state between two statements of the law's loop -/
def LInv (prog : Program) (w : World) (r : RH) (src wd kd : Addr) (strm : List UInt8) (tb : Tok) (tail : List (Addr × Obj)) (bound : Nat) (led : List (Addr × Obj)) : Prop :=
  Any21 fun kk n rdp e fin ov ps rd own st pl vs nl (S : SV) wo ko kvs tn te trd tf => All12 (led = own ++ (src, S.ob) :: (wd, wo) :: (kd, ko) :: tail) S.Ok (RW w own r st pl vs nl ps rd)
    (Obj.IsDictOf (PySem.strKind prog w) wo (WL (.bytes strm.toArray tb) (.int n tn) (.ref kd) (.int rdp trd) (.int e te) (optV fin tf) (.bool ov))) (Obj.IsDictOf (PySem.intKind prog w) ko kvs) (KIn kvs kk) (kvs.length ≤ bound)
    (Sy kk n rdp e strm.length r.room fin ov ps rd) (st.q = qOf n ov) (st.e = e) (st.fin = fin) (st.hf = ov)
open Builtin.Int (intBits) in
theorem law_law {obD : Obj} (hob : obD.cls = .type "list" ∧ obD.data = .seq vs.toArray nn) (hst : Stat (KK w) g) (hkp : ∀ b ob, g.get? b = some ob → s.heap.get? b = some ob) (hnw : ∀ p ∈ news, s.heap.get? p.1 = some p.2 ∧ g.get? p.1 = none) (hnd : (news.map (·.1)).Nodup) (hgn : s.gens = #[]) (hA : Room A 20) (hm : (sc, obD) ∈ news) (hi : IntsAre vs ns) (hl : vs.length ≤ 63) (hz : ∀ x ∈ ns, intBits x ≤ 1048576)
    (k : ∀ s', (∀ b ob, g.get? b = some ob → s'.heap.get? b = some ob) → (∀ p ∈ news, s'.heap.get? p.1 = some p.2) → s'.gens = #[] → s'.os = s.os → R (.ok (.ret (.bool true))) s') : codeX (model prog w) A (.call (.ref 336) ⟨[.ref sc], []⟩) R s := by
  refine call_entry [("script", .ref sc)] [("script", .ref sc)] hst hkp hnw hnd hgn hA.dep (by rfl) (by rfl) (BindsTo.of_eq rfl) (by rfl) (by rfl) ?_
  intro g' L' s' o C back
  refine wpX_split (pre := [_, _, _, _, _]) ?_
  wtm_at "g"
  refine pool_law hob C ((hA.deeper _).le (by decide)) hm hi hl hz ?_
  clear C
  intro src S s hS C
  wtm_at "g"
  refine take_law [] C ((hA.deeper _).le (by decide)) hS (by decide) (by decide) ?_
  clear C hS; intro x1 t1 S s y0 y1 hS C
  wtm_at "g"
  refine ifJ (fun v s => Any2 fun ring tr => All3 (v = .int ring tr) (256 ≤ ring) (Cx (KK w) g' L' o s (lk [("source", .ref src), ("script", .ref sc)]) ((src, S.ob) :: news))) ?_ ?_
  · intro QB hQB
    refine ⟨fun _ => ?_, fun _ => ?_⟩
    · wtm_at "g"
      exact hQB _ _ ⟨256, _, rfl, by decide, C⟩
    · wtm_at "g"
      exact hQB _ _ ⟨_, _, rfl, by decide, C⟩
  clear C
  rintro v s ⟨ring, tr, rfl, hring, C⟩
  have hr0 : 0 < ring := by omega
  wtm_at "g"
  refine take_law [] C ((hA.deeper _).le (by decide)) hS (by decide) (by decide) ?_
  clear C hS; intro x2 t2 S s r0 r1 hS C
  wtm_at "g"
  refine take_law [] C ((hA.deeper _).le (by decide)) hS (by decide) (by decide) ?_
  clear C hS; intro x3 t3 S s m0 m1 hS C
  wtm_at "g"
  refine take_law [] C ((hA.deeper _).le (by decide)) hS (by decide) (by decide) ?_
  clear C hS; intro x4 t4 S s i0 i1 hS C
  wtm_at "g"
  rename_i t5 s5 s6 t6 s7 t7 s8 t8 s9 t9 s10
  refine xCompR2 C (a := 0) (P := fun N led => Any1 fun S => All3 (SV.Ok S) (led = (src, SV.ob S) :: news) (N ≤ 40)) (G := fun z v => ∃ t, v = .int (z * 3 + 1) t) (hA.deeper _).hh (by decide) (by decide) (by with_unfolding_all exact rfl) (by decide) (by rfl) (by decide) (by rfl) (by intro _; rfl) ?_ ?_ ?_
  · intro QI hQI
    wtm_at "g"
    refine take_law [] C ((hA.deeper _).le (by decide)) hS (by decide) (by decide) ?_
    clear C hS; intro x5 t5 S s z0 z1 hS C
    wtm_at "g"
    rw [show x5 = 0 + ((x5.toNat : Nat) : Int) by omega] at C
    exact hQI _ _ _ _ x5.toNat _ _ (by omega) C ⟨S, hS, rfl, by omega⟩
  · clear C
    intro i t C' s₃ m₃ E' hi' hns hm'
    refine wpAny_BinOp ?_
    refine wpAny_BinOp ?_
    refine wpAny_Name (wpAny_loadName_local rfl rfl hns hm' ?_) (by decide)
    refine wpAny_Constant_int ?_
    refine PyProof.Rows.mul_int ?_ (mulOkR (by decide) (by decide))
    refine wpAny_Constant_int ?_
    refine add_int ?_
    exact ⟨⟨_, rfl⟩, _, _, rfl, fun _ _ e => e⟩
  clear C hS
  rintro N D ys n9 led s ⟨S, hS, rfl, hN⟩ _ hyl hG C
  wtm_at "g"
  have hints : IntsAre ys ((List.range N).map fun (j : Nat) => ((0 + (j : Int)) * 3 + 1)) := ints_ofZ (by simp; exact hyl) fun j v hv => by
    obtain ⟨t, rfl⟩ := hG j v hv
    have hj : j < N := by
      rcases Nat.lt_or_ge j ys.length with h | h
      · omega
      · rw [List.getElem?_eq_none h] at hv; cases hv
    exact ⟨_, t, by simp [hj], rfl⟩
  refine xBytesL C (.head _) hints ?_ (by omega) (hA.deeper _).hh ?_
  · intro x hx
    obtain ⟨j, hj, rfl⟩ := List.mem_map.mp hx
    have := List.mem_range.mp hj
    omega
  have C' := C.drop1
  clear C
  intro tb s C
  have C := C.drop1
  obtain ⟨strm, hst⟩ : ∃ l : List UInt8, l = ((List.range N).map fun (j : Nat) => ((0 + (j : Int)) * 3 + 1)).map fun n => n.toNat.toUInt8 := ⟨_, rfl⟩
  have hsl : strm.length ≤ 40 := by rw [hst]; simp; exact hN
  rw [← hst]
  clear hst hints hG C'
  wtm_at "g"
  refine sAsgWX (names := [_, _]) (by with_unfolding_all exact rfl) (wpX_Call ?_)
  wtm_at "g"
  refine xCallX (k275 (w := w)) ?_
  wtm_at "g"
  refine newX C cRmakes mR___init__ i160 ?_
  clear C; intro rx rdx s C
  refine rec_init_spec (ring := ring) C ((hA.deeper _).under.le (by decide)) hring ?_
  clear C
  intro r st pl s e1 e2 e3 e4 e5 e6 e7 e8 e9 C
  subst e1 e2
  refine And.intro rfl ?_
  wtm_at "g"
  rw [← e4, ← e5] at C
  have hf : ∀ p, W (((r.a.ring - x4) % r.a.ring + 1) % r.a.ring) r.a.ring p = W r.f r.a.ring p := fun p => by
    unfold W; rw [e3, Int.emod_add_emod]
  generalize hfirst : ((r.a.ring - x4) % r.a.ring + 1) % r.a.ring = first at *
  refine wpX_split (pre := [_]) ?_
  wtm_at "g"
  refine xDictS C rfl rfl (List.cons_ne_nil _ _) (by decide) ?_
  clear C; intro wd wo s C HW0
  wtm_at "g"
  refine xDictE C ?_
  clear C; intro kd ko s lo _ HK C
  wtm_at "g"
  refine xMade (pairs := WL _ _ _ _ _ _ _) [_] C HW0 rfl rfl wl_nodup ?_
  clear C HW0; intro wo s C HW
  wtm_at "g"
  have hne : r.a.dx ≠ r.dx := by
    have := C.nd
    intro e
    rw [e] at this
    simp at this
  have C := C.perm (news' := [(r.x, instObj 275 r.dx), (r.dx, dictOf (r.es w st) 10), (r.a.x, instObj 141 r.a.dx), (r.a.dx, dictOf (r.a.es w pl) 2), (pl, lstO [] 0), (st.rd, bytO [])] ++ (src, S.ob) :: (wd, wo) :: (kd, ko) :: news)
    ((List.Perm.append_left _ ((List.reverse_perm [(kd, ko), (wd, wo), (src, S.ob)]).append_right news)).trans (List.perm_append_comm_assoc _ [(kd, ko), (wd, wo)] _))
  have hR : RW w [(r.x, instObj 275 r.dx), (r.dx, dictOf (r.es w st) 10), (r.a.x, instObj 141 r.a.dx), (r.a.dx, dictOf (r.a.es w pl) 2), (pl, lstO [] 0), (st.rd, bytO [])] r st pl [] 0 [] [] := ⟨.head _, .tail _ (.head _), .tail _ (.tail _ (.head _)), .tail _ (.tail _ (.tail _ (.head _))), .tail _ (.tail _ (.tail _ (.tail _ (.head _)))), .tail _ (.tail _ (.tail _ (.tail _ (.tail _ (.head _))))), .nil, hne⟩
  have hSy : Sy (fun _ => none) 0 0 r.room strm.length r.room none false [] [] := by
    refine ⟨by decide, by decide, by omega, by omega, by omega, by omega, by omega, by omega, rfl, fun j b h => by simp at h, fun _ _ => rfl, fun _ _ => rfl, fun _ _ => rfl, rfl, .inl rfl, rfl⟩
  have C0 := C
  refine sForRX C0 (a := 0) (J := fun i m led => Any5 fun junk tf tr tm tri => All2 (m = lj [("source", .ref src), ("receiver", .ref r.x), ("world", .ref wd), ("first", .int first tf), ("ring", .int r.a.ring tri), ("room", .int r.room tr), ("mss", .int r.mss tm)] junk) (LInv prog w r src wd kd strm tb news (8 * i) led)) (hA.deeper _).hh (by decide) (by decide) ?_ ?_ ?_
  · intro QI hQI
    wtm_at "g"
    refine take_law [_, _, _, _, _, _] C ((hA.deeper _).le (by decide)) hS (by decide) (by decide) ?_
    clear C hS; intro x5 t5 S s z0 z1 hS C
    wtm_at "g"
    rw [show 5 + x5 = 0 + (((5 + x5).toNat : Nat) : Int) by omega] at C
    exact hQI _ _ _ _ (5 + x5).toNat _ _ _ (by omega) (C.norm [("source", _), ("receiver", _), ("world", _), ("first", _), ("ring", _), ("room", _), ("mss", _)] (by wtm_at "ag")) ⟨_, _, _, _, _, rfl, fun _ => none, 0, 0, r.room, none, false, [], [], _, st, pl, [], 0, S, wo, ko, [], _, _, _, 0, rfl, hS, hR, HW, HK, fun x => rfl, Nat.le_refl _, hSy, e6, by rw [e7, e4], e8, e9⟩
  · clear C C0 hR HW HK hSy hS e6 e7 e8 e9 hne
    rintro i I ob QB hN _ _ t m led s hi ⟨junk, tf, tr, tm, tri, rfl, kk, n, rdp, e, fin, ov, ps, rd, own, st, pl, vs, nl, S, wo, ko, kvs, tn, te, trd, tfi, rfl, hS, hR, HW, HK, hI, hkl, hSy, hq, he, hfi, hov⟩ C
    have C := C.inI
    wtm_at "g"
    refine sIfNotX (wpX_Call ?_)
    wtm_at "g"
    refine xCallX (k331 (w := w)) ?_
    wtm_at "g"
    refine step_law C ((hA.deeper _).le (by decide)) hS hR HW HK lo hI (by omega) hring hf hSy hq he hfi hov ?_
    clear C hS hR HW HK hI hSy hq he hfi hov
    intro kk n fin ov ps rd own st pl vs nl S wo ko kvs' tn tfi s hS hR HW HK hI hkl' hSy hq he hfi hov C
    refine ⟨rfl, ?_⟩
    refine xa ?_
    wtm_at "gi"
    refine sIfJ (fun s => Any8 fun junk rdp rd own st trd S wo => All9 (SV.Ok S) (RW w own r st pl vs nl ps rd) (Obj.IsDictOf (PySem.strKind prog w) wo (WL (.bytes strm.toArray tb) (.int n tn) (.ref kd) (.int rdp trd) (.int e te) (optV fin tfi) (.bool ov))) (Sy kk n rdp e strm.length r.room fin ov ps rd) (st.q = qOf n ov) (st.e = e) (st.fin = fin) (st.hf = ov) (Cx (KK w) g' L' o s (lj [("source", .ref src), ("receiver", .ref r.x), ("world", .ref wd), ("first", .int first tf), ("ring", .int r.a.ring tri), ("room", .int r.room tr), ("mss", .int r.mss tm)] junk) (own ++ (src, S.ob) :: (wd, wo) :: (kd, ko) :: (I, ob) :: news))) ?_ ?_
    · intro QJ hJ
      obtain ⟨i1, i2, i3, i4, i5, i6, iP, hne⟩ := id hR
      wtm_at "g"
      refine take_law own C ((hA.deeper _).le (by decide)) hS (by decide) (by decide) ?_
      clear C hS; intro x6 t6 S s z0 z1 hS C
      wtm_at "g"
      refine ⟨fun hb => ?_, fun hb => ?_⟩
      · wtm_at "g"
        refine read_law C ((hA.deeper _).le (by decide)) hS hR HW HK lo hI hSy.r0 hSy.r1 (by have := hSy.nN; have := hSy.N40; omega) hSy.rl hSy.rc ?_
        clear C hS
        intro m2 own' wo' trd' D S s hm2 hR' HW' hS C
        wtm_at "g"
        refine ⟨fun h => absurd h (by decide), fun _ => ?_⟩
        wtm_at "g"
        exact hJ _ ⟨_, _, _, _, _, _, S, wo', hS, hR', HW', hSy.read hm2, hq, he, hfi, hov, C.norm [("source", _), ("receiver", _), ("world", _), ("first", _), ("ring", _), ("room", _), ("mss", _)] (by wtm_at "ag")⟩
      · wtm_at "g"
        exact hJ _ ⟨_, _, _, _, _, _, S, wo, hS, hR, HW, hSy, hq, he, hfi, hov, C.norm [("source", _), ("receiver", _), ("world", _), ("first", _), ("ring", _), ("room", _), ("mss", _)] (by wtm_at "ag")⟩
    clear C hS hR HW hSy hq he hfi hov
    rintro s ⟨junk, rdp, rd, own, st, trd, S, wo, hS, hR, HW, hSy, hq, he, hfi, hov, C⟩
    obtain ⟨i1, i2, i3, i4, i5, i6, iP, hne⟩ := id hR
    wtm_at "g"
    refine window_law C ((hA.deeper _).le (by decide)) hR HW hring hSy.r0 hSy.r1 hSy.ne hSy.eb (by have := hSy.nN; have := hSy.N40; omega) hSy.o2 hSy.o1 hq he hSy.rl hov ?_
    clear C
    intro own' wo' tr' te' s hR' HW' C
    have hw1 : e ≤ edgeT rdp r.room r.mss e ov ∧ edgeT rdp r.room r.mss e ov ≤ rdp + r.room := by
      have := hSy.eb
      unfold edgeT; split <;> omega
    wtm_at "g"
    refine ⟨fun h => absurd h (by decide), fun _ => ?_⟩
    wtm_at "g"
    refine hN _ _ _ _ (.inl rfl) (C.outI.norm [("source", _), ("receiver", _), ("world", _), ("first", _), ("ring", _), ("room", _), ("mss", _)] (by wtm_at "ag")) ⟨_, _, _, _, _, rfl, kk, n, rdp, _, fin, ov, ps, rd, own', _, pl, vs, nl, S, wo', ko, kvs', tn, _, _, _, rfl, hS, hR', HW', HK, hI, by omega, hSy.wide hw1.1 hw1.2, hq, rfl, hfi, hov⟩
  · clear C C0 hR HW HK hSy hS e6 e7 e8 e9 hne
    rintro N m led s ⟨junk, tf, tr, tm, tri, rfl, kk, n, rdp, e, fin, ov, ps, rd, own, st, pl, vs, nl, S, wo, ko, kvs, tn, te, trd, tfi, rfl, hS, hR, HW, HK, hI, hkl, hSy, hq, he, hfi, hov⟩ C
    obtain ⟨i1, i2, i3, i4, i5, i6, iP, hne⟩ := id hR
    refine xa ?_
    wtm_at "g"
    have hrl := hSy.rl
    have hr0 := hSy.r0
    have hnN := hSy.nN
    have hN40 := hSy.N40
    refine is_over_spec C ((hA.deeper _).le (by decide)) ⟨by wtm_at "mm", by wtm_at "mm"⟩ (by wtm_at "mm") (by omega) ?_
    clear C; intro s C
    have hemp : rd.isEmpty = (rdp == n) := by
      cases rd with
      | nil => simp at hrl; simp; omega
      | cons x y => simp at hrl; simp; omega
    wtm_at "g"
    refine ⟨fun hb => ?_, fun hb => ?_⟩
    · wtm_at "g"
      rw [show ((st.hf && rd.isEmpty) == (rdp == n)) = true by rw [hov, hb, hemp]; simp]
      exact k _ (back _ _ _ C).1 (fun p hp => C.get (List.mem_append_right _ (.tail _ (.tail _ (.tail _ hp))))) (back _ _ _ C).2.1 (back _ _ _ C).2.2
    · wtm_at "g"
      rw [show ((st.hf && rd.isEmpty) == ov) = true by rw [hov, hb]; rfl]
      exact k _ (back _ _ _ C).1 (fun p hp => C.get (List.mem_append_right _ (.tail _ (.tail _ (.tail _ hp))))) (back _ _ _ C).2.1 (back _ _ _ C).2.2

end
section
open PySem.Calls
open Sem (wp)
theorem thread_ends_bothX {prog : Program} {w : World} {t : Sem Fin} {s : Shared} {R : Result → Shared → Prop} (hreg : s.asleep)
    (h : wpX (model prog w) callerA t (fun fin s' => ∃ f, fin = .done f ∧ (R (.ok f) s' ∧ leftWithCleanup s'.gens = false)) (fun e s' => R (.error e) s' ∧ leftWithCleanup s'.gens = false) s) :
    ∃ n r s' s'', runN (denote table) prog w n s ⟨t, .builtin "claim.caller" {}, default, []⟩ = .halted (outcomeOf r) s' ∧
      schedN (denote table) prog w n (.single s ⟨t, .builtin "claim.caller" {}, default, []⟩) = .halted (outcomeOf r) s' ∧ s'.forget = s''.forget ∧ R r s'' := by
  have key : wp (model prog w) ⟨.builtin "claim.caller" {}, none, none, [], none⟩ t (Sem.finPost (model prog w) ⟨.builtin "claim.caller" {}, none, none, [], none⟩ (fun r s' => R r s' ∧ leftWithCleanup s'.gens = false)) (fun e _ s' => R (.error e) s' ∧ leftWithCleanup s'.gens = false) default s := by
    refine Sem.wp_mono _ _ t (fun fin p' s' h' => ?_) (fun _ _ _ h' => h') default s (h ⟨.builtin "claim.caller" {}, none, none, [], none⟩ default caller_in (by decide +kernel) (fun x hx => (nomatch hx)))
    obtain ⟨f, rfl, hf⟩ := h'
    exact hf
  obtain ⟨n, r, s₁, s₂, hs, hn, hfo, hR⟩ := wp_halts_full (M := model prog w) (R := R) hreg key
  exact ⟨n, r, s₂, s₁, hn, hs, hfo, hR⟩
theorem callFromX {c : ClaimW} {tree : List Value → Sem Fin} {w : World} {s : Shared} {free : Addr → Prop} {gens : Prop} {kept : Heap → Prop} (hz : s.asleep) (hgens : s.gens = #[])
    (hspec : ∀ args, c.pre args = true → WData.layableAll args = true →
      ∀ ord : List DictEntry → List DictEntry, (∀ l, (ord l).Perm l) →
      ∃ vs s₁, layAllW c.records (classAt s.heap) w.params ord args s = some (vs, s₁) ∧
        wpX (model c.prog w) callerA (tree vs) (fun fin s' => ∃ f, fin = .done f ∧ (c.Ends s args vs s₁ (.ok f) s' ∧ s'.os = s.os ∧ AllBare s'.gens ∧ kept s'.heap))
          (fun e s' => c.Ends s args vs s₁ (.error e) s' ∧ s'.os = s.os ∧ AllBare s'.gens ∧ kept s'.heap) s₁) :
    c.CallFrom (fun vs => ⟨tree vs, .builtin "claim.caller" {}, default, []⟩) w free gens kept s := by
  intro args hpre hlay ord hord
  obtain ⟨vs, s₁, hlaid, hcode⟩ := hspec args hpre hlay ord hord
  have hal := layAllW_rest _ _ _ hlaid
  obtain ⟨k, r, s', s'', hrun, hsched, hfo, hcase, hos, hkp⟩ := thread_ends_bothX (prog := c.prog) (w := w) (t := tree vs) (s := s₁)
    (R := fun r s' => c.Ends s args vs s₁ r s' ∧ s'.os = s.os ∧ kept s'.heap)
    (Shared.asleep_of_life hal.2.2.2 hz)
    (wpX_mono hcode (by
      rintro fin s' ⟨f, e, h1, h2, h3, h4⟩
      exact ⟨f, e, ⟨h1, h2, h4⟩, leftWithCleanup_false_of_bare h3⟩) (by
      rintro e s' ⟨h1, h2, h3, h4⟩
      exact ⟨⟨h1, h2, h4⟩, leftWithCleanup_false_of_bare h3⟩))
  obtain ⟨eh, _, _, eo, _⟩ := Shared.forget_eq hfo
  have hcase := hcase.congr eh
  have hkp : kept s'.heap := by first | exact eh ▸ hkp | (rw [eh] at hkp; exact hkp) | (rw [← eh] at hkp; exact hkp)
  rw [← eo] at hos
  have hlife : s'.heap.life = s.heap.life := (runN_life _ _ _ hrun).trans hal.2.2.2
  refine ⟨vs, s₁, hlaid, k, _, s', hsched, ?_, (fun _ i x hx => by rw [hgens] at hx; simp at hx), hkp, by rw [hlife], Shared.rest_eq hos⟩
  rcases hcase with ⟨v, rfl, d1, d2, d3, d4, d5⟩ | ⟨e, ob, cls, rfl, d1, d2, d3, d4, d5⟩
  · exact .inl ⟨v, rfl, d1, d2, d3, fun b o y _ => d4 b o y, d5⟩
  · exact .inr ⟨e, ob, cls, rfl, d1, d2, d3, d4, fun b o y _ => d5 b o y⟩

theorem holds_openX {r : OpenRow} {q : Program} {loose : List Str} {Xt : Shared → Bool} {XP : (Str → Option Value) → Heap → Prop} {α : Type} {Yf : Shared → α} {Ya : World → α} {YP : World → Heap → Prop} {d : DefRec} {kwd : List (Str × Expr)} {N : Nat}
    (left : LeftO r.prog q loose Xt Yf Ya N) (hY : ∀ w s, Yf s = Ya w → YP w s.heap) (hX : ∀ s, Xt s = true → XP (s.heap.nsMap mainGlobals) s.heap)
    (hdef : defOf q r.name = some (d, kwd)) (hp : r.prog.theDef r.name = some (d.params, d.body, d.scope)) (hk : kwWritten? d.params.kwonlyargs d.params.kw_defaults = some kwd) (hRf : ∀ s, Xt s = true → RecFacts r.records s.heap) (hwr : (!r.writes || r.records.isEmpty) = true)
    (k1 : r.wellSaid = true) (ok : (chainsOk q && opensWell r.prog && (frees r.toRowW && r.within.isEmpty)) = true) (hb : r.prog.bare) (hw : r.toRowW.promised)
    (call : ∀ (w : World) (s s₁ : Shared) (mg mb : Str → Option Value), Ground q loose r.records XP w s mg mb s.heap → YP w s.heap → ∀ (a : Addr) (args : List WData) (vs : List Value) (as : List Addr),
      mg r.name = some (.ref a) → r.toRowW.claim.pre args = true → WData.layableAll args = true → Laid r.records w s s₁ args vs as → 
        wpX (model r.prog w) callerA (PySem.call (.ref a) vs) (fun v s' => GoodWG r.toRowW.claim (classAt s.heap) (ExcName.means s.heap) args s₁ (.ok (.ret v)) s')
          (fun e s' => GoodWG r.toRowW.claim (classAt s.heap) (ExcName.means s.heap) args s₁ (.error e) s') s₁) : r.Holds := by
  refine ⟨k1, hw, ?_⟩
  obtain ⟨ok, k5⟩ := Bool.and_eq_true_iff.mp ok
  obtain ⟨hch, o1⟩ := Bool.and_eq_true_iff.mp ok
  obtain ⟨k5, k6⟩ := Bool.and_eq_true_iff.mp k5
  obtain ⟨hsame, hu, ha, hap, hm⟩ := frees_parts k5
  refine ⟨⟨hb, o1, by show r.toRowW.makers.map _ = []; rw [hm]; rfl⟩, hw.witness, fun w => ⟨(left.behind hX hch w).1, fun s' hs' => ?_⟩⟩
  obtain ⟨s₀, hf, hg0, s, hT, hz, hgens, hg, G00, y⟩ := (left.behind (XP := fun mg h => XP mg h ∧ RecFacts r.records h) (fun s hs => ⟨hX s hs, hRf s hs⟩) hch w).2 s' hs'
  have G0 : Ground q loose [] XP w s (s.heap.nsMap mainGlobals) (s.heap.nsMap builtinsNs) s.heap := ⟨G00.T, G00.B, G00.D, G00.TE, G00.TD, G00.W, G00.X.1, G00.cls, G00.has, G00.apart, G00.once, G00.K⟩
  have RF := G00.X.2
  have hT' := hT
  refine ⟨s₀, hf, hg0, s, hT, ?_, RF.1, RF.2.1, ?_⟩
  · intro n hn
    obtain rfl : n = r.name := by split at hn <;> simp_all
    exact pinned_of_view hg G0 hdef hp hk
  have hgens : s.gens = #[] := Array.eq_empty_of_size_eq_zero (beq_iff_eq.mp hgens)
  have G : Ground q loose r.records XP w s _ _ s.heap := RF.ground G0
  refine callFromX (c := r.toRowW.claim) hz hgens fun args hpre hlay ord hord => ?_
  obtain ⟨⟨vs, s₁⟩, hlaid⟩ := Option.isSome_iff_exists.mp (layAllW_isSome (P := w.params) (ord := ord) G.has args r.args s (pre_splitW hpre).1)
  have keeps := layAllW_keeps _ _ _ hlaid
  have hal := layAllW_rest _ _ _ hlaid
  obtain ⟨as, hrd, hin, hold⟩ := reads_layAllW hord _ _ _ hlaid hlay s₁.heap (fun _ _ e => e)
  have L : Laid r.records w s s₁ args vs as := ⟨⟨ord, hord, hlaid⟩, hrd, hin, hold, keeps, hal.1.trans hgens, hal.2.2.1⟩
  obtain ⟨a, o, pm, cd, doc, dV, kV, h1, _⟩ := G.fn hdef
  have h := call w s s₁ _ _ G (hY w s y) a args vs as h1 hpre hlay L
  have hi := ident_freeW hu ha hap
  have hwi : r.toRowW.claim.within = [] := List.isEmpty_iff.mp k6
  refine ⟨vs, s₁, hlaid, ?_⟩
  refine wpX_bind (xa (wpAny_nsGet (G.T.g.keeps keeps) ?_))
  rw [h1]
  refine wpX_bind (wpX_mono h (fun v s' g => wpX_pure ⟨_, rfl, ?_⟩) fun e s' g => ?_)
  · have z := g.laid (c := r.toRowW.claim) hsame hwi hi L
    exact ⟨z.1, z.2.1, z.2.2, fun q => ⟨namesKept_of hT' hg _ keeps g.2.1.old, noTable hwr q⟩⟩
  · have z := g.laid (c := r.toRowW.claim) hsame hwi hi L
    exact ⟨z.1, z.2.1, z.2.2, fun q => ⟨namesKept_of hT' hg _ keeps g.2.1.old, noTable hwr q⟩⟩
end
section
theorem ints_items {R : WRecords} {cl : Str → Option Addr} {h : Heap} : ∀ {xs : List WData} {vs : List Value} {as : List Addr}, WShape.hasItems R xs .int = true → ReadsAllW R cl h vs xs as → ∃ ns, IntsAre vs ns ∧ vs.length = xs.length ∧ ∀ n ∈ ns, WData.int n ∈ xs
  | _, _, _, _, .nil => ⟨[], .nil, rfl, fun n h => (nomatch h)⟩
  | _, _, _, hh, .cons r rs => by
    simp only [WShape.hasItems, Bool.and_eq_true] at hh
    obtain ⟨i, rfl⟩ := hasW_int hh.1
    obtain ⟨ns, h1, h2, h3⟩ := ints_items hh.2 rs
    cases r with
    | int i t => exact ⟨i :: ns, .cons i t h1, by simp [h2], fun n hn => by
        cases hn with
        | head => exact .head _
        | tail _ hn => exact .tail _ (h3 n hn)⟩
theorem len63 {args : List WData} {xs : List WData} (e : args = [.list xs]) (h : PySem.Challenge.rw_nu0130_01.pre.holds [] { args := args } = true) : xs.length ≤ 63 := by
  subst e
  have h : (WTm.not (.lt (.lit (.int 63)) (.len (.arg 0)))).holds [] { args := [.list xs] } = true := (holds_andW h).1
  unfold WTm.holds at h
  rw [w_not (w_lt (x := 63) (y := xs.length) rfl (w_len_list rfl))] at h
  by_cases c : (63 : Int) < xs.length
  · rw [decide_eq_true c] at h; simp at h
  · omega

open Builtin.Int (intBits) in
theorem bits_item {xs : List WData} (h : (WData.list xs).layable = true) {n : Int} (hn : WData.int n ∈ xs) : intBits n ≤ 1048576 := by
  have h1 := lay0_int (layableW_item h _ hn)
  exact intBits_le_of_layable (by
    have := (Bool.and_eq_true_iff.mp h1).1
    exact this)
theorem post_true (xs : List WData) : PySem.Challenge.rw_nu0130_01.row.toRowW.claim.post [WData.list xs] (WData.bool true) [WData.list xs] = true := by
  show (WShape.has [] (.bool true) .bool && (WTm.eq .res (.lit (.bool true))).holds [] { args := [WData.list xs], res := some (.bool true), after := [WData.list xs] }) = true
  unfold WTm.holds
  rw [w_eq_bool (k := true) (l := true) rfl rfl]
  simp [WShape.has, WShape.arms]
theorem main : PySem.Challenge.rw_nu0130_01.Holds := by
  refine saidAll fun said => ?_
  refine holds_openX (r := PySem.Challenge.rw_nu0130_01.row) (q := view) (loose := []) (Xt := fun s => xlAt view [] s && recOk (RowW.records PySem.Challenge.rw_nu0130_01.row.toRowW) s) (XP := XL view []) (Yf := Hook.obs (kHook KKp kAs kAs_eq)) (Ya := Hook.val (kHook KKp kAs kAs_eq)) (YP := Hook.says (kHook KKp kAs kAs_eq)) (N := 3802)
    leftAll (Hook.of (kHook KKp kAs kAs_eq)) (fun s e => xl_of s (Bool.and_eq_true_iff.mp e).1) (by rfl) (by rfl) (by rfl) (fun s e => recFacts_of (Bool.and_eq_true_iff.mp e).2) (by rfl) said (by decide +kernel) ⟨rfl, rfl, rfl, rfl, rfl, by decide +kernel⟩ ?hw ?hc
  · w_witness2
  · intro w s s₁ mg mb G Y a args vs as h1 hpre hlay L
    have X : (KK w).In s.heap := Y
    have ha := mg_of X G.T.g (n := "law") (v := .ref 336) (by kernel_rfl!)
    have e1 : some (Value.ref a) = some (Value.ref 336) := by rw [← h1, ← ha]; rfl
    injection e1 with e1
    injection e1 with e1
    subst e1
    obtain ⟨hsh, hpre2⟩ := pre_splitW hpre
    obtain ⟨d, rr, rfl, hd, hr⟩ := hasAllW_cons hsh
    obtain rfl := hasAllW_nil hr
    obtain ⟨xs, rfl, hx⟩ := hasW_list hd
    have h63 := len63 rfl hpre2
    have hlaya : (WData.list xs).layable = true := (layW_cons hlay).1
    cases hrd : L.reads with
    | cons r1 r2 =>
      cases r2
      obtain ⟨l, o, its, n, ai, rfl, ho, hc, hdt, hra, has⟩ := readsW_list_open r1
      obtain ⟨ns, hi, hlen, hns⟩ := ints_items hx hra
      have hl0 : s.heap.objs.size ≤ l := (L.within.2.2 l (by rw [has]; simp)).1
      have st : ∀ b ob, s.heap.get? b = some ob → (hideAll s₁.heap [l]).get? b = some ob := fun b ob e => hideAll_get _ (L.keeps b ob e) (by
        have := Heap.lt_size e
        intro h
        simp at h
        subst h
        exact absurd this (Nat.not_lt.mpr hl0))
      refine wpX_call ?_
      refine law_law (g := hideAll s₁.heap [l]) (news := [(l, o)]) (vs := its.toList) (ns := ns) (nn := n) ⟨hc, by rw [Array.toArray_toList]; exact hdt⟩ ⟨X.keeps st, ⟨_, _, _, _, (topRead_of G.T).keeps st⟩⟩ (fun b ob e => of_hideAll _ e) ?_ (by simp) L.gens ⟨by decide +kernel, by decide +kernel, rfl⟩ (.head _) hi (by omega) (fun x hx => bits_item hlaya (hns x hx)) ?_
      · intro p hp
        simp at hp
        subst hp
        exact ⟨ho, hideAll_none _ (by simp)⟩
      · intro s' k1 k2 k3 k4
        refine ⟨.inl ⟨.bool true, .bool true, [], rfl, fun _ => rfl, .bool true, post_true xs, fun _ => ⟨.nil, fun a h => (nomatch h)⟩⟩, .of_keep fun b ob e => ?_, k4, .of_eq k3⟩
        by_cases c : b = l
        · subst c
          rw [ho] at e
          cases e
          exact k2 _ (.head _)
        · exact k1 b ob (hideAll_get _ e (by simpa using c))
end
end Mine

theorem PySem.Challenge.cw_nu0130_01_holds : PySem.Challenge.rw_nu0130_01.Holds :=
  Mine.main
