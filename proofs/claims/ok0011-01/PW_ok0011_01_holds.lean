import PyProof.Rows.All
import Wide.All
import OpenK.AllK
import Wide.FinOn
import Lean
import PySem.Challenge.RW_ok0011_01
section
open PySem PySem.W PyProof.Rows PySem.Calls
set_option Elab.async false
set_option maxRecDepth 100000
set_option linter.unusedVariables false
namespace Mine
/-- parts of a def's statement -/
noncomputable def dBody : Stmt → List Stmt
  | .FunctionDef (body := b) .. => b
  | .ClassDef (body := b) .. => b
  | _ => []
noncomputable def dArgs : Stmt → Arguments
  | .FunctionDef (args := a) .. => a
  | _ => { posonlyargs := [], args := [], vararg := none, kwonlyargs := [], kw_defaults := [], kwarg := none, defaults := [] }
noncomputable def dScope : Stmt → Scope
  | .FunctionDef (scope := s) .. => s
  | _ => { kind := .function, names := [], isGenerator := false, isCoroutine := false }
noncomputable def st1 (i : Nat) : Stmt := PySem.Challenge.pw_ok0011_01.main.body[i]!
noncomputable def m1 (i j : Nat) : Stmt := (dBody (st1 i))[j]!

noncomputable def own2 : Obj := { cls := Value.none, data := Data.dict #[] }
noncomputable def own10 (P : Params) : Frag := [(3, { cls := Value.type "dict", data := Data.dict #[{ hash := PyData.keyHash P (Str.ofString "__name__"), key := Value.str (Str.ofString "__name__") 165, val := Value.str (Str.ofString "law_ok0011_01") 458 }, { hash := PyData.keyHash P (Str.ofString "__doc__"), key := Value.str (Str.ofString "__doc__") 166, val := Value.none }, { hash := PyData.keyHash P (Str.ofString "__package__"), key := Value.str (Str.ofString "__package__") 167, val := Value.none }, { hash := PyData.keyHash P (Str.ofString "__loader__"), key := Value.str (Str.ofString "__loader__") 168, val := Value.builtin "__main__.__loader__#opaque" }, { hash := PyData.keyHash P (Str.ofString "__spec__"), key := Value.str (Str.ofString "__spec__") 169, val := Value.none }, { hash := PyData.keyHash P (Str.ofString "__annotations__"), key := Value.str (Str.ofString "__annotations__") 170, val := Value.ref 6 }, { hash := PyData.keyHash P (Str.ofString "__builtins__"), key := Value.str (Str.ofString "__builtins__") 171, val := Value.ref 4 }, { hash := PyData.keyHash P (Str.ofString "__file__"), key := Value.str (Str.ofString "__file__") 173, val := Value.str (Str.ofString "/claim/cut.py") 172 }, { hash := PyData.keyHash P (Str.ofString "__cached__"), key := Value.str (Str.ofString "__cached__") 174, val := Value.none }, { hash := PyData.keyHash P (Str.ofString "_wall"), key := Value.str (Str.ofString "_wall") 193, val := Value.ref 21 }, { hash := PyData.keyHash P (Str.ofString "ClauseRecord"), key := Value.str (Str.ofString "ClauseRecord") 236, val := Value.ref 38 }, { hash := PyData.keyHash P (Str.ofString "Procedure"), key := Value.str (Str.ofString "Procedure") 282, val := Value.ref 66 }, { hash := PyData.keyHash P (Str.ofString "ClauseStore"), key := Value.str (Str.ofString "ClauseStore") 419, val := Value.ref 157 }, { hash := PyData.keyHash P (Str.ofString "sweep"), key := Value.str (Str.ofString "sweep") 433, val := Value.ref 168 }, { hash := PyData.keyHash P (Str.ofString "record_is_sound"), key := Value.str (Str.ofString "record_is_sound") 443, val := Value.ref 175 }, { hash := PyData.keyHash P (Str.ofString "check_records"), key := Value.str (Str.ofString "check_records") 457, val := Value.ref 182 }, { hash := PyData.keyHash P (Str.ofString "_law_turn"), key := Value.str (Str.ofString "_law_turn") 468, val := Value.ref 189 }, { hash := PyData.keyHash P (Str.ofString "_law_history"), key := Value.str (Str.ofString "_law_history") 478, val := Value.ref 196 }, { hash := PyData.keyHash P (Str.ofString "_law_made"), key := Value.str (Str.ofString "_law_made") 484, val := Value.ref 201 }, { hash := PyData.keyHash P (Str.ofString "_law_spoiled"), key := Value.str (Str.ofString "_law_spoiled") 496, val := Value.ref 208 }, { hash := PyData.keyHash P (Str.ofString "_law_chain"), key := Value.str (Str.ofString "_law_chain") 506, val := Value.ref 215 }, { hash := PyData.keyHash P (Str.ofString "law"), key := Value.str (Str.ofString "law") 523, val := Value.ref 222 }] 22 }), (20, { cls := Value.type "code", data := Data.fields #[Value.str (Str.ofString "_wall") 187, Value.str (Str.ofString "_wall") 188, Value.str (Str.ofString "/claim/cut.py") 189, Value.int 1 0, Value.int 1 0, Value.int 0 0, Value.int 0 0, Value.int 3 0, Value.ref 15, Value.bool true, Value.int 181 0, Value.ref 16, Value.none, Value.ref 17, Value.ref 18, Value.ref 19, Value.int 191 0, Value.int 1 0, Value.str (Str.ofString "/claim/cut.py") 192] }), (21, { cls := Value.type "function", data := Data.func { name := Str.ofString "_wall", qualname := Str.ofString "_wall", params := dArgs (st1 0), body := FuncBody.stmts (dBody (st1 0)), scope := dScope (st1 0), globals := 3, closure := [], defaults := Value.none, kwdefaults := Value.none, pyModule := Value.str (Str.ofString "__main__") 164, code := Value.ref 20 } }), (34, { cls := Value.type "code", data := Data.fields #[Value.str (Str.ofString "__init__") 208, Value.str (Str.ofString "ClauseRecord.__init__") 209, Value.str (Str.ofString "/claim/cut.py") 210, Value.int 7 0, Value.int 7 0, Value.int 0 0, Value.int 0 0, Value.int 3 0, Value.ref 29, Value.bool true, Value.int 181 0, Value.ref 30, Value.none, Value.ref 31, Value.ref 32, Value.ref 33, Value.int 218 0, Value.int 7 0, Value.str (Str.ofString "/claim/cut.py") 219] }), (35, { cls := Value.type "function", data := Data.func { name := Str.ofString "__init__", qualname := Str.ofString "ClauseRecord.__init__", params := dArgs (m1 2 0), body := FuncBody.stmts (dBody (m1 2 0)), scope := dScope (m1 2 0), globals := 3, closure := [], defaults := Value.none, kwdefaults := Value.none, pyModule := Value.str (Str.ofString "clausemill.clauses") 194, code := Value.ref 34 } }), (37, { cls := Value.type "dict", data := Data.dict #[{ hash := PyData.keyHash P (Str.ofString "__module__"), key := Value.str (Str.ofString "__module__") 203, val := Value.str (Str.ofString "clausemill.clauses") 194 }, { hash := PyData.keyHash P (Str.ofString "__firstlineno__"), key := Value.str (Str.ofString "__firstlineno__") 207, val := Value.int 5 206 }, { hash := PyData.keyHash P (Str.ofString "__init__"), key := Value.str (Str.ofString "__init__") 220, val := Value.ref 35 }, { hash := PyData.keyHash P (Str.ofString "__static_attributes__"), key := Value.str (Str.ofString "__static_attributes__") 229, val := Value.ref 36 }, { hash := PyData.keyHash P (Str.ofString "__dict__"), key := Value.str (Str.ofString "__dict__") 231, val := Value.ref 39 }, { hash := PyData.keyHash P (Str.ofString "__weakref__"), key := Value.str (Str.ofString "__weakref__") 233, val := Value.ref 40 }, { hash := PyData.keyHash P (Str.ofString "__doc__"), key := Value.str (Str.ofString "__doc__") 234, val := Value.none }] 4 })]
noncomputable def own11 (P : Params) : Frag := [(38, { cls := Value.type "type", data := Data.cls { name := Str.ofString "ClauseRecord", bases := [Value.type "object"], mro := [Value.ref 38, Value.type "object"], ns := 37, qualname := Str.ofString "ClauseRecord" }, slots := #[none, none, some (Value.str (Str.ofString "ClauseRecord") 196), some (Value.str (Str.ofString "ClauseRecord") 204), some (Value.builtin "object.__new__"), some (Value.bool true)] }), (39, { cls := Value.type "getset_descriptor", data := Data.fields #[Value.str (Str.ofString "__dict__") 230, Value.ref 38, Value.builtin "function.__dict__", Value.builtin "function.__dict__#set"] }), (40, { cls := Value.type "getset_descriptor", data := Data.fields #[Value.str (Str.ofString "__weakref__") 232, Value.ref 38, Value.builtin "ExceptionGroup.__weakref__", Value.none] }), (55, { cls := Value.type "code", data := Data.fields #[Value.str (Str.ofString "__init__") 249, Value.str (Str.ofString "Procedure.__init__") 250, Value.str (Str.ofString "/claim/cut.py") 251, Value.int 18 0, Value.int 3 0, Value.int 0 0, Value.int 0 0, Value.int 3 0, Value.ref 50, Value.bool true, Value.int 181 0, Value.ref 51, Value.none, Value.ref 52, Value.ref 53, Value.ref 54, Value.int 255 0, Value.int 18 0, Value.str (Str.ofString "/claim/cut.py") 256] }), (56, { cls := Value.type "function", data := Data.func { name := Str.ofString "__init__", qualname := Str.ofString "Procedure.__init__", params := dArgs (m1 3 0), body := FuncBody.stmts (dBody (m1 3 0)), scope := dScope (m1 3 0), globals := 3, closure := [], defaults := Value.none, kwdefaults := Value.none, pyModule := Value.str (Str.ofString "clausemill.clauses") 194, code := Value.ref 55 } }), (62, { cls := Value.type "code", data := Data.fields #[Value.str (Str.ofString "is_users") 258, Value.str (Str.ofString "Procedure.is_users") 259, Value.str (Str.ofString "/claim/cut.py") 260, Value.int 30 0, Value.int 1 0, Value.int 0 0, Value.int 0 0, Value.int 3 0, Value.ref 57, Value.bool true, Value.int 181 0, Value.ref 58, Value.none, Value.ref 59, Value.ref 60, Value.ref 61, Value.int 262 0, Value.int 30 0, Value.str (Str.ofString "/claim/cut.py") 263] })]
noncomputable def own12 (P : Params) : Frag := [(63, { cls := Value.type "function", data := Data.func { name := Str.ofString "is_users", qualname := Str.ofString "Procedure.is_users", params := dArgs (m1 3 1), body := FuncBody.stmts (dBody (m1 3 1)), scope := dScope (m1 3 1), globals := 3, closure := [], defaults := Value.none, kwdefaults := Value.none, pyModule := Value.str (Str.ofString "clausemill.clauses") 194, code := Value.ref 62 } }), (65, { cls := Value.type "dict", data := Data.dict #[{ hash := PyData.keyHash P (Str.ofString "__module__"), key := Value.str (Str.ofString "__module__") 244, val := Value.str (Str.ofString "clausemill.clauses") 194 }, { hash := PyData.keyHash P (Str.ofString "__firstlineno__"), key := Value.str (Str.ofString "__firstlineno__") 248, val := Value.int 16 247 }, { hash := PyData.keyHash P (Str.ofString "__init__"), key := Value.str (Str.ofString "__init__") 257, val := Value.ref 56 }, { hash := PyData.keyHash P (Str.ofString "is_users"), key := Value.str (Str.ofString "is_users") 264, val := Value.ref 63 }, { hash := PyData.keyHash P (Str.ofString "__static_attributes__"), key := Value.str (Str.ofString "__static_attributes__") 275, val := Value.ref 64 }, { hash := PyData.keyHash P (Str.ofString "__dict__"), key := Value.str (Str.ofString "__dict__") 277, val := Value.ref 67 }, { hash := PyData.keyHash P (Str.ofString "__weakref__"), key := Value.str (Str.ofString "__weakref__") 279, val := Value.ref 68 }, { hash := PyData.keyHash P (Str.ofString "__doc__"), key := Value.str (Str.ofString "__doc__") 280, val := Value.none }] 4 }), (66, { cls := Value.type "type", data := Data.cls { name := Str.ofString "Procedure", bases := [Value.type "object"], mro := [Value.ref 66, Value.type "object"], ns := 65, qualname := Str.ofString "Procedure" }, slots := #[none, none, some (Value.str (Str.ofString "Procedure") 237), some (Value.str (Str.ofString "Procedure") 245), some (Value.builtin "object.__new__"), some (Value.bool true)] }), (67, { cls := Value.type "getset_descriptor", data := Data.fields #[Value.str (Str.ofString "__dict__") 276, Value.ref 66, Value.builtin "function.__dict__", Value.builtin "function.__dict__#set"] }), (68, { cls := Value.type "getset_descriptor", data := Data.fields #[Value.str (Str.ofString "__weakref__") 278, Value.ref 66, Value.builtin "ExceptionGroup.__weakref__", Value.none] }), (83, { cls := Value.type "code", data := Data.fields #[Value.str (Str.ofString "__init__") 295, Value.str (Str.ofString "ClauseStore.__init__") 296, Value.str (Str.ofString "/claim/cut.py") 297, Value.int 34 0, Value.int 1 0, Value.int 0 0, Value.int 0 0, Value.int 3 0, Value.ref 78, Value.bool true, Value.int 181 0, Value.ref 79, Value.none, Value.ref 80, Value.ref 81, Value.ref 82, Value.int 299 0, Value.int 34 0, Value.str (Str.ofString "/claim/cut.py") 300] })]
noncomputable def own13 (P : Params) : Frag := [(84, { cls := Value.type "function", data := Data.func { name := Str.ofString "__init__", qualname := Str.ofString "ClauseStore.__init__", params := dArgs (m1 4 0), body := FuncBody.stmts (dBody (m1 4 0)), scope := dScope (m1 4 0), globals := 3, closure := [], defaults := Value.none, kwdefaults := Value.none, pyModule := Value.str (Str.ofString "clausemill.clauses") 194, code := Value.ref 83 } }), (90, { cls := Value.type "code", data := Data.fields #[Value.str (Str.ofString "new_record") 302, Value.str (Str.ofString "ClauseStore.new_record") 303, Value.str (Str.ofString "/claim/cut.py") 304, Value.int 39 0, Value.int 5 0, Value.int 0 0, Value.int 0 0, Value.int 3 0, Value.ref 85, Value.bool true, Value.int 181 0, Value.ref 86, Value.none, Value.ref 87, Value.ref 88, Value.ref 89, Value.int 312 0, Value.int 39 0, Value.str (Str.ofString "/claim/cut.py") 313] }), (91, { cls := Value.type "function", data := Data.func { name := Str.ofString "new_record", qualname := Str.ofString "ClauseStore.new_record", params := dArgs (m1 4 1), body := FuncBody.stmts (dBody (m1 4 1)), scope := dScope (m1 4 1), globals := 3, closure := [], defaults := Value.none, kwdefaults := Value.none, pyModule := Value.str (Str.ofString "clausemill.clauses") 194, code := Value.ref 90 } }), (97, { cls := Value.type "code", data := Data.fields #[Value.str (Str.ofString "append_record") 315, Value.str (Str.ofString "ClauseStore.append_record") 316, Value.str (Str.ofString "/claim/cut.py") 317, Value.int 47 0, Value.int 5 0, Value.int 0 0, Value.int 0 0, Value.int 3 0, Value.ref 92, Value.bool true, Value.int 181 0, Value.ref 93, Value.none, Value.ref 94, Value.ref 95, Value.ref 96, Value.int 324 0, Value.int 47 0, Value.str (Str.ofString "/claim/cut.py") 325] }), (98, { cls := Value.type "function", data := Data.func { name := Str.ofString "append_record", qualname := Str.ofString "ClauseStore.append_record", params := dArgs (m1 4 2), body := FuncBody.stmts (dBody (m1 4 2)), scope := dScope (m1 4 2), globals := 3, closure := [], defaults := Value.none, kwdefaults := Value.none, pyModule := Value.str (Str.ofString "clausemill.clauses") 194, code := Value.ref 97 } }), (104, { cls := Value.type "code", data := Data.fields #[Value.str (Str.ofString "prepend_record") 327, Value.str (Str.ofString "ClauseStore.prepend_record") 328, Value.str (Str.ofString "/claim/cut.py") 329, Value.int 56 0, Value.int 5 0, Value.int 0 0, Value.int 0 0, Value.int 3 0, Value.ref 99, Value.bool true, Value.int 181 0, Value.ref 100, Value.none, Value.ref 101, Value.ref 102, Value.ref 103, Value.int 336 0, Value.int 56 0, Value.str (Str.ofString "/claim/cut.py") 337] })]
noncomputable def own14 (P : Params) : Frag := [(105, { cls := Value.type "function", data := Data.func { name := Str.ofString "prepend_record", qualname := Str.ofString "ClauseStore.prepend_record", params := dArgs (m1 4 3), body := FuncBody.stmts (dBody (m1 4 3)), scope := dScope (m1 4 3), globals := 3, closure := [], defaults := Value.none, kwdefaults := Value.none, pyModule := Value.str (Str.ofString "clausemill.clauses") 194, code := Value.ref 104 } }), (111, { cls := Value.type "code", data := Data.fields #[Value.str (Str.ofString "visible") 339, Value.str (Str.ofString "ClauseStore.visible") 340, Value.str (Str.ofString "/claim/cut.py") 341, Value.int 64 0, Value.int 3 0, Value.int 0 0, Value.int 0 0, Value.int 3 0, Value.ref 106, Value.bool true, Value.int 181 0, Value.ref 107, Value.none, Value.ref 108, Value.ref 109, Value.ref 110, Value.int 345 0, Value.int 64 0, Value.str (Str.ofString "/claim/cut.py") 346] }), (112, { cls := Value.type "function", data := Data.func { name := Str.ofString "visible", qualname := Str.ofString "ClauseStore.visible", params := dArgs (m1 4 4), body := FuncBody.stmts (dBody (m1 4 4)), scope := dScope (m1 4 4), globals := 3, closure := [], defaults := Value.none, kwdefaults := Value.none, pyModule := Value.str (Str.ofString "clausemill.clauses") 194, code := Value.ref 111 } }), (118, { cls := Value.type "code", data := Data.fields #[Value.str (Str.ofString "live_from") 348, Value.str (Str.ofString "ClauseStore.live_from") 349, Value.str (Str.ofString "/claim/cut.py") 350, Value.int 67 0, Value.int 4 0, Value.int 0 0, Value.int 0 0, Value.int 3 0, Value.ref 113, Value.bool true, Value.int 181 0, Value.ref 114, Value.none, Value.ref 115, Value.ref 116, Value.ref 117, Value.int 355 0, Value.int 67 0, Value.str (Str.ofString "/claim/cut.py") 356] }), (119, { cls := Value.type "function", data := Data.func { name := Str.ofString "live_from", qualname := Str.ofString "ClauseStore.live_from", params := dArgs (m1 4 5), body := FuncBody.stmts (dBody (m1 4 5)), scope := dScope (m1 4 5), globals := 3, closure := [], defaults := Value.none, kwdefaults := Value.none, pyModule := Value.str (Str.ofString "clausemill.clauses") 194, code := Value.ref 118 } }), (125, { cls := Value.type "code", data := Data.fields #[Value.str (Str.ofString "first_live") 358, Value.str (Str.ofString "ClauseStore.first_live") 359, Value.str (Str.ofString "/claim/cut.py") 360, Value.int 70 0, Value.int 4 0, Value.int 0 0, Value.int 0 0, Value.int 3 0, Value.ref 120, Value.bool true, Value.int 181 0, Value.ref 121, Value.none, Value.ref 122, Value.ref 123, Value.ref 124, Value.int 365 0, Value.int 70 0, Value.str (Str.ofString "/claim/cut.py") 366] })]
noncomputable def own15 (P : Params) : Frag := [(126, { cls := Value.type "function", data := Data.func { name := Str.ofString "first_live", qualname := Str.ofString "ClauseStore.first_live", params := dArgs (m1 4 6), body := FuncBody.stmts (dBody (m1 4 6)), scope := dScope (m1 4 6), globals := 3, closure := [], defaults := Value.none, kwdefaults := Value.none, pyModule := Value.str (Str.ofString "clausemill.clauses") 194, code := Value.ref 125 } }), (132, { cls := Value.type "code", data := Data.fields #[Value.str (Str.ofString "next_live") 368, Value.str (Str.ofString "ClauseStore.next_live") 369, Value.str (Str.ofString "/claim/cut.py") 370, Value.int 73 0, Value.int 4 0, Value.int 0 0, Value.int 0 0, Value.int 3 0, Value.ref 127, Value.bool true, Value.int 181 0, Value.ref 128, Value.none, Value.ref 129, Value.ref 130, Value.ref 131, Value.int 375 0, Value.int 73 0, Value.str (Str.ofString "/claim/cut.py") 376] }), (133, { cls := Value.type "function", data := Data.func { name := Str.ofString "next_live", qualname := Str.ofString "ClauseStore.next_live", params := dArgs (m1 4 7), body := FuncBody.stmts (dBody (m1 4 7)), scope := dScope (m1 4 7), globals := 3, closure := [], defaults := Value.none, kwdefaults := Value.none, pyModule := Value.str (Str.ofString "clausemill.clauses") 194, code := Value.ref 132 } }), (139, { cls := Value.type "code", data := Data.fields #[Value.str (Str.ofString "chain") 378, Value.str (Str.ofString "ClauseStore.chain") 379, Value.str (Str.ofString "/claim/cut.py") 380, Value.int 76 0, Value.int 3 0, Value.int 0 0, Value.int 0 0, Value.int 3 0, Value.ref 134, Value.bool true, Value.int 181 0, Value.ref 135, Value.none, Value.ref 136, Value.ref 137, Value.ref 138, Value.int 387 0, Value.int 76 0, Value.str (Str.ofString "/claim/cut.py") 388] }), (140, { cls := Value.type "function", data := Data.func { name := Str.ofString "chain", qualname := Str.ofString "ClauseStore.chain", params := dArgs (m1 4 8), body := FuncBody.stmts (dBody (m1 4 8)), scope := dScope (m1 4 8), globals := 3, closure := [], defaults := Value.none, kwdefaults := Value.none, pyModule := Value.str (Str.ofString "clausemill.clauses") 194, code := Value.ref 139 } }), (146, { cls := Value.type "code", data := Data.fields #[Value.str (Str.ofString "erase") 390, Value.str (Str.ofString "ClauseStore.erase") 391, Value.str (Str.ofString "/claim/cut.py") 392, Value.int 86 0, Value.int 2 0, Value.int 0 0, Value.int 0 0, Value.int 3 0, Value.ref 141, Value.bool true, Value.int 181 0, Value.ref 142, Value.none, Value.ref 143, Value.ref 144, Value.ref 145, Value.int 396 0, Value.int 86 0, Value.str (Str.ofString "/claim/cut.py") 397] })]
noncomputable def own16 (P : Params) : Frag := [(147, { cls := Value.type "function", data := Data.func { name := Str.ofString "erase", qualname := Str.ofString "ClauseStore.erase", params := dArgs (m1 4 9), body := FuncBody.stmts (dBody (m1 4 9)), scope := dScope (m1 4 9), globals := 3, closure := [], defaults := Value.none, kwdefaults := Value.none, pyModule := Value.str (Str.ofString "clausemill.clauses") 194, code := Value.ref 146 } }), (153, { cls := Value.type "code", data := Data.fields #[Value.str (Str.ofString "kill_all") 399, Value.str (Str.ofString "ClauseStore.kill_all") 400, Value.str (Str.ofString "/claim/cut.py") 401, Value.int 94 0, Value.int 2 0, Value.int 0 0, Value.int 0 0, Value.int 3 0, Value.ref 148, Value.bool true, Value.int 181 0, Value.ref 149, Value.none, Value.ref 150, Value.ref 151, Value.ref 152, Value.int 406 0, Value.int 94 0, Value.str (Str.ofString "/claim/cut.py") 407] }), (154, { cls := Value.type "function", data := Data.func { name := Str.ofString "kill_all", qualname := Str.ofString "ClauseStore.kill_all", params := dArgs (m1 4 10), body := FuncBody.stmts (dBody (m1 4 10)), scope := dScope (m1 4 10), globals := 3, closure := [], defaults := Value.none, kwdefaults := Value.none, pyModule := Value.str (Str.ofString "clausemill.clauses") 194, code := Value.ref 153 } }), (156, { cls := Value.type "dict", data := Data.dict #[{ hash := PyData.keyHash P (Str.ofString "__module__"), key := Value.str (Str.ofString "__module__") 290, val := Value.str (Str.ofString "clausemill.clauses") 194 }, { hash := PyData.keyHash P (Str.ofString "__firstlineno__"), key := Value.str (Str.ofString "__firstlineno__") 294, val := Value.int 32 293 }, { hash := PyData.keyHash P (Str.ofString "__init__"), key := Value.str (Str.ofString "__init__") 301, val := Value.ref 84 }, { hash := PyData.keyHash P (Str.ofString "new_record"), key := Value.str (Str.ofString "new_record") 314, val := Value.ref 91 }, { hash := PyData.keyHash P (Str.ofString "append_record"), key := Value.str (Str.ofString "append_record") 326, val := Value.ref 98 }, { hash := PyData.keyHash P (Str.ofString "prepend_record"), key := Value.str (Str.ofString "prepend_record") 338, val := Value.ref 105 }, { hash := PyData.keyHash P (Str.ofString "visible"), key := Value.str (Str.ofString "visible") 347, val := Value.ref 112 }, { hash := PyData.keyHash P (Str.ofString "live_from"), key := Value.str (Str.ofString "live_from") 357, val := Value.ref 119 }, { hash := PyData.keyHash P (Str.ofString "first_live"), key := Value.str (Str.ofString "first_live") 367, val := Value.ref 126 }, { hash := PyData.keyHash P (Str.ofString "next_live"), key := Value.str (Str.ofString "next_live") 377, val := Value.ref 133 }, { hash := PyData.keyHash P (Str.ofString "chain"), key := Value.str (Str.ofString "chain") 389, val := Value.ref 140 }, { hash := PyData.keyHash P (Str.ofString "erase"), key := Value.str (Str.ofString "erase") 398, val := Value.ref 147 }, { hash := PyData.keyHash P (Str.ofString "kill_all"), key := Value.str (Str.ofString "kill_all") 408, val := Value.ref 154 }, { hash := PyData.keyHash P (Str.ofString "__static_attributes__"), key := Value.str (Str.ofString "__static_attributes__") 412, val := Value.ref 155 }, { hash := PyData.keyHash P (Str.ofString "__dict__"), key := Value.str (Str.ofString "__dict__") 414, val := Value.ref 158 }, { hash := PyData.keyHash P (Str.ofString "__weakref__"), key := Value.str (Str.ofString "__weakref__") 416, val := Value.ref 159 }, { hash := PyData.keyHash P (Str.ofString "__doc__"), key := Value.str (Str.ofString "__doc__") 417, val := Value.none }] 4 }), (157, { cls := Value.type "type", data := Data.cls { name := Str.ofString "ClauseStore", bases := [Value.type "object"], mro := [Value.ref 157, Value.type "object"], ns := 156, qualname := Str.ofString "ClauseStore" }, slots := #[none, none, some (Value.str (Str.ofString "ClauseStore") 283), some (Value.str (Str.ofString "ClauseStore") 291), some (Value.builtin "object.__new__"), some (Value.bool true)] }), (158, { cls := Value.type "getset_descriptor", data := Data.fields #[Value.str (Str.ofString "__dict__") 413, Value.ref 157, Value.builtin "function.__dict__", Value.builtin "function.__dict__#set"] })]
noncomputable def own17 (P : Params) : Frag := [(159, { cls := Value.type "getset_descriptor", data := Data.fields #[Value.str (Str.ofString "__weakref__") 415, Value.ref 157, Value.builtin "ExceptionGroup.__weakref__", Value.none] }), (167, { cls := Value.type "code", data := Data.fields #[Value.str (Str.ofString "sweep") 420, Value.str (Str.ofString "sweep") 421, Value.str (Str.ofString "/claim/cut.py") 422, Value.int 100 0, Value.int 2 0, Value.int 0 0, Value.int 0 0, Value.int 3 0, Value.ref 162, Value.bool true, Value.int 181 0, Value.ref 163, Value.none, Value.ref 164, Value.ref 165, Value.ref 166, Value.int 431 0, Value.int 100 0, Value.str (Str.ofString "/claim/cut.py") 432] }), (168, { cls := Value.type "function", data := Data.func { name := Str.ofString "sweep", qualname := Str.ofString "sweep", params := dArgs (st1 5), body := FuncBody.stmts (dBody (st1 5)), scope := dScope (st1 5), globals := 3, closure := [], defaults := Value.none, kwdefaults := Value.none, pyModule := Value.str (Str.ofString "clausemill.clauses") 194, code := Value.ref 167 } }), (174, { cls := Value.type "code", data := Data.fields #[Value.str (Str.ofString "record_is_sound") 434, Value.str (Str.ofString "record_is_sound") 435, Value.str (Str.ofString "/claim/cut.py") 436, Value.int 118 0, Value.int 4 0, Value.int 0 0, Value.int 0 0, Value.int 3 0, Value.ref 169, Value.bool true, Value.int 181 0, Value.ref 170, Value.none, Value.ref 171, Value.ref 172, Value.ref 173, Value.int 441 0, Value.int 118 0, Value.str (Str.ofString "/claim/cut.py") 442] }), (175, { cls := Value.type "function", data := Data.func { name := Str.ofString "record_is_sound", qualname := Str.ofString "record_is_sound", params := dArgs (st1 6), body := FuncBody.stmts (dBody (st1 6)), scope := dScope (st1 6), globals := 3, closure := [], defaults := Value.none, kwdefaults := Value.none, pyModule := Value.str (Str.ofString "clausemill.clauses") 194, code := Value.ref 174 } }), (181, { cls := Value.type "code", data := Data.fields #[Value.str (Str.ofString "check_records") 444, Value.str (Str.ofString "check_records") 445, Value.str (Str.ofString "/claim/cut.py") 446, Value.int 126 0, Value.int 2 0, Value.int 0 0, Value.int 0 0, Value.int 3 0, Value.ref 176, Value.bool true, Value.int 181 0, Value.ref 177, Value.none, Value.ref 178, Value.ref 179, Value.ref 180, Value.int 455 0, Value.int 126 0, Value.str (Str.ofString "/claim/cut.py") 456] })]
noncomputable def own18 (P : Params) : Frag := [(182, { cls := Value.type "function", data := Data.func { name := Str.ofString "check_records", qualname := Str.ofString "check_records", params := dArgs (st1 7), body := FuncBody.stmts (dBody (st1 7)), scope := dScope (st1 7), globals := 3, closure := [], defaults := Value.none, kwdefaults := Value.none, pyModule := Value.str (Str.ofString "clausemill.clauses") 194, code := Value.ref 181 } }), (188, { cls := Value.type "code", data := Data.fields #[Value.str (Str.ofString "_law_turn") 460, Value.str (Str.ofString "_law_turn") 461, Value.str (Str.ofString "/claim/cut.py") 462, Value.int 145 0, Value.int 2 0, Value.int 0 0, Value.int 0 0, Value.int 3 0, Value.ref 183, Value.bool true, Value.int 181 0, Value.ref 184, Value.none, Value.ref 185, Value.ref 186, Value.ref 187, Value.int 466 0, Value.int 145 0, Value.str (Str.ofString "/claim/cut.py") 467] }), (189, { cls := Value.type "function", data := Data.func { name := Str.ofString "_law_turn", qualname := Str.ofString "_law_turn", params := dArgs (st1 9), body := FuncBody.stmts (dBody (st1 9)), scope := dScope (st1 9), globals := 3, closure := [], defaults := Value.none, kwdefaults := Value.none, pyModule := Value.str (Str.ofString "law_ok0011_01") 458, code := Value.ref 188 } }), (195, { cls := Value.type "code", data := Data.fields #[Value.str (Str.ofString "_law_history") 469, Value.str (Str.ofString "_law_history") 470, Value.str (Str.ofString "/claim/cut.py") 471, Value.int 151 0, Value.int 1 0, Value.int 0 0, Value.int 0 0, Value.int 3 0, Value.ref 190, Value.bool true, Value.int 181 0, Value.ref 191, Value.none, Value.ref 192, Value.ref 193, Value.ref 194, Value.int 476 0, Value.int 151 0, Value.str (Str.ofString "/claim/cut.py") 477] }), (196, { cls := Value.type "function", data := Data.func { name := Str.ofString "_law_history", qualname := Str.ofString "_law_history", params := dArgs (st1 10), body := FuncBody.stmts (dBody (st1 10)), scope := dScope (st1 10), globals := 3, closure := [], defaults := Value.none, kwdefaults := Value.none, pyModule := Value.str (Str.ofString "law_ok0011_01") 458, code := Value.ref 195 } }), (200, { cls := Value.type "code", data := Data.fields #[Value.str (Str.ofString "_law_made") 479, Value.str (Str.ofString "_law_made") 480, Value.str (Str.ofString "/claim/cut.py") 481, Value.int 157 0, Value.int 1 0, Value.int 0 0, Value.int 0 0, Value.int 3 0, Value.ref 197, Value.bool true, Value.int 181 0, Value.ref 198, Value.none, Value.none, Value.none, Value.ref 199, Value.int 482 0, Value.int 157 0, Value.str (Str.ofString "/claim/cut.py") 483] })]
noncomputable def own19 (P : Params) : Frag := [(201, { cls := Value.type "function", data := Data.func { name := Str.ofString "_law_made", qualname := Str.ofString "_law_made", params := dArgs (st1 11), body := FuncBody.stmts (dBody (st1 11)), scope := dScope (st1 11), globals := 3, closure := [], defaults := Value.none, kwdefaults := Value.none, pyModule := Value.str (Str.ofString "law_ok0011_01") 458, code := Value.ref 200 } }), (207, { cls := Value.type "code", data := Data.fields #[Value.str (Str.ofString "_law_spoiled") 485, Value.str (Str.ofString "_law_spoiled") 486, Value.str (Str.ofString "/claim/cut.py") 487, Value.int 180 0, Value.int 3 0, Value.int 0 0, Value.int 0 0, Value.int 3 0, Value.ref 202, Value.bool true, Value.int 181 0, Value.ref 203, Value.none, Value.ref 204, Value.ref 205, Value.ref 206, Value.int 494 0, Value.int 180 0, Value.str (Str.ofString "/claim/cut.py") 495] }), (208, { cls := Value.type "function", data := Data.func { name := Str.ofString "_law_spoiled", qualname := Str.ofString "_law_spoiled", params := dArgs (st1 12), body := FuncBody.stmts (dBody (st1 12)), scope := dScope (st1 12), globals := 3, closure := [], defaults := Value.none, kwdefaults := Value.none, pyModule := Value.str (Str.ofString "law_ok0011_01") 458, code := Value.ref 207 } }), (214, { cls := Value.type "code", data := Data.fields #[Value.str (Str.ofString "_law_chain") 497, Value.str (Str.ofString "_law_chain") 498, Value.str (Str.ofString "/claim/cut.py") 499, Value.int 220 0, Value.int 2 0, Value.int 0 0, Value.int 0 0, Value.int 3 0, Value.ref 209, Value.bool true, Value.int 181 0, Value.ref 210, Value.none, Value.ref 211, Value.ref 212, Value.ref 213, Value.int 504 0, Value.int 220 0, Value.str (Str.ofString "/claim/cut.py") 505] }), (215, { cls := Value.type "function", data := Data.func { name := Str.ofString "_law_chain", qualname := Str.ofString "_law_chain", params := dArgs (st1 13), body := FuncBody.stmts (dBody (st1 13)), scope := dScope (st1 13), globals := 3, closure := [], defaults := Value.none, kwdefaults := Value.none, pyModule := Value.str (Str.ofString "law_ok0011_01") 458, code := Value.ref 214 } }), (221, { cls := Value.type "code", data := Data.fields #[Value.str (Str.ofString "law") 507, Value.str (Str.ofString "law") 508, Value.str (Str.ofString "/claim/cut.py") 509, Value.int 227 0, Value.int 1 0, Value.int 0 0, Value.int 0 0, Value.int 3 0, Value.ref 216, Value.bool true, Value.int 181 0, Value.ref 217, Value.none, Value.ref 218, Value.ref 219, Value.ref 220, Value.int 521 0, Value.int 227 0, Value.str (Str.ofString "/claim/cut.py") 522] })]
noncomputable def own20 (P : Params) : Frag := [(222, { cls := Value.type "function", data := Data.func { name := Str.ofString "law", qualname := Str.ofString "law", params := dArgs (st1 14), body := FuncBody.stmts (dBody (st1 14)), scope := dScope (st1 14), globals := 3, closure := [], defaults := Value.none, kwdefaults := Value.none, pyModule := Value.str (Str.ofString "law_ok0011_01") 458, code := Value.ref 221 } })]
noncomputable def own (P : Params) : Frag := (2, own2) :: (own10 P ++ (own11 P ++ (own12 P ++ (own13 P ++ (own14 P ++ (own15 P ++ (own16 P ++ (own17 P ++ (own18 P ++ (own19 P ++ (own20 P)))))))))))
noncomputable def ownAs : List Addr := [2, 3, 20, 21, 34, 35, 37, 38, 39, 40, 55, 56, 62, 63, 65, 66, 67, 68, 83, 84, 90, 91, 97, 98, 104, 105, 111, 112, 118, 119, 125, 126, 132, 133, 139, 140, 146, 147, 153, 154, 156, 157, 158, 159, 167, 168, 174, 175, 181, 182, 188, 189, 195, 196, 200, 201, 207, 208, 214, 215, 221, 222]
theorem own_as (P : Params) : ownAs = (own P).map (·.1) := rfl

noncomputable def view : Program := { PySem.Challenge.rw_ok0011_01.row.toRowW.prog with main := { PySem.Challenge.rw_ok0011_01.row.toRowW.prog.main with body := [st1 0, st1 2, st1 3, st1 4, st1 5, st1 6, st1 7, st1 9, st1 10, st1 11, st1 12, st1 13, st1 14] } }
noncomputable abbrev hook : Hook := kHook own ownAs own_as
set_option maxHeartbeats 8000000 in
theorem run_left : LeftO PySem.Challenge.rw_ok0011_01.row.prog view [] (fun s => xlAt view [] s && recOk (RowW.records PySem.Challenge.rw_ok0011_01.row.toRowW) s) (Hook.obs hook) (Hook.val hook) 2950 := fun w => by kernel_rfl
end Mine
open PySem PySem.W PyProof.Rows PySem.Calls
set_option Elab.async false
set_option maxRecDepth 100000
set_option linter.unusedVariables false
namespace Mine

inductive AV where
  | none | bool (b : Bool) | int (i : Int) | str (s : Str) | ref (a : Addr) | raw (v : Value)

def AV.is : AV → Value → Prop
  | .none, v => v = .none
  | .bool b, v => v = .bool b
  | .int i, v => ∃ t, v = .int i t
  | .str s, v => ∃ t, v = .str s t
  | .ref a, v => v = .ref a
  | .raw w, v => v = w

inductive AO where
  | inst (C : Addr) (fs : List (Str × AV))
  | list (l : List AV)
  | tup (l : List AV)
  | idict (l : List (Int × AV)) (ep : Nat)
  | sdict (l : List (Str × AV))
  | rng (n : Int)
  | slc (l u s : AV)

def AO.notInst : AO → Prop
  | .inst .. => False
  | _ => True

/-- two lists item by item -/
inductive Are {α β : Type} (R : α → β → Prop) : List α → List β → Prop
  | nil : Are R [] []
  | cons {a b l k} : R a b → Are R l k → Are R (a :: l) (b :: k)

theorem Are.length {α β : Type} {R : α → β → Prop} {l : List α} {k : List β} (h : Are R l k) : l.length = k.length := by
  induction h with
  | nil => rfl
  | cons _ _ ih => simp [ih]
theorem Are.get {α β : Type} {R : α → β → Prop} {l : List α} {k : List β} (h : Are R l k) : ∀ {i : Nat} {a : α}, l[i]? = some a → ∃ b, k[i]? = some b ∧ R a b := by
  induction h with
  | nil => intro i a e; cases e
  | cons hr _ ih =>
    intro i a e
    cases i with
    | zero => cases e; exact ⟨_, rfl, hr⟩
    | succ j => exact ih (by simpa using e)
theorem Are.get' {α β : Type} {R : α → β → Prop} {l : List α} {k : List β} (h : Are R l k) : ∀ {i : Nat} {b : β}, k[i]? = some b → ∃ a, l[i]? = some a ∧ R a b := by
  induction h with
  | nil => intro i a e; cases e
  | cons hr _ ih =>
    intro i a e
    cases i with
    | zero => cases e; exact ⟨_, rfl, hr⟩
    | succ j => exact ih (by simpa using e)
theorem Are.append {α β : Type} {R : α → β → Prop} {l l' : List α} {k k' : List β} (h : Are R l k) (h' : Are R l' k') : Are R (l ++ l') (k ++ k') := by
  induction h with
  | nil => exact h'
  | cons hr _ ih => exact .cons hr ih
theorem Are.reverse {α β : Type} {R : α → β → Prop} {l : List α} {k : List β} (h : Are R l k) : Are R l.reverse k.reverse := by
  induction h with
  | nil => exact .nil
  | cons hr _ ih => simp only [List.reverse_cons]; exact ih.append (.cons hr .nil)
theorem Are.take {α β : Type} {R : α → β → Prop} {l : List α} {k : List β} (h : Are R l k) : ∀ n, Are R (l.take n) (k.take n) := by
  induction h with
  | nil => intro n; simp; exact .nil
  | cons hr _ ih =>
    intro n
    cases n with
    | zero => exact .nil
    | succ n => exact .cons hr (ih n)
theorem Are.drop {α β : Type} {R : α → β → Prop} {l : List α} {k : List β} (h : Are R l k) : ∀ n, Are R (l.drop n) (k.drop n) := by
  induction h with
  | nil => intro n; simp; exact .nil
  | cons hr t ih =>
    intro n
    cases n with
    | zero => exact .cons hr t
    | succ n => exact ih n
theorem Are.set {α β : Type} {R : α → β → Prop} {l : List α} {k : List β} (h : Are R l k) {a : α} {b : β} (hr : R a b) : ∀ n, Are R (l.set n a) (k.set n b) := by
  induction h with
  | nil => intro n; exact .nil
  | cons hr' t ih =>
    intro n
    cases n with
    | zero => exact .cons hr t
    | succ n => exact .cons hr' (ih n)
theorem Are.map {α β γ δ : Type} {R : α → β → Prop} {S : γ → δ → Prop} {f : α → γ} {g : β → δ} (hf : ∀ a b, R a b → S (f a) (g b)) {l : List α} {k : List β} (h : Are R l k) : Are S (l.map f) (k.map g) := by
  induction h with
  | nil => exact .nil
  | cons hr _ ih => exact .cons (hf _ _ hr) ih
theorem Are.mono {α β : Type} {R S : α → β → Prop} (hf : ∀ a b, R a b → S a b) {l : List α} {k : List β} (h : Are R l k) : Are S l k := by
  induction h with
  | nil => exact .nil
  | cons hr _ ih => exact .cons (hf _ _ hr) ih
theorem Are.snoc {α β : Type} {R : α → β → Prop} {l : List α} {k : List β} (h : Are R l k) {a : α} {b : β} (hr : R a b) : Are R (l ++ [a]) (k ++ [b]) := h.append (.cons hr .nil)
theorem Are.nil_left {α β : Type} {R : α → β → Prop} {k : List β} (h : Are R [] k) : k = [] := by cases h; rfl

abbrev AreV := Are AV.is
/-- the pairs of a dict -/
def PairIs {K : Type} (p : K × AV) (q : K × Value) : Prop := p.1 = q.1 ∧ p.2.is q.2
abbrev AreP {K : Type} := Are (PairIs (K := K))
/-- the entries of an object's own dict -/
def FieldIs (e : DictEntry) (p : Str × AV) : Prop := (∃ t, e.key = .str p.1 t) ∧ p.2.is e.val
abbrev Fields (fs : List (Str × AV)) (es : List DictEntry) : Prop := Are (fun p e => FieldIs e p) fs es

noncomputable abbrev tupObj (its : Array Value) (n : Nat) : Obj := { cls := .type "tuple", data := .seq its n }

def Cell (prog : Program) (w : World) (h : Heap) (ψ : Addr → Addr) (a : Addr) : AO → Prop
  | .inst C fs => h.get? a = some (instObj C (ψ a)) ∧ ∃ es n, h.get? (ψ a) = some (dictOf es n) ∧ Fields fs es
  | .list l => ∃ vs n, h.get? a = some (W.listOf vs n) ∧ AreV l vs.toList
  | .tup l => ∃ vs n, h.get? a = some (tupObj vs n) ∧ AreV l vs.toList
  | .idict l ep => ∃ kvs, h.DictAt (intKind prog w) a kvs ep ∧ AreP l kvs
  | .sdict l => ∃ kvs, h.DictOf (strKind prog w) a kvs ∧ AreP l kvs
  | .rng n => ∃ t u v, IsRange h a 0 n 1 t u v
  | .slc l u s => ∃ l' u' s', h.get? a = some { cls := .type "slice", data := .fields #[l', u', s'] } ∧ l.is l' ∧ u.is u' ∧ s.is s'

abbrev AH := Addr → Option AO
abbrev Loc := List (Str × AV)
noncomputable def upd (φ : AH) (a : Addr) (o : AO) : AH := fun b => if b = a then some o else φ b
theorem upd_self (φ : AH) (a : Addr) (o : AO) : upd φ a o a = some o := by simp [upd]
theorem upd_ne {φ : AH} {a b : Addr} {o : AO} (h : b ≠ a) : upd φ a o b = φ b := by simp [upd, h]

def cov (φ : AH) (ψ : Addr → Addr) (b : Addr) : Prop := (∃ o, φ b = some o) ∨ ∃ a C fs, φ a = some (.inst C fs) ∧ ψ a = b

/-- the constants of a whole law's run -/
structure Wd where
  prog : Program
  w : World
  K : Frag
  g : Heap
  mg : Str → Option Value
  mb : Str → Option Value
  p : Program
  loose : List Str
  gens : Array GenState
  os : OsState
structure Wd.Ok (W : Wd) : Prop where
  X : W.K.In W.g
  T : TopRead W.p W.loose W.mg W.mb W.g

/-- a heap that bears φ: frz is what stands frozen -/
structure HOk (W : Wd) (frz : Addr → Option Obj) (φ : AH) (ψ : Addr → Addr) (h : Heap) : Prop where
  keep : ∀ b o, W.g.get? b = some o → h.get? b = some o
  heap : ∀ a o, φ a = some o → Cell W.prog W.w h ψ a o
  own : ∀ b, cov φ ψ b → W.g.objs.size ≤ b
  dcov : ∀ a K fs, φ a = some (.inst K fs) → φ (ψ a) = none
  inj : ∀ a b K fs K' fs', φ a = some (.inst K fs) → φ b = some (.inst K' fs') → ψ a = ψ b → a = b
  frz : ∀ b o, frz b = some o → h.get? b = some o ∧ ¬ cov φ ψ b

theorem Cell.agree {prog : Program} {w : World} {h h' : Heap} {ψ ψ' : Addr → Addr} {a : Addr} {o : AO} (c : Cell prog w h ψ a o) (h1 : h'.get? a = h.get? a)
    (h2 : ∀ C fs, o = .inst C fs → ψ' a = ψ a ∧ h'.get? (ψ a) = h.get? (ψ a)) : Cell prog w h' ψ' a o := by
  cases o with
  | inst C fs =>
    obtain ⟨c1, es, n, c2, c3⟩ := c
    obtain ⟨e1, e2⟩ := h2 C fs rfl
    exact ⟨by rw [h1, e1]; exact c1, es, n, by rw [e1, e2]; exact c2, c3⟩
  | list l => obtain ⟨vs, n, c1, c2⟩ := c; exact ⟨vs, n, by rw [h1]; exact c1, c2⟩
  | tup l => obtain ⟨vs, n, c1, c2⟩ := c; exact ⟨vs, n, by rw [h1]; exact c1, c2⟩
  | idict l ep => obtain ⟨kvs, ⟨o, es, c0, c1⟩, c2⟩ := c; exact ⟨kvs, ⟨o, es, by rw [h1]; exact c0, c1⟩, c2⟩
  | sdict l => obtain ⟨kvs, ⟨o, es, ep, c0, c1⟩, c2⟩ := c; exact ⟨kvs, ⟨o, es, ep, by rw [h1]; exact c0, c1⟩, c2⟩
  | rng n => obtain ⟨t, u, v, c1⟩ := c; exact ⟨t, u, v, by unfold IsRange; rw [h1]; exact c1⟩
  | slc l u s => obtain ⟨l', u', s', c1, c2⟩ := c; exact ⟨l', u', s', by rw [h1]; exact c1, c2⟩
theorem Cell.there {prog : Program} {w : World} {h : Heap} {ψ : Addr → Addr} {a : Addr} {o : AO} (c : Cell prog w h ψ a o) : ∃ x, h.get? a = some x := by
  cases o with
  | inst C fs => exact ⟨_, c.1⟩
  | list l => obtain ⟨vs, n, c1, c2⟩ := c; exact ⟨_, c1⟩
  | tup l => obtain ⟨vs, n, c1, c2⟩ := c; exact ⟨_, c1⟩
  | idict l ep => obtain ⟨kvs, ⟨o, es, c0, c1⟩, c2⟩ := c; exact ⟨_, c0⟩
  | sdict l => obtain ⟨kvs, ⟨o, es, ep, c0, c1⟩, c2⟩ := c; exact ⟨_, c0⟩
  | rng n => obtain ⟨t, u, v, c1⟩ := c; exact ⟨_, c1⟩
  | slc l u s => obtain ⟨l', u', s', c1, c2⟩ := c; exact ⟨_, c1⟩

section
variable {W : Wd} {frz : Addr → Option Obj} {φ : AH} {ψ : Addr → Addr} {h h' : Heap}

theorem old_none {g : Heap} {b : Addr} (h : g.objs.size ≤ b) : g.get? b = none := by
  cases q : g.get? b with
  | none => rfl
  | some o => exact absurd (Heap.lt_size q) (Nat.not_lt.mpr h)
theorem HOk.there (H : HOk W frz φ ψ h) {b : Addr} (c : cov φ ψ b) : ∃ x, h.get? b = some x := by
  rcases c with ⟨o, e⟩ | ⟨a, C, fs, e, rfl⟩
  · exact (H.heap _ _ e).there
  · obtain ⟨_, es, n, c2, _⟩ := H.heap _ _ e; exact ⟨_, c2⟩
/-- what is not covered may move -/
theorem HOk.agree (H : HOk W frz φ ψ h) (hc : ∀ b, cov φ ψ b → h'.get? b = h.get? b) (hk : ∀ b o, W.g.get? b = some o → h'.get? b = some o)
    {frz' : Addr → Option Obj} (hf : ∀ b o, frz' b = some o → h'.get? b = some o ∧ ¬ cov φ ψ b) : HOk W frz' φ ψ h' :=
  ⟨hk, fun a o e => (H.heap a o e).agree (hc a (.inl ⟨o, e⟩)) fun C fs q => ⟨rfl, hc _ (.inr ⟨a, C, fs, q ▸ e, rfl⟩)⟩, H.own, H.dcov, H.inj, hf⟩
theorem HOk.grow (H : HOk W frz φ ψ h) (hk : ∀ b o, h.get? b = some o → h'.get? b = some o) : HOk W frz φ ψ h' :=
  H.agree (fun b c => by obtain ⟨x, e⟩ := H.there c; rw [hk _ _ e, e]) (fun b o e => hk _ _ (H.keep _ _ e)) fun b o e => ⟨hk _ _ (H.frz b o e).1, (H.frz b o e).2⟩

theorem cov_upd_same {a : Addr} {o o' : AO} (e : φ a = some o) (hn : o.notInst) (hn' : o'.notInst) (b : Addr) : cov (upd φ a o') ψ b ↔ cov φ ψ b := by
  have hx : ∀ c C fs, upd φ a o' c = some (.inst C fs) ↔ φ c = some (.inst C fs) := by
    intro c C fs
    by_cases q : c = a
    · subst q; rw [upd_self, e]
      constructor <;> intro z <;> (injection z with z; subst z; first | exact hn'.elim | exact hn.elim)
    · rw [upd_ne q]
  unfold cov
  constructor
  · rintro (⟨x, z⟩ | ⟨c, C, fs, z, y⟩)
    · by_cases q : b = a
      · subst q; exact .inl ⟨_, e⟩
      · rw [upd_ne q] at z; exact .inl ⟨_, z⟩
    · exact .inr ⟨c, C, fs, (hx c C fs).mp z, y⟩
  · rintro (⟨x, z⟩ | ⟨c, C, fs, z, y⟩)
    · by_cases q : b = a
      · subst q; exact .inl ⟨_, upd_self ..⟩
      · exact .inl ⟨x, by rw [upd_ne q]; exact z⟩
    · exact .inr ⟨c, C, fs, (hx c C fs).mpr z, y⟩

/-- a plain object is changed -/
theorem HOk.put (H : HOk W frz φ ψ h) {a : Addr} {o o' : AO} (e : φ a = some o) (hn : o.notInst) (hn' : o'.notInst) (hs : Heap.SameBut a h h') (hc : Cell W.prog W.w h' ψ a o') :
    HOk W frz (upd φ a o') ψ h' := by
  have hx : ∀ c C fs, upd φ a o' c = some (.inst C fs) → c ≠ a ∧ φ c = some (.inst C fs) := by
    intro c C fs z
    by_cases q : c = a
    · subst q; rw [upd_self] at z; injection z with z; subst z; exact hn'.elim
    · rw [upd_ne q] at z; exact ⟨q, z⟩
  have ga : W.g.get? a = none := old_none (H.own a (.inl ⟨_, e⟩))
  refine ⟨fun b x q => (hs.2 b (fun z => by subst z; rw [ga] at q; cases q)).trans (H.keep b x q), fun c x q => ?_, fun b c => H.own b ((cov_upd_same e hn hn' b).mp c), fun c K fs q => ?_, fun c d K fs K' fs' q q' z => ?_, fun b x q => ?_⟩
  · by_cases z : c = a
    · subst z; rw [upd_self] at q; cases q; exact hc
    · rw [upd_ne z] at q
      refine (H.heap c x q).agree (hs.2 c z) fun C fs y => ⟨rfl, hs.2 _ fun v => ?_⟩
      have := H.dcov c C fs (y ▸ q)
      rw [v, e] at this; cases this
  · obtain ⟨_, q'⟩ := hx _ _ _ q
    have := H.dcov _ _ _ q'
    rw [upd_ne]
    · exact this
    · intro v; rw [v, e] at this; cases this
  · exact H.inj c d K fs K' fs' (hx _ _ _ q).2 (hx _ _ _ q').2 z
  · obtain ⟨f1, f2⟩ := H.frz b x q
    refine ⟨(hs.2 b fun z => f2 (.inl ⟨o, z ▸ e⟩)).trans f1, fun c => f2 ((cov_upd_same e hn hn' b).mp c)⟩

theorem cov_upd_inst {a : Addr} {C : Addr} {fs fs' : List (Str × AV)} (e : φ a = some (.inst C fs)) (b : Addr) : cov (upd φ a (.inst C fs')) ψ b ↔ cov φ ψ b := by
  unfold cov
  constructor
  · rintro (⟨x, z⟩ | ⟨c, D, gs, z, y⟩)
    · by_cases q : b = a
      · subst q; exact .inl ⟨_, e⟩
      · rw [upd_ne q] at z; exact .inl ⟨_, z⟩
    · by_cases q : c = a
      · subst q; exact .inr ⟨c, C, fs, e, y⟩
      · rw [upd_ne q] at z; exact .inr ⟨c, D, gs, z, y⟩
  · rintro (⟨x, z⟩ | ⟨c, D, gs, z, y⟩)
    · by_cases q : b = a
      · subst q; exact .inl ⟨_, upd_self ..⟩
      · exact .inl ⟨x, by rw [upd_ne q]; exact z⟩
    · by_cases q : c = a
      · subst q; exact .inr ⟨c, C, fs', upd_self .., y⟩
      · exact .inr ⟨c, D, gs, by rw [upd_ne q]; exact z, y⟩

/-- a field is changed -/
theorem HOk.putF (H : HOk W frz φ ψ h) {a C : Addr} {fs fs' : List (Str × AV)} (e : φ a = some (.inst C fs)) (hs : Heap.SameBut (ψ a) h h') (hc : Cell W.prog W.w h' ψ a (.inst C fs')) :
    HOk W frz (upd φ a (.inst C fs')) ψ h' := by
  have hx : ∀ c D gs, upd φ a (.inst C fs') c = some (.inst D gs) → ∃ D' gs', φ c = some (.inst D' gs') := by
    intro c D gs z
    by_cases q : c = a
    · subst q; exact ⟨_, _, e⟩
    · rw [upd_ne q] at z; exact ⟨_, _, z⟩
  have cv : cov φ ψ (ψ a) := .inr ⟨a, C, fs, e, rfl⟩
  have ga : W.g.get? (ψ a) = none := old_none (H.own _ cv)
  have da := H.dcov _ _ _ e
  refine ⟨fun b x q => (hs.2 b (fun z => by subst z; rw [ga] at q; cases q)).trans (H.keep b x q), fun c x q => ?_, fun b c => H.own b ((cov_upd_inst e b).mp c), fun c K gs q => ?_, fun c d K gs K' gs' q q' z => ?_, fun b x q => ?_⟩
  · by_cases z : c = a
    · subst z; rw [upd_self] at q; cases q; exact hc
    · rw [upd_ne z] at q
      refine (H.heap c x q).agree (hs.2 c fun v => by rw [← v, q] at da; cases da) fun D gs y => ⟨rfl, hs.2 _ fun v => ?_⟩
      exact z (H.inj c a D gs C fs (y ▸ q) e v)
  · obtain ⟨D', gs', q'⟩ := hx _ _ _ q
    have := H.dcov _ _ _ q'
    rw [upd_ne]
    · exact this
    · intro v; rw [v, e] at this; cases this
  · obtain ⟨_, _, q1⟩ := hx _ _ _ q
    obtain ⟨_, _, q2⟩ := hx _ _ _ q'
    exact H.inj c d _ _ _ _ q1 q2 z
  · obtain ⟨f1, f2⟩ := H.frz b x q
    exact ⟨(hs.2 b fun z => f2 (z ▸ cv)).trans f1, fun c => f2 ((cov_upd_inst e b).mp c)⟩

theorem HOk.none_of (H : HOk W frz φ ψ h) {a : Addr} (e : h.get? a = none) : φ a = none ∧ frz a = none ∧ ¬ cov φ ψ a := by
  have nc : ¬ cov φ ψ a := fun c => by obtain ⟨x, q⟩ := H.there c; rw [e] at q; cases q
  refine ⟨?_, ?_, nc⟩
  · cases q : φ a with
    | none => rfl
    | some o => exact absurd (.inl ⟨o, q⟩) nc
  · cases q : frz a with
    | none => rfl
    | some o => rw [(H.frz _ _ q).1] at e; cases e

/-- a new object of no class of the text -/
theorem HOk.new (H : HOk W frz φ ψ h) {a : Addr} {o' : AO} (hn' : o'.notInst) (ga : W.g.objs.size ≤ a) (e : h.get? a = none) (hk : ∀ b o, h.get? b = some o → h'.get? b = some o) (hc : Cell W.prog W.w h' ψ a o') :
    HOk W frz (upd φ a o') ψ h' := by
  obtain ⟨pa, fa, nc⟩ := H.none_of e
  have hx : ∀ c C fs, upd φ a o' c = some (.inst C fs) → c ≠ a ∧ φ c = some (.inst C fs) := by
    intro c C fs z
    by_cases q : c = a
    · subst q; rw [upd_self] at z; injection z with z; subst z; exact hn'.elim
    · rw [upd_ne q] at z; exact ⟨q, z⟩
  have cv : ∀ b, cov (upd φ a o') ψ b → b = a ∨ cov φ ψ b := by
    rintro b (⟨x, z⟩ | ⟨c, D, gs, z, y⟩)
    · by_cases q : b = a
      · exact .inl q
      · rw [upd_ne q] at z; exact .inr (.inl ⟨_, z⟩)
    · exact .inr (.inr ⟨c, D, gs, (hx _ _ _ z).2, y⟩)
  have G := H.grow hk
  refine ⟨G.keep, fun c x q => ?_, fun b c => ?_, fun c K fs q => ?_, fun c d K fs K' fs' q q' z => H.inj c d K fs K' fs' (hx _ _ _ q).2 (hx _ _ _ q').2 z, fun b x q => ⟨(G.frz b x q).1, fun c => ?_⟩⟩
  · by_cases z : c = a
    · subst z; rw [upd_self] at q; cases q; exact hc
    · rw [upd_ne z] at q; exact G.heap c x q
  · rcases cv b c with rfl | c
    · exact ga
    · exact H.own b c
  · obtain ⟨_, q'⟩ := hx _ _ _ q
    rw [upd_ne]
    · exact H.dcov _ _ _ q'
    · intro v; exact nc (.inr ⟨c, K, fs, q', v⟩)
  · rcases cv b c with rfl | c
    · rw [fa] at q; cases q
    · exact (H.frz b x q).2 c

/-- a new object of a class, with its dict -/
theorem HOk.newInst (H : HOk W frz φ ψ h) {a d C : Addr} {fs : List (Str × AV)} (ga : W.g.objs.size ≤ a) (gd : W.g.objs.size ≤ d) (e : h.get? a = none) (e2 : h.get? d = none) (hne : a ≠ d) (hk : ∀ b o, h.get? b = some o → h'.get? b = some o)
    (hc : Cell W.prog W.w h' (fun b => if b = a then d else ψ b) a (.inst C fs)) :
    HOk W frz (upd φ a (.inst C fs)) (fun b => if b = a then d else ψ b) h' := by
  obtain ⟨pa, fa, nc⟩ := H.none_of e
  obtain ⟨pd, fd, ncd⟩ := H.none_of e2
  have G := H.grow hk
  have cv : ∀ b, cov (upd φ a (.inst C fs)) (fun b => if b = a then d else ψ b) b → b = a ∨ b = d ∨ cov φ ψ b := by
    rintro b (⟨x, z⟩ | ⟨c, D, gs, z, y⟩)
    · by_cases q : b = a
      · exact .inl q
      · rw [upd_ne q] at z; exact .inr (.inr (.inl ⟨_, z⟩))
    · dsimp only at y
      by_cases q : c = a
      · rw [if_pos q] at y; exact .inr (.inl y.symm)
      · rw [upd_ne q] at z; rw [if_neg q] at y; exact .inr (.inr (.inr ⟨c, D, gs, z, y⟩))
  refine ⟨G.keep, fun c x q => ?_, fun b c => ?_, fun c K gs q => ?_, fun c c' K gs K' gs' q q' z => ?_, fun b x q => ⟨(G.frz b x q).1, fun c => ?_⟩⟩
  · by_cases z : c = a
    · subst z; rw [upd_self] at q; cases q; exact hc
    · rw [upd_ne z] at q; exact (G.heap c x q).agree rfl fun _ _ _ => ⟨if_neg z, rfl⟩
  · rcases cv b c with rfl | rfl | c
    · exact ga
    · exact gd
    · exact H.own b c
  · by_cases z : c = a
    · simp only [if_pos z]; rw [upd_ne (Ne.symm hne)]; exact pd
    · rw [upd_ne z] at q
      simp only [if_neg z]
      rw [upd_ne]
      · exact H.dcov _ _ _ q
      · intro v; exact nc (.inr ⟨c, K, gs, q, v⟩)
  · by_cases y : c = a
    · by_cases y' : c' = a
      · rw [y, y']
      · rw [upd_ne y'] at q'
        rw [if_pos y, if_neg y'] at z
        exact absurd (.inr ⟨c', K', gs', q', z.symm⟩) ncd
    · rw [upd_ne y] at q
      by_cases y' : c' = a
      · rw [if_neg y, if_pos y'] at z
        exact absurd (.inr ⟨c, K, gs, q, z⟩) ncd
      · rw [upd_ne y'] at q'
        rw [if_neg y, if_neg y'] at z
        exact H.inj c c' _ _ _ _ q q' z
  · rcases cv b c with rfl | rfl | c
    · rw [fa] at q; cases q
    · rw [fd] at q; cases q
    · exact (H.frz b x q).2 c
end
end Mine

open PySem PySem.W PyProof.Rows PySem.Calls
set_option Elab.async false
set_option maxRecDepth 100000
set_option linter.unusedVariables false
namespace Mine

structure FC where
  W : Wd
  A : Around
  env : Env
noncomputable abbrev FC.L (C : FC) : Addr := C.env.locals
noncomputable abbrev FC.cl (C : FC) : List (Str × Addr) := C.env.cells
noncomputable abbrev FC.sc (C : FC) : Scope := C.env.scope
noncomputable abbrev FC.M (C : FC) : Model := model C.W.prog C.W.w
def FC.mine (C : FC) (b : Addr) : Prop := b = C.L ∨ ∃ x, C.cl.lookup x = some b

/-- the room that calls of a depth of n want -/
structure Room (A : Around) (n : Nat) : Prop where
  d : A.depth + 2 * n < recursionLimit
  u : A.units + 8 * n + 200 < cLine
  h : A.handled = none
theorem Room.deeper {A : Around} {n : Nat} {env : Env} (r : Room A (n + 1)) : Room (A.deeper env) n :=
  ⟨by have := r.d; show A.depth + 1 + 2 * n < _; omega, by have := r.u; show A.units + 3 + 8 * n + 200 < _; omega, r.h⟩
theorem Room.le {A : Around} {n m : Nat} (r : Room A n) (h : m ≤ n) : Room A m :=
  ⟨by have := r.d; omega, by have := r.u; omega, r.h⟩

structure Gd (C : FC) (n : Nat) : Prop where
  ok : C.W.Ok
  room : Room C.A n
  fn : C.sc.kind = .function
  gl : C.env.globals = mainGlobals
  bi : C.env.builtins = builtinsNs
  clL : ∀ x c, C.cl.lookup x = some c → c ≠ C.L ∧ C.W.g.objs.size ≤ c
  cl1 : ∀ x y c, C.cl.lookup x = some c → C.cl.lookup y = some c → x = y

structure StC (C : FC) (fz : Addr → Option Obj) (ρ : Loc) (φ : AH) (m : Str → Option Value) (ψ : Addr → Addr) (h : Heap) : Prop where
  fr : Fr C.W.g C.L h m
  ok : HOk C.W fz φ ψ h
  apart : ∀ b, C.mine b → ¬ cov φ ψ b ∧ fz b = none
  loc : ∀ x v, ρ.lookup x = some v → C.cl.lookup x = none → ∃ u, m x = some u ∧ v.is u
  cel : ∀ x v c, ρ.lookup x = some v → C.cl.lookup x = some c → ∃ u, h.IsCell c (some u) ∧ v.is u
  there : ∀ x c, C.cl.lookup x = some c → ∃ ov, h.IsCell c ov

def St (C : FC) (fz : Addr → Option Obj) (ρ : Loc) (φ : AH) (s : Shared) : Prop :=
  (∃ m ψ, StC C fz ρ φ m ψ s.heap) ∧ s.gens = C.W.gens ∧ s.os = C.W.os

inductive AF where
  | next | brk | cont | ret (v : AV)
def AF.is : AF → Flow → Prop
  | .next, f => f = .next
  | .brk, f => f = .brk
  | .cont, f => f = .cont
  | .ret v, f => ∃ u, f = .ret u ∧ v.is u

/-- a tree from φ: it ends, its answer and its heap as Q says; the frame's names stand -/
abbrev NoE : Value → Shared → Prop := fun _ _ => False
abbrev PW (C : FC) {α β : Type} (rel : β → α → Prop) (fz : Addr → Option Obj) (ρ : Loc) (Q : β → AH → Prop) : α → Shared → Prop := fun v s' => ∃ b φ', rel b v ∧ St C fz ρ φ' s' ∧ Q b φ'
abbrev PX (C : FC) (fz : Addr → Option Obj) (R : AF → Loc → AH → Prop) : Flow → Shared → Prop := fun f s' => ∃ b ρ' φ', AF.is b f ∧ St C fz ρ' φ' s' ∧ R b ρ' φ'
abbrev PU (C : FC) (fz : Addr → Option Obj) (Q : Loc → AH → Prop) : Unit → Shared → Prop := fun _ s' => ∃ ρ' φ', St C fz ρ' φ' s' ∧ Q ρ' φ'
def WPx (C : FC) {α β : Type} (t : Sem α) (rel : β → α → Prop) (ρ : Loc) (φ : AH) (Q : β → AH → Prop) : Prop :=
  ∀ fz s, St C fz ρ φ s → wpAny C.M C.A t (PW C rel fz ρ Q) NoE s
abbrev EV (C : FC) (t : Sem Value) (ρ : Loc) (φ : AH) (Q : AV → AH → Prop) : Prop := WPx C t AV.is ρ φ Q
abbrev EB (C : FC) (t : Sem Bool) (ρ : Loc) (φ : AH) (Q : Bool → AH → Prop) : Prop := WPx C t (fun a b => a = b) ρ φ Q
abbrev EL (C : FC) (t : Sem (List Value)) (ρ : Loc) (φ : AH) (Q : List AV → AH → Prop) : Prop := WPx C t AreV ρ φ Q
abbrev EU (C : FC) (t : Sem Unit) (ρ : Loc) (φ : AH) (Q : AH → Prop) : Prop := WPx C t (fun (_ : Unit) _ => True) ρ φ fun _ φ' => Q φ'
/-- statements: the names change too -/
def XS (C : FC) (t : Sem Flow) (ρ : Loc) (φ : AH) (Q : AF → Loc → AH → Prop) : Prop :=
  ∀ fz s, St C fz ρ φ s → wpAny C.M C.A t (PX C fz Q) NoE s
/-- a store: the names change -/
def XU (C : FC) (t : Sem Unit) (ρ : Loc) (φ : AH) (Q : Loc → AH → Prop) : Prop :=
  ∀ fz s, St C fz ρ φ s → wpAny C.M C.A t (PU C fz Q) NoE s

def Sub (ρ ρ' : Loc) : Prop := ∀ x v, ρ.lookup x = some v → ρ'.lookup x = some v
theorem Sub.refl (ρ : Loc) : Sub ρ ρ := fun _ _ h => h
theorem Sub.nil (ρ : Loc) : Sub [] ρ := fun _ _ h => by cases h
theorem Sub.cons {x : Str} {v : AV} {r ρ : Loc} (h : ρ.lookup x = some v) (t : Sub r ρ) : Sub ((x, v) :: r) ρ := by
  intro y u e
  rw [List.lookup_cons] at e
  split at e
  · rename_i q; rw [beq_iff_eq.mp q]; cases e; exact h
  · exact t y u e
theorem lk_here {x : Str} {v : AV} {r : Loc} : List.lookup x ((x, v) :: r) = some v := by rw [List.lookup_cons, beq_self_eq_true]
theorem lk_next {x y : Str} {u v : AV} {r : Loc} (h : (x == y) = false) (t : List.lookup x r = some v) : List.lookup x ((y, u) :: r) = some v := by rw [List.lookup_cons, h]; exact t

section
variable {C : FC} {fz : Addr → Option Obj} {ρ ρ' : Loc} {φ φ' : AH} {s s' : Shared}
theorem St.sub (h : St C fz ρ φ s) (k : Sub ρ' ρ) : St C fz ρ' φ s := by
  obtain ⟨⟨m, ψ, H⟩, g, o⟩ := h
  exact ⟨⟨m, ψ, H.fr, H.ok, H.apart, fun x v e => H.loc x v (k x v e), fun x v c e => H.cel x v c (k x v e), H.there⟩, g, o⟩
theorem StC.low {m ψ h} (H : StC C fz ρ φ m ψ h) : C.W.g.objs.size ≤ h.objs.size := by
  obtain ⟨o, _, _, e, _⟩ := H.fr.ns
  exact Nat.le_trans H.fr.above (Nat.le_of_lt (Heap.lt_size e))
theorem StC.old {m ψ h} (H : StC C fz ρ φ m ψ h) {b : Addr} (hb : C.mine b) : ∃ o, h.get? b = some o := by
  rcases hb with rfl | ⟨x, hx⟩
  · obtain ⟨o, _, _, e, _⟩ := H.fr.ns; exact ⟨o, e⟩
  · obtain ⟨_, o, e, _⟩ := H.there x b hx; exact ⟨o, e⟩
/-- the heap part changes, the frame's own objects stand -/
theorem StC.frame {m ψ h ψ' h'} (H : StC C fz ρ φ m ψ h) (K : HOk C.W fz φ' ψ' h') (hm : ∀ b, C.mine b → h'.get? b = h.get? b) (hc : ∀ b, C.mine b → ¬ cov φ' ψ' b) : StC C fz ρ φ' m ψ' h' := by
  have cell : ∀ x c ov, C.cl.lookup x = some c → h.IsCell c ov → h'.IsCell c ov := by
    rintro x c ov hx ⟨o, e, d⟩; exact ⟨o, by rw [hm c (.inr ⟨x, hx⟩)]; exact e, d⟩
  refine ⟨⟨?_, K.keep, H.fr.above⟩, K, fun b hb => ⟨hc b hb, (H.apart b hb).2⟩, H.loc, fun x v c e q => ?_, fun x c q => ?_⟩
  · obtain ⟨o, es, ep, e, r⟩ := H.fr.ns; exact ⟨o, es, ep, by rw [hm _ (.inl rfl)]; exact e, r⟩
  · obtain ⟨u, a, b⟩ := H.cel x v c e q; exact ⟨u, cell x c _ q a, b⟩
  · obtain ⟨ov, a⟩ := H.there x c q; exact ⟨ov, cell x c _ q a⟩
theorem St.frame {m ψ ψ' h'} (H : StC C fz ρ φ m ψ s.heap) (hg : s.gens = C.W.gens) (ho : s.os = C.W.os) (K : HOk C.W fz φ' ψ' h') (hm : ∀ b, C.mine b → h'.get? b = s.heap.get? b) (hc : ∀ b, C.mine b → ¬ cov φ' ψ' b) {d : Drawn} {t : Nat} :
    St C fz ρ φ' ⟨h', s.gens, d, t, s.os⟩ := ⟨⟨m, ψ', H.frame K hm hc⟩, hg, ho⟩
theorem St.grow {m ψ h'} (H : StC C fz ρ φ m ψ s.heap) (hg : s.gens = C.W.gens) (ho : s.os = C.W.os) (hk : ∀ b o, s.heap.get? b = some o → h'.get? b = some o) {d : Drawn} {t : Nat} :
    St C fz ρ φ ⟨h', s.gens, d, t, s.os⟩ :=
  St.frame H hg ho (H.ok.grow hk) (fun b hb => by obtain ⟨o, e⟩ := H.old hb; rw [hk _ _ e, e]) fun b hb => (H.apart b hb).1
theorem St.toks {d : Drawn} {t : Nat} (h : St C fz ρ φ s) : St C fz ρ φ ⟨s.heap, s.gens, d, t, s.os⟩ := ⟨h.1, h.2.1, h.2.2⟩
theorem St.put {m ψ h'} (H : StC C fz ρ φ m ψ s.heap) (hg : s.gens = C.W.gens) (ho : s.os = C.W.os) {a : Addr} {o o' : AO} (e : φ a = some o) (hn : o.notInst) (hn' : o'.notInst) (hs : Heap.SameBut a s.heap h') (hc : Cell C.W.prog C.W.w h' ψ a o') {d : Drawn} {t : Nat} :
    St C fz ρ (upd φ a o') ⟨h', s.gens, d, t, s.os⟩ :=
  St.frame H hg ho (H.ok.put e hn hn' hs hc) (fun b hb => hs.2 b fun z => (H.apart b hb).1 (.inl ⟨o, z ▸ e⟩)) fun b hb q => (H.apart b hb).1 ((cov_upd_same e hn hn' b).mp q)
theorem St.putF {m ψ h'} (H : StC C fz ρ φ m ψ s.heap) (hg : s.gens = C.W.gens) (ho : s.os = C.W.os) {a D : Addr} {fs fs' : List (Str × AV)} (e : φ a = some (.inst D fs)) (hs : Heap.SameBut (ψ a) s.heap h') (hc : Cell C.W.prog C.W.w h' ψ a (.inst D fs')) {d : Drawn} {t : Nat} :
    St C fz ρ (upd φ a (.inst D fs')) ⟨h', s.gens, d, t, s.os⟩ :=
  St.frame H hg ho (H.ok.putF e hs hc) (fun b hb => hs.2 b fun z => (H.apart b hb).1 (.inr ⟨a, D, fs, e, z.symm⟩)) fun b hb q => (H.apart b hb).1 ((cov_upd_inst e b).mp q)
theorem St.new {m ψ h'} (H : StC C fz ρ φ m ψ s.heap) (hg : s.gens = C.W.gens) (ho : s.os = C.W.os) {a : Addr} {o' : AO} (hn' : o'.notInst) (ha : s.heap.objs.size ≤ a) (hk : ∀ b o, s.heap.get? b = some o → h'.get? b = some o) (hc : Cell C.W.prog C.W.w h' ψ a o') {d : Drawn} {t : Nat} :
    φ a = none ∧ St C fz ρ (upd φ a o') ⟨h', s.gens, d, t, s.os⟩ := by
  have e := old_none ha
  refine ⟨(H.ok.none_of e).1, St.frame H hg ho (H.ok.new hn' (Nat.le_trans H.low ha) e hk hc) (fun b hb => by obtain ⟨o, q⟩ := H.old hb; rw [hk _ _ q, q]) ?_⟩
  rintro b hb (⟨x, z⟩ | ⟨c, D, gs, z, y⟩)
  · by_cases q : b = a
    · obtain ⟨o, w⟩ := H.old hb; rw [q, e] at w; cases w
    · rw [upd_ne q] at z; exact (H.apart b hb).1 (.inl ⟨_, z⟩)
  · by_cases q : c = a
    · subst q; rw [upd_self] at z; injection z with z; subst z; exact hn'.elim
    · rw [upd_ne q] at z; exact (H.apart b hb).1 (.inr ⟨c, D, gs, z, y⟩)
theorem StC.newInst {m ψ h h'} (H : StC C fz ρ φ m ψ h) {a d D : Addr} {fs : List (Str × AV)} (ha : h.objs.size ≤ a) (hd : h.objs.size ≤ d) (hne : a ≠ d) (hk : ∀ b o, h.get? b = some o → h'.get? b = some o)
    (hc : Cell C.W.prog C.W.w h' (fun b => if b = a then d else ψ b) a (.inst D fs)) :
    φ a = none ∧ StC C fz ρ (upd φ a (.inst D fs)) m (fun b => if b = a then d else ψ b) h' := by
  have e := old_none ha
  have e2 := old_none hd
  refine ⟨(H.ok.none_of e).1, H.frame (H.ok.newInst (Nat.le_trans H.low ha) (Nat.le_trans H.low hd) e e2 hne hk hc) (fun b hb => by obtain ⟨o, q⟩ := H.old hb; rw [hk _ _ q, q]) ?_⟩
  rintro b hb (⟨x, z⟩ | ⟨c, K, gs, z, y⟩)
  · by_cases q : b = a
    · obtain ⟨o, w⟩ := H.old hb; rw [q, e] at w; cases w
    · rw [upd_ne q] at z; exact (H.apart b hb).1 (.inl ⟨_, z⟩)
  · dsimp only at y
    by_cases q : c = a
    · rw [if_pos q] at y; obtain ⟨o, w⟩ := H.old hb; rw [← y, e2] at w; cases w
    · rw [upd_ne q] at z; rw [if_neg q] at y; exact (H.apart b hb).1 (.inr ⟨c, K, gs, z, y⟩)
end

section
variable {C : FC} {ρ : Loc} {φ : AH} {α β γ δ : Type}

theorem WPx.bind {t : Sem α} {k : α → Sem γ} {r₁ : β → α → Prop} {r₂ : δ → γ → Prop} {Q : δ → AH → Prop}
    (h : WPx C t r₁ ρ φ fun b φ' => ∀ v, r₁ b v → WPx C (k v) r₂ ρ φ' Q) : WPx C (t >>= k) r₂ ρ φ Q := by
  intro fz s S
  refine wpAny_bind (wpAny_mono (h fz s S) (fun v s' => ?_) fun _ _ x => x)
  rintro ⟨b, φ', hr, S', q⟩
  exact q v hr fz s' S'
theorem WPx.pure {v : α} {r : β → α → Prop} {Q : β → AH → Prop} {b : β} (hr : r b v) (q : Q b φ) : WPx C (Pure.pure v) r ρ φ Q :=
  fun _ _ S => wpAny_pure ⟨b, φ, hr, S, q⟩
theorem WPx.mono {t : Sem α} {r : β → α → Prop} {Q Q' : β → AH → Prop} (h : WPx C t r ρ φ Q) (k : ∀ b φ', Q b φ' → Q' b φ') : WPx C t r ρ φ Q' := by
  intro fz s S
  refine wpAny_mono (h fz s S) (fun v s' => ?_) fun _ _ x => x
  rintro ⟨b, φ', hr, S', q⟩
  exact ⟨b, φ', hr, S', k _ _ q⟩
/-- from a rule of the library's that goes on from one tree to the next -/
theorem WPx.of {t : Sem α} {r : β → α → Prop} {Q : β → AH → Prop}
    (h : ∀ fz s m ψ, StC C fz ρ φ m ψ s.heap → s.gens = C.W.gens → s.os = C.W.os → wpAny C.M C.A t (PW C r fz ρ Q) NoE s) : WPx C t r ρ φ Q := by
  rintro fz s ⟨⟨m, ψ, H⟩, g, o⟩
  exact h fz s m ψ H g o
end
end Mine

open PySem PySem.W PyProof.Rows PySem.Calls
set_option Elab.async false
set_option maxRecDepth 100000
set_option linter.unusedVariables false
namespace Mine

section
variable {C : FC} {ρ : Loc} {φ : AH} {n : Nat} {Q : AV → AH → Prop} {B : Bool → AH → Prop}

theorem St.mk' {fz : Addr → Option Obj} {m ψ} {s : Shared} (H : StC C fz ρ φ m ψ s.heap) (g : s.gens = C.W.gens) (o : s.os = C.W.os) {d : Drawn} {t : Nat} : St C fz ρ φ ⟨s.heap, s.gens, d, t, s.os⟩ := ⟨⟨m, ψ, H⟩, g, o⟩

theorem ev_local {x : Str} {pos : Pos} {v : AV} (hv : ρ.lookup x = some v) (q : Q v φ) (G : Gd C n := by assumption) (hx : C.env.kindOf x = some .local := by with_unfolding_all rfl)
    (hc : C.cl.lookup x = none := by with_unfolding_all rfl) (hd : (x == ("__debug__" : Str)) = false := by decide) : EV C (eval (.Name x pos) C.env) ρ φ Q :=
  WPx.of fun fz s m ψ H g o => by
    obtain ⟨u, hu, hi⟩ := H.loc x v hv hc
    exact wpAny_Name (wpAny_loadName_local G.fn hx H.fr.ns hu ⟨v, φ, hi, St.mk' H g o, q⟩) hd
theorem ev_cell {x : Str} {pos : Pos} {v : AV} {c : Addr} (hv : ρ.lookup x = some v) (hc : C.cl.lookup x = some c) (q : Q v φ) (G : Gd C n := by assumption) (hx : C.env.kindOf x = some .cell := by with_unfolding_all rfl)
    (hd : (x == ("__debug__" : Str)) = false := by decide) : EV C (eval (.Name x pos) C.env) ρ φ Q :=
  WPx.of fun fz s m ψ H g o => by
    obtain ⟨u, hu, hi⟩ := H.cel x v c hv hc
    exact wpAny_Name (wpAny_loadName_cell G.fn hx hc hu ⟨v, φ, hi, St.mk' H g o, q⟩) hd
theorem ev_free {x : Str} {pos : Pos} {v : AV} {c : Addr} (hv : ρ.lookup x = some v) (hc : C.cl.lookup x = some c) (q : Q v φ) (G : Gd C n := by assumption) (hx : C.env.kindOf x = some .free := by with_unfolding_all rfl)
    (hd : (x == ("__debug__" : Str)) = false := by decide) (hn : (x == ("__classdict__" : Str)) = false := by decide) : EV C (eval (.Name x pos) C.env) ρ φ Q :=
  WPx.of fun fz s m ψ H g o => by
    obtain ⟨u, hu, hi⟩ := H.cel x v c hv hc
    exact wpAny_Name (wpAny_loadName_free G.fn hx hc hu ⟨v, φ, hi, St.mk' H g o, q⟩ hn) hd
theorem ev_global {x : Str} {pos : Pos} {a : Addr} (e : nsIn C.W.K mainGlobals x = some (some (.ref a))) (q : Q (.ref a) φ) (G : Gd C n := by assumption) (hx : C.env.kindOf x = some .globalImplicit := by with_unfolding_all rfl)
    (hd : (x == ("__debug__" : Str)) = false := by decide) : EV C (eval (.Name x pos) C.env) ρ φ Q :=
  WPx.of fun fz s m ψ H g o => Name_function_global G.fn hx (loadGlobal_global (env := C.env) (by rw [G.gl]; exact G.ok.T.g.keeps H.fr.keep) (mg_of G.ok.X G.ok.T.g e) ⟨.ref a, φ, rfl, St.mk' H g o, q⟩) hd
theorem ev_builtin {x : Str} {pos : Pos} {v : Value} (e : nsIn C.W.K mainGlobals x = some none) (hv : bootBuiltins x = some v) (hn : x ≠ "__name__") (q : Q (.raw v) φ) (G : Gd C n := by assumption)
    (hx : C.env.kindOf x = some .globalImplicit := by with_unfolding_all rfl) (hd : (x == ("__debug__" : Str)) = false := by decide) : EV C (eval (.Name x pos) C.env) ρ φ Q :=
  WPx.of fun fz s m ψ H g o => Name_function_global G.fn hx (loadGlobal_builtin (env := C.env) (by rw [G.gl]; exact G.ok.T.g.keeps H.fr.keep) (mg_none_of G.ok.X G.ok.T.g e) (by rw [G.bi]; exact G.ok.T.b.keeps H.fr.keep) ((G.ok.T.builtins x hn).trans hv) ⟨.raw v, φ, rfl, St.mk' H g o, q⟩) hd

theorem ev_int {i : Int} {k : Nat} {pos : Pos} (q : Q (.int i) φ) : EV C (eval (.Constant (.int i) k pos) C.env) ρ φ Q :=
  WPx.of fun fz s m ψ H g o => wpAny_Constant_int ⟨.int i, φ, ⟨_, rfl⟩, St.mk' H g o, q⟩
theorem ev_str {x : Str} {k : Nat} {pos : Pos} (q : Q (.str x) φ) : EV C (eval (.Constant (.str x) k pos) C.env) ρ φ Q :=
  WPx.of fun fz s m ψ H g o => Calls.Constant_str ⟨.str x, φ, ⟨_, rfl⟩, St.mk' H g o, q⟩
theorem ev_bool {b : Bool} {k : Nat} {pos : Pos} (q : Q (.bool b) φ) : EV C (eval (.Constant (.bool b) k pos) C.env) ρ φ Q :=
  WPx.of fun fz s m ψ H g o => Constant_bool ⟨.bool b, φ, rfl, St.mk' H g o, q⟩
theorem ev_none {k : Nat} {pos : Pos} (q : Q .none φ) : EV C (eval (.Constant .none k pos) C.env) ρ φ Q :=
  WPx.of fun fz s m ψ H g o => Constant_none ⟨.none, φ, rfl, St.mk' H g o, q⟩

/-- a rule of two trees, one behind the other -/
theorem WPx.two {α β γ δ : Type} {t : Sem α} {k : α → Sem γ} {t' : Sem γ} {r₁ : β → α → Prop} {r₂ : δ → γ → Prop} {R : δ → AH → Prop}
    (rule : ∀ {A : Around} {E : Value → Shared → Prop} {s : Shared} {Q : γ → Shared → Prop}, wpAny C.M A t (fun a s₁ => wpAny C.M A (k a) Q E s₁) E s → wpAny C.M A t' Q E s)
    (h : WPx C t r₁ ρ φ fun b φ' => ∀ v, r₁ b v → WPx C (k v) r₂ ρ φ' R) : WPx C t' r₂ ρ φ R := by
  intro fz s S
  refine rule (wpAny_mono (h fz s S) (fun v s' => ?_) fun _ _ x => x)
  rintro ⟨b, φ', hr, S', q⟩
  exact q v hr fz s' S'
theorem WPx.three {α β γ δ η θ : Type} {t : Sem α} {k : α → Sem γ} {l : α → γ → Sem η} {t' : Sem η} {r₁ : β → α → Prop} {r₂ : δ → γ → Prop} {r₃ : θ → η → Prop} {R : θ → AH → Prop}
    (rule : ∀ {A : Around} {E : Value → Shared → Prop} {s : Shared} {Q : η → Shared → Prop}, wpAny C.M A t (fun a s₁ => wpAny C.M A (k a) (fun b s₂ => wpAny C.M A (l a b) Q E s₂) E s₁) E s → wpAny C.M A t' Q E s)
    (h : WPx C t r₁ ρ φ fun b φ' => ∀ v, r₁ b v → WPx C (k v) r₂ ρ φ' fun c φ'' => ∀ u, r₂ c u → WPx C (l v u) r₃ ρ φ'' R) : WPx C t' r₃ ρ φ R := by
  intro fz s S
  refine rule (wpAny_mono (h fz s S) (fun v s' => ?_) fun _ _ x => x)
  rintro ⟨b, φ', hr, S', q⟩
  refine wpAny_mono (q v hr fz s' S') (fun u s'' => ?_) fun _ _ x => x
  rintro ⟨c, φ'', hr', S'', q'⟩
  exact q' u hr' fz s'' S''

def Bin (C : FC) (ρ : Loc) (op : Operator) (a b : AV) (φ : AH) (Q : AV → AH → Prop) : Prop := ∀ u v, a.is u → b.is v → EV C (binaryOp op u v) ρ φ Q
def Inp (C : FC) (ρ : Loc) (op : Operator) (a b : AV) (φ : AH) (Q : AV → AH → Prop) : Prop := ∀ u v, a.is u → b.is v → EV C (inplaceOp op u v) ρ φ Q
def Cmp (C : FC) (ρ : Loc) (op : CmpOp) (a b : AV) (φ : AH) (Q : AV → AH → Prop) : Prop := ∀ u v, a.is u → b.is v → EV C (compareOp op u v) ρ φ Q
def Una (C : FC) (ρ : Loc) (op : UnaryOp) (a : AV) (φ : AH) (Q : AV → AH → Prop) : Prop := ∀ u, a.is u → EV C (unaryOp op u) ρ φ Q
def Tru (C : FC) (ρ : Loc) (a : AV) (φ : AH) (Q : Bool → AH → Prop) : Prop := ∀ u, a.is u → EB C (truthy u) ρ φ Q
def Att (C : FC) (ρ : Loc) (a : AV) (x : Str) (φ : AH) (Q : AV → AH → Prop) : Prop := ∀ u, a.is u → EV C (getAttr u x true) ρ φ Q
def SubT (C : FC) (ρ : Loc) (e i : Expr) (a b : AV) (φ : AH) (Q : AV → AH → Prop) : Prop := ∀ u v, a.is u → b.is v → EV C (subscriptTail e i u v) ρ φ Q
def Itm (C : FC) (ρ : Loc) (a b : AV) (φ : AH) (Q : AV → AH → Prop) : Prop := ∀ u v, a.is u → b.is v → EV C (getItem u v) ρ φ Q
def Cal (C : FC) (ρ : Loc) (f : AV) (as : List AV) (φ : AH) (Q : AV → AH → Prop) : Prop := ∀ u vs, f.is u → AreV as vs → EV C (call u vs) ρ φ Q

theorem ev_binop {l r : Expr} {op : Operator} {pos : Pos} (h : EV C (eval l C.env) ρ φ fun a φ₁ => EV C (eval r C.env) ρ φ₁ fun b φ₂ => Bin C ρ op a b φ₂ Q) : EV C (eval (.BinOp l op r pos) C.env) ρ φ Q :=
  WPx.three (fun x => wpAny_BinOp x) (h.mono fun a φ₁ h₁ v hv => h₁.mono fun b φ₂ h₂ u hu => h₂ v u hv hu)
theorem ev_cmp {l r : Expr} {op : CmpOp} {pos : Pos} (h : EV C (eval l C.env) ρ φ fun a φ₁ => EV C (eval r C.env) ρ φ₁ fun b φ₂ => Cmp C ρ op a b φ₂ Q) (hm : behindInMarks op r = false := by with_unfolding_all rfl) :
    EV C (eval (.Compare l [op] [r] pos) C.env) ρ φ Q :=
  WPx.three (fun x => wpAny_Compare1 x hm) (h.mono fun a φ₁ h₁ v hv => h₁.mono fun b φ₂ h₂ u hu => h₂ v u hv hu)
theorem ev_una {e : Expr} {op : UnaryOp} {pos : Pos} (h : EV C (eval e C.env) ρ φ fun a φ₁ => Una C ρ op a φ₁ Q) : EV C (eval (.UnaryOp op e pos) C.env) ρ φ Q :=
  WPx.two (fun x => UnaryOp_ x) (h.mono fun a φ₁ h₁ v hv => h₁ v hv)
theorem ev_attr {e : Expr} {x : Str} {pos : Pos} (h : EV C (eval e C.env) ρ φ fun a φ₁ => Att C ρ a x φ₁ Q)
    (he : eval (.Attribute e x pos) C.env = (do
      let o ← eval e C.env
      standAt pos.atName
      let r ← holding [o] (getAttr o x true)
      letTemporaryGo e o r
      pure r) := by with_unfolding_all rfl) : EV C (eval (.Attribute e x pos) C.env) ρ φ Q :=
  WPx.two (fun y => Attribute_any_ y he) (h.mono fun a φ₁ h₁ v hv => h₁ v hv)
theorem ev_sub {e i : Expr} {pos : Pos} (h : EV C (eval e C.env) ρ φ fun a φ₁ => EV C (eval i C.env) ρ φ₁ fun b φ₂ => SubT C ρ e i a b φ₂ Q) : EV C (eval (.Subscript e i pos) C.env) ρ φ Q :=
  WPx.three (fun x => Subscript_ x) (h.mono fun a φ₁ h₁ v hv => h₁.mono fun b φ₂ h₂ u hu => h₂ v u hv hu)

/-- tests -/
theorem eb_plain {e : Expr} {whole : Sem Value} (h : EV C whole ρ φ fun a φ₁ => Tru C ρ a φ₁ B)
    (he : PySem.isTrue e C.env whole = (do
      let v ← whole
      standAt e.pos
      holding [v] (truthy v)) := by with_unfolding_all rfl) : EB C (PySem.isTrue e C.env whole) ρ φ B :=
  WPx.two (fun x => isTrue_plain x he) (h.mono fun a φ₁ h₁ v hv => h₁ v hv)
theorem eb_cmp {l r : Expr} {op : CmpOp} {pos : Pos} {whole : Sem Value} (h : EV C (eval l C.env) ρ φ fun a φ₁ => EV C (eval r C.env) ρ φ₁ fun b φ₂ => Cmp C ρ op a b φ₂ fun c φ₃ => Tru C ρ c φ₃ B)
    (hm : behindInMarks op r = false := by with_unfolding_all rfl) : EB C (PySem.isTrue (.Compare l [op] [r] pos) C.env whole) ρ φ B := by
  intro fz s S
  refine wpAny_isTrue_Compare1 (wpAny_mono (h fz s S) (fun v s' => ?_) fun _ _ x => x) hm
  rintro ⟨b, φ', hr, S', q⟩
  refine wpAny_mono (q fz s' S') (fun u s'' => ?_) fun _ _ x => x
  rintro ⟨c, φ'', hr', S'', q'⟩
  refine wpAny_mono (q' v u hr hr' fz s'' S'') (fun u s'' => ?_) fun _ _ x => x
  rintro ⟨d, φ₃, hr₃, S₃, q₃⟩
  exact q₃ u hr₃ fz s'' S₃
theorem eb_not {e : Expr} {pos : Pos} {whole : Sem Value} (h : EB C (PySem.isTrue e C.env (eval e C.env)) ρ φ fun b φ₁ => B (!b) φ₁) : EB C (PySem.isTrue (.UnaryOp .Not e pos) C.env whole) ρ φ B := by
  intro fz s S
  refine isTrue_not (wpAny_mono (h fz s S) (fun v s' => ?_) fun _ _ x => x)
  rintro ⟨b, φ', rfl, S', q⟩
  exact ⟨_, φ', rfl, S', q⟩
theorem eb_and_nil {pos : Pos} {whole : Sem Value} (h : B true φ) : EB C (PySem.isTrue (.BoolOp .And [] pos) C.env whole) ρ φ B := fun fz s S => isTrue_and_nil ⟨true, φ, rfl, S, h⟩
theorem eb_or_nil {pos : Pos} {whole : Sem Value} (h : B false φ) : EB C (PySem.isTrue (.BoolOp .Or [] pos) C.env whole) ρ φ B := fun fz s S => isTrue_or_nil ⟨false, φ, rfl, S, h⟩
theorem eb_and {e : Expr} {rest : List Expr} {pos : Pos} {whole : Sem Value}
    (h : EB C (PySem.isTrue e C.env (eval e C.env)) ρ φ fun b φ₁ => (b = true → EB C (PySem.isTrue (.BoolOp .And rest pos) C.env whole) ρ φ₁ B) ∧ (b = false → B false φ₁)) : EB C (PySem.isTrue (.BoolOp .And (e :: rest) pos) C.env whole) ρ φ B := by
  intro fz s S
  refine isTrue_and (wpAny_mono (h fz s S) (fun v s' => ?_) fun _ _ x => x)
  rintro ⟨b, φ', rfl, S', q⟩
  cases b with
  | true => rw [if_pos rfl]; exact q.1 rfl fz s' S'
  | false => rw [if_neg (by simp)]; exact ⟨false, φ', rfl, S', q.2 rfl⟩
theorem eb_or {e : Expr} {rest : List Expr} {pos : Pos} {whole : Sem Value}
    (h : EB C (PySem.isTrue e C.env (eval e C.env)) ρ φ fun b φ₁ => (b = true → B true φ₁) ∧ (b = false → EB C (PySem.isTrue (.BoolOp .Or rest pos) C.env whole) ρ φ₁ B)) : EB C (PySem.isTrue (.BoolOp .Or (e :: rest) pos) C.env whole) ρ φ B := by
  intro fz s S
  refine isTrue_or (wpAny_mono (h fz s S) (fun v s' => ?_) fun _ _ x => x)
  rintro ⟨b, φ', rfl, S', q⟩
  cases b with
  | true => rw [if_pos rfl]; exact ⟨true, φ', rfl, S', q.1 rfl⟩
  | false => rw [if_neg (by simp)]; exact q.2 rfl fz s' S'

/-- and, or as values -/
theorem ev_and {e₁ e₂ : Expr} {rest : List Expr} {pos : Pos}
    (h : EV C (eval e₁ C.env) ρ φ fun a φ₁ => Tru C ρ a φ₁ fun b φ₂ => (b = true → EV C (eval (.BoolOp .And (e₂ :: rest) pos) C.env) ρ φ₂ Q) ∧ (b = false → Q a φ₂)) : EV C (eval (.BoolOp .And (e₁ :: e₂ :: rest) pos) C.env) ρ φ Q := by
  intro fz s S
  refine BoolOp_and (wpAny_mono (h fz s S) (fun v s' => ?_) fun _ _ x => x)
  rintro ⟨a, φ', hr, S', q⟩
  refine wpAny_mono (q v hr fz s' S') (fun c s'' => ?_) fun _ _ x => x
  rintro ⟨b, φ'', rfl, S'', q'⟩
  cases b with
  | true => rw [if_pos rfl]; exact q'.1 rfl fz s'' S''
  | false => rw [if_neg (by simp)]; exact ⟨a, φ'', hr, S'', q'.2 rfl⟩
theorem ev_or {e₁ e₂ : Expr} {rest : List Expr} {pos : Pos}
    (h : EV C (eval e₁ C.env) ρ φ fun a φ₁ => Tru C ρ a φ₁ fun b φ₂ => (b = true → Q a φ₂) ∧ (b = false → EV C (eval (.BoolOp .Or (e₂ :: rest) pos) C.env) ρ φ₂ Q)) : EV C (eval (.BoolOp .Or (e₁ :: e₂ :: rest) pos) C.env) ρ φ Q := by
  intro fz s S
  refine BoolOp_or (wpAny_mono (h fz s S) (fun v s' => ?_) fun _ _ x => x)
  rintro ⟨a, φ', hr, S', q⟩
  refine wpAny_mono (q v hr fz s' S') (fun c s'' => ?_) fun _ _ x => x
  rintro ⟨b, φ'', rfl, S'', q'⟩
  cases b with
  | true => rw [if_pos rfl]; exact ⟨a, φ'', hr, S'', q'.1 rfl⟩
  | false => rw [if_neg (by simp)]; exact q'.2 rfl fz s'' S''
theorem ev_bool_one {op : BoolOp} {e : Expr} {pos : Pos} (h : EV C (eval e C.env) ρ φ Q) : EV C (eval (.BoolOp op [e] pos) C.env) ρ φ Q := fun fz s S => BoolOp_one (h fz s S)
theorem ev_ifexp {test body orelse : Expr} {pos : Pos}
    (h : EB C (PySem.isTrue test C.env (eval test C.env)) ρ φ fun b φ₁ => (b = true → EV C (eval body C.env) ρ φ₁ Q) ∧ (b = false → EV C (eval orelse C.env) ρ φ₁ Q)) : EV C (eval (.IfExp test body orelse pos) C.env) ρ φ Q := by
  intro fz s S
  refine IfExp_ (wpAny_mono (h fz s S) (fun v s' => ?_) fun _ _ x => x)
  rintro ⟨b, φ', rfl, S', q⟩
  cases b with
  | true => rw [if_pos rfl]; exact q.1 rfl fz s' S'
  | false => rw [if_neg (by simp)]; exact q.2 rfl fz s' S'

/-- what is known of ints -/
theorem bin_add {a b : Int} (q : Q (.int (a + b)) φ) : Bin C ρ .Add (.int a) (.int b) φ Q := by
  rintro _ _ ⟨t, rfl⟩ ⟨u, rfl⟩; exact WPx.of fun fz s m ψ H g o => add_int ⟨.int _, φ, ⟨_, rfl⟩, St.mk' H g o, q⟩
theorem bin_sub {a b : Int} (q : Q (.int (a - b)) φ) : Bin C ρ .Sub (.int a) (.int b) φ Q := by
  rintro _ _ ⟨t, rfl⟩ ⟨u, rfl⟩; exact WPx.of fun fz s m ψ H g o => sub_int ⟨.int _, φ, ⟨_, rfl⟩, St.mk' H g o, q⟩
theorem bin_mod {a b : Int} (hb : b ≠ 0) (q : Q (.int (a.fmod b)) φ) : Bin C ρ .Mod (.int a) (.int b) φ Q := by
  rintro _ _ ⟨t, rfl⟩ ⟨u, rfl⟩; exact WPx.of fun fz s m ψ H g o => mod_int' hb ⟨.int _, φ, ⟨_, rfl⟩, St.mk' H g o, q⟩
theorem inp_add {a b : Int} (q : Q (.int (a + b)) φ) : Inp C ρ .Add (.int a) (.int b) φ Q := by
  rintro _ _ ⟨t, rfl⟩ ⟨u, rfl⟩; exact WPx.of fun fz s m ψ H g o => iadd_int ⟨.int _, φ, ⟨_, rfl⟩, St.mk' H g o, q⟩
theorem cmp_eq {a b : Int} (q : Q (.bool (a == b)) φ) : Cmp C ρ .Eq (.int a) (.int b) φ Q := by
  rintro _ _ ⟨t, rfl⟩ ⟨u, rfl⟩; exact WPx.of fun fz s m ψ H g o => eq_int ⟨.bool _, φ, rfl, St.mk' H g o, q⟩
theorem cmp_ne {a b : Int} (q : Q (.bool (a != b)) φ) : Cmp C ρ .NotEq (.int a) (.int b) φ Q := by
  rintro _ _ ⟨t, rfl⟩ ⟨u, rfl⟩; exact WPx.of fun fz s m ψ H g o => ne_int ⟨.bool _, φ, rfl, St.mk' H g o, q⟩
theorem cmp_lt {a b : Int} (q : Q (.bool (decide (a < b))) φ) : Cmp C ρ .Lt (.int a) (.int b) φ Q := by
  rintro _ _ ⟨t, rfl⟩ ⟨u, rfl⟩; exact WPx.of fun fz s m ψ H g o => lt_int ⟨.bool _, φ, rfl, St.mk' H g o, q⟩
theorem cmp_le {a b : Int} (q : Q (.bool (decide (a ≤ b))) φ) : Cmp C ρ .LtE (.int a) (.int b) φ Q := by
  rintro _ _ ⟨t, rfl⟩ ⟨u, rfl⟩; exact WPx.of fun fz s m ψ H g o => le_int ⟨.bool _, φ, rfl, St.mk' H g o, q⟩
theorem cmp_gt {a b : Int} (q : Q (.bool (decide (b < a))) φ) : Cmp C ρ .Gt (.int a) (.int b) φ Q := by
  rintro _ _ ⟨t, rfl⟩ ⟨u, rfl⟩; exact WPx.of fun fz s m ψ H g o => gt_int ⟨.bool _, φ, rfl, St.mk' H g o, q⟩
theorem cmp_ge {a b : Int} (q : Q (.bool (decide (b ≤ a))) φ) : Cmp C ρ .GtE (.int a) (.int b) φ Q := by
  rintro _ _ ⟨t, rfl⟩ ⟨u, rfl⟩; exact WPx.of fun fz s m ψ H g o => ge_int ⟨.bool _, φ, rfl, St.mk' H g o, q⟩
theorem cmp_eqB {a b : Bool} (q : Q (.bool (a == b)) φ) : Cmp C ρ .Eq (.bool a) (.bool b) φ Q := by
  rintro _ _ rfl rfl; exact WPx.of fun fz s m ψ H g o => eq_bool ⟨.bool _, φ, rfl, St.mk' H g o, q⟩
theorem cmp_neB {a b : Bool} (q : Q (.bool (a != b)) φ) : Cmp C ρ .NotEq (.bool a) (.bool b) φ Q := by
  rintro _ _ rfl rfl; exact WPx.of fun fz s m ψ H g o => ne_bool ⟨.bool _, φ, rfl, St.mk' H g o, q⟩
theorem cmp_eqS {a b : Str} (q : Q (.bool (a == b)) φ) : Cmp C ρ .Eq (.str a) (.str b) φ Q := by
  rintro _ _ ⟨t, rfl⟩ ⟨u, rfl⟩; exact WPx.of fun fz s m ψ H g o => eq_str ⟨.bool _, φ, rfl, St.mk' H g o, q⟩
theorem cmp_neS {a b : Str} (q : Q (.bool (a != b)) φ) : Cmp C ρ .NotEq (.str a) (.str b) φ Q := by
  rintro _ _ ⟨t, rfl⟩ ⟨u, rfl⟩; exact WPx.of fun fz s m ψ H g o => ne_str ⟨.bool _, φ, rfl, St.mk' H g o, q⟩
noncomputable def AV.isNone : AV → Bool
  | .none => true
  | .raw v => v == .none
  | _ => false
theorem AV.isNone_eq {a : AV} {v : Value} (h : a.is v) : (v == Value.none) = a.isNone := by
  cases a with
  | none => cases h; rfl
  | bool b => cases h; rfl
  | int i => obtain ⟨t, rfl⟩ := h; rfl
  | str s => obtain ⟨t, rfl⟩ := h; rfl
  | ref a => cases h; rfl
  | raw w => cases h; rfl
theorem cmp_isNone {a : AV} (q : Q (.bool a.isNone) φ) : Cmp C ρ .Is a .none φ Q := by
  rintro u _ hu rfl
  refine WPx.of fun fz s m ψ H g o => is_none ⟨.bool _, φ, rfl, St.mk' H g o, ?_⟩
  rw [AV.isNone_eq hu]; exact q
theorem una_neg {a : Int} (q : Q (.int (-a)) φ) : Una C ρ .USub (.int a) φ Q := by
  rintro _ ⟨t, rfl⟩; exact WPx.of fun fz s m ψ H g o => neg_int ⟨.int _, φ, ⟨_, rfl⟩, St.mk' H g o, q⟩
theorem una_not {a : AV} (h : Tru C ρ a φ fun b φ₁ => Q (.bool (!b)) φ₁) : Una C ρ .Not a φ Q := by
  intro u hu fz s S
  refine not_of (wpAny_mono (h u hu fz s S) (fun v s' => ?_) fun _ _ x => x)
  rintro ⟨b, φ', rfl, S', q⟩
  exact ⟨.bool _, φ', rfl, S', q⟩
theorem tru_bool {b : Bool} (q : B b φ) : Tru C ρ (.bool b) φ B := by rintro _ rfl; exact WPx.of fun fz s m ψ H g o => wpAny_truthy_bool ⟨b, φ, rfl, St.mk' H g o, q⟩
theorem tru_int {a : Int} (q : B (a != 0) φ) : Tru C ρ (.int a) φ B := by rintro _ ⟨t, rfl⟩; exact WPx.of fun fz s m ψ H g o => truthy_int ⟨_, φ, rfl, St.mk' H g o, q⟩
end
end Mine

open PySem PySem.W PyProof.Rows PySem.Calls
set_option Elab.async false
set_option maxRecDepth 100000
set_option linter.unusedVariables false
namespace Mine

/-- a class whose objects bear their own dict and nothing else -/
structure ClsOk (K : Frag) (D : Addr) : Prop where
  pg : ∀ x, plainGet K D x = true
  hd : hasDictIn K D = true
  sa : findIn K (.ref D) "__setattr__" = some (some (.builtin "object.__setattr__"))
  po : plainOver K D = true
/-- a name that is no member of the class -/
structure FldOk (K : Frag) (D : Addr) (x : Str) : Prop where
  fi : findIn K (.ref D) x = some none
  ta : takerIn K D x = some none

def AV.handed : AV → Prop
  | .raw v => handedIn v = true
  | _ => True
theorem AV.handed_in {a : AV} {v : Value} (h : a.handed) (hv : a.is v) : handedIn v = true := by
  cases a with
  | none => cases hv; rfl
  | bool b => cases hv; rfl
  | int i => obtain ⟨t, rfl⟩ := hv; rfl
  | str s => obtain ⟨t, rfl⟩ := hv; rfl
  | ref a => cases hv; rfl
  | raw w => cases hv; exact h

theorem Fields.get {fs : List (Str × AV)} {es : List DictEntry} (h : Fields fs es) {x : Str} {v : AV} (e : fs.lookup x = some v) : ∃ u, getL x es = some (some u) ∧ v.is u := by
  induction h with
  | nil => cases e
  | @cons p en fs es hr _ ih =>
    obtain ⟨y, w⟩ := p
    obtain ⟨⟨t, hk⟩, hv⟩ := hr
    rw [List.lookup_cons] at e
    have hs : en.key.isStr x = (y == x) := by rw [hk]; rfl
    by_cases q : (x == y) = true
    · rw [q] at e
      cases e
      have q' : (y == x) = true := by rw [beq_iff_eq.mp q]; exact beq_self_eq_true y
      exact ⟨en.val, by unfold getL; rw [List.find?_cons, hs, q'], hv⟩
    · have q0 : (x == y) = false := by simpa using q
      rw [q0] at e
      obtain ⟨u, hu, hi⟩ := ih e
      refine ⟨u, ?_, hi⟩
      have q' : (y == x) = false := by
        cases z : (y == x) with
        | false => rfl
        | true => rw [beq_iff_eq.mp z] at q0; simp at q0
      unfold getL at hu ⊢
      rw [List.find?_cons, hs, q']
      dsimp only
      split at hu
      · rename_i e' he'; rw [he']; exact hu
      · split at hu <;> cases hu
theorem Fields.none {fs : List (Str × AV)} {es : List DictEntry} (h : Fields fs es) {x : Str} (e : fs.lookup x = Option.none) : getL x es = some Option.none := by
  have key : es.find? (fun e => e.key.isStr x) = Option.none ∧ es.any (·.refKey) = false := by
    induction h with
    | nil => exact ⟨rfl, rfl⟩
    | @cons p en fs es hr _ ih =>
      obtain ⟨y, w⟩ := p
      obtain ⟨⟨t, hk⟩, hv⟩ := hr
      rw [List.lookup_cons] at e
      by_cases q : (x == y) = true
      · rw [q] at e; cases e
      · have q0 : (x == y) = false := by simpa using q
        rw [q0] at e
        obtain ⟨h1, h2⟩ := ih e
        have q' : (y == x) = false := by
          cases z : (y == x) with
          | false => rfl
          | true => rw [beq_iff_eq.mp z] at q0; simp at q0
        have hs : en.key.isStr x = (y == x) := by rw [hk]; rfl
        refine ⟨by rw [List.find?_cons, hs, q']; exact h1, ?_⟩
        rw [List.any_cons, h2, Bool.or_false]
        unfold DictEntry.refKey
        rw [hk]
  unfold getL
  rw [key.1, key.2]; rfl
noncomputable def setF (x : Str) (v : AV) : List (Str × AV) → List (Str × AV)
  | [] => [(x, v)]
  | p :: r => if p.1 == x then (p.1, v) :: r else p :: setF x v r
theorem setF_length (x : Str) (v : AV) : ∀ fs, (setF x v fs).length ≤ fs.length + 1
  | [] => Nat.le_refl _
  | p :: r => by
    unfold setF
    split
    · simp
    · have := setF_length x v r; simp; omega
theorem Fields.put {fs : List (Str × AV)} {es : List DictEntry} (h : Fields fs es) {x : Str} {v : AV} {u : Value} {hsh : Int} {t : Tok} (hv : v.is u) : Fields (setF x v fs) (putL x hsh (.str x t) u es) := by
  induction h with
  | nil => exact .cons ⟨⟨t, rfl⟩, hv⟩ .nil
  | @cons p en fs es hr tl ih =>
    obtain ⟨y, w⟩ := p
    obtain ⟨⟨t', hk⟩, hv'⟩ := hr
    have hs : en.key.isStr x = (y == x) := by rw [hk]; rfl
    unfold setF putL
    rw [hs]
    by_cases q : (y == x) = true
    · rw [if_pos q, if_pos q]; exact .cons ⟨⟨t', hk⟩, hv⟩ tl
    · rw [if_neg q, if_neg q]; exact .cons ⟨⟨t', hk⟩, hv'⟩ ih

section
variable {prog : Program} {w : World} {A : Around} {K : Frag} {C x : Addr} {s : Shared} {R : Result → Shared → Prop}
theorem osa_same {ox : Obj} {dx : Addr} {name : Str} {tk : Tok} {v : Value} {es : List DictEntry} {n : Nat} (X : K.In s.heap)
    (I : W.InstAt s.heap x ox C (some (dictOf es n))) (hd : ox.dict = some dx) (hp : plainOver K C = true) (ht : takerIn K C name = some none) (hh : hasDictIn K C = true)
    (hl : (getL name es).isSome = true) (hz : (putL name (PyData.keyHash w.params name) (.str name s.toks) v es).length ≤ 1000)
    (h : ∀ h', Heap.SameBut dx s.heap h' → h'.get? dx = some (dictOf (putL name (PyData.keyHash w.params name) (.str name s.toks) v es) (putN name es n)) → R (.ok (.ret .none)) { s with heap := h', toks := s.toks + 1 }) :
    codeAny (model prog w) A (.call (.builtin "object.__setattr__") ⟨[.ref x, .str name tk, v], []⟩) R s := by
  refine osa_open X I hp ht fun b => ?_
  obtain ⟨cd, hc, hd'⟩ := any_some hh
  obtain ⟨hx, hcl, hn, hD⟩ := I
  obtain ⟨oc, odi, oda, osl⟩ := ox
  dsimp only at hcl hd hD
  subst hcl hd
  have D : s.heap.get? dx = some (dictOf es n) := hD
  refine wpAny_bind (wpAny_pure (wpAny_bind (wpAny_bind (wpAny_loadPart hx (wpAny_bind ((looks_clsIn X hc).here ?_))))))
  rw [hd']
  refine wpAny_pure (a := some dx) (wpAny_bind (wpAny_pure (wpAny_bind ?_)))
  unfold nsSet
  refine wpAny_bind (wpAny_bind (wpAny_askSetting (wpAny_pure (wpAny_bind (wpAny_mkText (wpAny_bind (wpAny_loadPart D ?_)))))))
  dsimp only
  have c : (!es.toArray.any (·.key.isStr name) && es.toArray.any (·.refKey)) = false := by
    rw [← Array.any_toList, ← Array.any_toList]
    show (!es.any (·.key.isStr name) && es.any (·.refKey)) = false
    unfold getL at hl
    split at hl
    · rename_i en he
      rw [List.any_eq_true.mpr ⟨en, List.mem_of_find?_eq_some he, List.find?_some he⟩]; rfl
    · split at hl
      · cases hl
      · rename_i z; rw [Bool.not_eq_true] at z; rw [z, Bool.and_false]
  have e := putName_dict name (PyData.keyHash w.params name) (.str name s.toks) v es n
  have D' : (s.heap.update dx (Obj.putName name (PyData.keyHash w.params name) (.str name s.toks) v)).get? dx = some (dictOf (putL name (PyData.keyHash w.params name) (.str name s.toks) v es) (putN name es n)) := by
    rw [← e]; exact Heap.get?_update_self _ D (by rw [e]; rfl)
  rw [aRefKeyMayBeTheName_at, c]
  refine wpAny_updatePart D ?_
  refine wpAny_bind (wpAny_lookBehind D' (pastItsLine_dict (by rw [List.size_toArray, sizeLine_eq]; omega)) ?_)
  exact wpAny_pure (h _ (Heap.SameBut.update ..) D')
end

section
variable {C : FC} {ρ : Loc} {φ : AH} {n : Nat} {Q : AV → AH → Prop} {B : Bool → AH → Prop}
theorem StC.In {fz m ψ h} (G : Gd C n) (H : StC C fz ρ φ m ψ h) : C.W.K.In h := G.ok.X.keeps H.fr.keep
theorem inst_of {fz m ψ h} (H : StC C fz ρ φ m ψ h) {a D : Addr} {fs : List (Str × AV)} (e : φ a = some (.inst D fs)) :
    ∃ es n, W.InstAt h a (instObj D (ψ a)) D (some (dictOf es n)) ∧ Fields fs es := by
  obtain ⟨c1, es, k, c2, c3⟩ := H.ok.heap _ _ e
  exact ⟨es, k, ⟨c1, rfl, rfl, c2⟩, c3⟩

theorem att_own {a D : Addr} {fs : List (Str × AV)} {x : Str} {v : AV} (e : φ a = some (.inst D fs)) (hl : fs.lookup x = some v) (q : Q v φ) (L : ClsOk C.W.K D) (F : FldOk C.W.K D x) (hv : v.handed) (G : Gd C n := by assumption) :
    Att C ρ (.ref a) x φ Q := by
  rintro _ rfl
  refine WPx.of fun fz s m ψ H g o => ?_
  obtain ⟨es, k, I, hF⟩ := inst_of H e
  obtain ⟨u, hu, hi⟩ := hF.get hl
  exact get_own H.fr G.ok.X I (L.pg x) L.hd F.fi rfl hu (AV.handed_in hv hi) ⟨v, φ, hi, St.mk' H g o, q⟩

/-- a.x = v -/
def SetA (C : FC) (ρ : Loc) (a : AV) (x : Str) (v : AV) (φ : AH) (Q : AH → Prop) : Prop := ∀ u w, a.is u → v.is w → EU C (setAttr u x w) ρ φ Q
theorem seta_own {a D : Addr} {fs : List (Str × AV)} {x : Str} {v : AV} {P : AH → Prop} (e : φ a = some (.inst D fs)) (q : P (upd φ a (.inst D (setF x v fs)))) (L : ClsOk C.W.K D) (F : FldOk C.W.K D x) (hz : fs.length ≤ 900 := by decide) (G : Gd C n := by assumption) :
    SetA C ρ (.ref a) x v φ P := by
  rintro _ w rfl hw
  refine WPx.of fun fz s m ψ H g o => ?_
  obtain ⟨es, k, I, hF⟩ := inst_of H e
  have hlen : es.length ≤ 900 := by rw [← hF.length]; exact hz
  have hs : (getL x es).isSome = true := by
    cases z : fs.lookup x with
    | none => rw [hF.none z]; rfl
    | some w => obtain ⟨u, hu, _⟩ := hF.get z; rw [hu]; rfl
  refine set_plain (H.In G) I L.sa (osa_same (s := { s with toks := s.toks + 1 }) (H.In G) I rfl L.po F.ta L.hd hs ?_ fun h' hs' hd' => ?_)
  · have q2 := (hF.put (x := x) (v := v) (u := w) (hsh := PyData.keyHash C.W.w.params x) (t := s.toks + 1) hw).length
    have q3 := setF_length x v fs
    have q4 := hF.length
    show (putL x _ (.str x (s.toks + 1)) w es).length ≤ 1000
    omega
  · refine ⟨(), _, trivial, St.putF H g o e hs' ⟨?_, _, _, hd', hF.put hw⟩, q⟩
    rw [hs'.2 a fun z => ?_]
    · exact I.at_
    · have := H.ok.dcov _ _ _ e; rw [← z, e] at this; cases this
end
end Mine

open PySem PySem.W PyProof.Rows PySem.Calls PySem.MeetsSeq PySem.MeetsSeq2 PySem.MeetsSeq3
set_option Elab.async false
set_option maxRecDepth 100000
set_option linter.unusedVariables false
namespace Mine

section
variable {C : FC} {ρ : Loc} {φ : AH} {n : Nat} {Q : AV → AH → Prop} {B : Bool → AH → Prop} {P : AH → Prop}

/-- arguments -/
theorem el_nil {pos : Pos} {R : List AV → AH → Prop} (q : R [] φ) : EL C (spliced (backTo pos (starEach [] C.env))) ρ φ R := fun fz s S => spliced_none ⟨[], φ, .nil, S, q⟩
theorem el_cons {e : Expr} {rest : List Expr} {pos : Pos} {R : List AV → AH → Prop} (h : EV C (eval e C.env) ρ φ fun a φ₁ => EL C (spliced (backTo pos (starEach rest C.env))) ρ φ₁ fun as φ₂ => R (a :: as) φ₂)
    (he : starEach (e :: rest) C.env = (false, eval e C.env) :: starEach rest C.env := by with_unfolding_all rfl) : EL C (spliced (backTo pos (starEach (e :: rest) C.env))) ρ φ R := by
  intro fz s S
  refine spliced_more (wpAny_mono (h fz s S) (fun v s' => ?_) fun _ _ x => x) he
  rintro ⟨a, φ', hr, S', q⟩
  refine wpAny_mono (q fz s' S') (fun vs s'' => ?_) fun _ _ x => x
  rintro ⟨as, φ'', hr', S'', q'⟩
  exact ⟨a :: as, φ'', .cons hr hr', S'', q'⟩

/-- a call's tail: the arguments, then the call -/
def CalW (C : FC) (ρ : Loc) (pos : Pos) (f : AV) (args : List Expr) (φ : AH) (Q : AV → AH → Prop) : Prop := ∀ u, f.is u → EV C (callWith pos u [] (backTo pos (starEach args C.env)) []) ρ φ Q
theorem ev_call {f : Expr} {args : List Expr} {pos : Pos} (h : EV C (eval f C.env) ρ φ fun a φ₁ => CalW C ρ pos a args φ₁ Q)
    (he : eval (.Call f args [] pos) C.env = (do
      let f ← eval f C.env
      callWith pos f [] (backTo pos (starEach args C.env)) (backToKw pos (keywordEach [] C.env))) := by with_unfolding_all rfl) : EV C (eval (.Call f args [] pos) C.env) ρ φ Q :=
  WPx.two (fun y => Call_ y he) (h.mono fun a φ₁ h₁ v hv => h₁ v hv)
theorem calw_ref {pos : Pos} {a : Addr} {e : Expr} {rest : List Expr} (hk : keepIn C.W.K (.ref a) = true) (h : EL C (spliced (backTo pos (starEach (e :: rest) C.env))) ρ φ fun vs φ₁ => Cal C ρ (.ref a) vs φ₁ Q) (G : Gd C n := by assumption)
    (he : starEach (e :: rest) C.env = (false, eval e C.env) :: starEach rest C.env := by with_unfolding_all rfl) (hp : (backTo pos (starEach rest C.env)).any (·.1) = false := by with_unfolding_all rfl) : CalW C ρ pos (.ref a) (e :: rest) φ Q := by
  rintro _ rfl fz s S
  refine callWith_K G.ok.X hk (wpAny_mono (h fz s S) (fun vs s' => ?_) fun _ _ x => x) he hp
  rintro ⟨as, φ', hr, S', q⟩
  obtain ⟨⟨m, ψ, H⟩, _⟩ := S'.1, S'.2
  exact ⟨H.In G, q _ vs rfl hr fz s' S'⟩
theorem calw_ref0 {pos : Pos} {a : Addr} (hk : keepIn C.W.K (.ref a) = true) (h : Cal C ρ (.ref a) [] φ Q) (G : Gd C n := by assumption) : CalW C ρ pos (.ref a) [] φ Q := by
  rintro _ rfl fz s S
  obtain ⟨⟨m, ψ, H⟩, _⟩ := S.1, S.2
  exact callWith_K0 (H.In G) hk (h _ [] rfl .nil fz s S)
theorem calw_builtin {pos : Pos} {id : String} {e : Expr} {rest : List Expr} (h : EL C (spliced (backTo pos (starEach (e :: rest) C.env))) ρ φ fun vs φ₁ => Cal C ρ (.raw (.builtin id)) vs φ₁ Q)
    (he : starEach (e :: rest) C.env = (false, eval e C.env) :: starEach rest C.env := by with_unfolding_all rfl) (hp : (backTo pos (starEach rest C.env)).any (·.1) = false := by with_unfolding_all rfl) : CalW C ρ pos (.raw (.builtin id)) (e :: rest) φ Q := by
  rintro _ rfl fz s S
  refine PyProof.Rows.callWith_builtin1 (wpAny_mono (h fz s S) (fun vs s' => ?_) fun _ _ x => x) he hp
  rintro ⟨as, φ', hr, S', q⟩
  exact q _ vs rfl hr fz s' S'
theorem calw_type {pos : Pos} {T : String} {e : Expr} {rest : List Expr} (h : EL C (spliced (backTo pos (starEach (e :: rest) C.env))) ρ φ fun vs φ₁ => Cal C ρ (.raw (.type T)) vs φ₁ Q)
    (he : starEach (e :: rest) C.env = (false, eval e C.env) :: starEach rest C.env := by with_unfolding_all rfl) (hp : (backTo pos (starEach rest C.env)).any (·.1) = false := by with_unfolding_all rfl) : CalW C ρ pos (.raw (.type T)) (e :: rest) φ Q := by
  rintro _ rfl fz s S
  refine Pv.callWith_type1 (wpAny_mono (h fz s S) (fun vs s' => ?_) fun _ _ x => x) he hp
  rintro ⟨as, φ', hr, S', q⟩
  exact q _ vs rfl hr fz s' S'

/-- a method's call -/
def Mth (C : FC) (ρ : Loc) (pos : Pos) (a : AV) (x : Str) (args : List Expr) (φ : AH) (Q : AV → AH → Prop) : Prop :=
  ∀ u pl, a.is u → ∀ fz s, St C fz ρ φ s → wpAny C.M C.A (getMethod u x pl) (fun fx s' => wpAny C.M C.A (callWith pos fx.1 fx.2 (backTo pos (starEach args C.env)) [])
    (PW C AV.is fz ρ Q) NoE s') NoE s
theorem ev_mcall {o : Expr} {x : Str} {apos pos : Pos} {args : List Expr} {pl : Sem Bool} (h : EV C (eval o C.env) ρ φ fun a φ₁ => Mth C ρ pos a x args φ₁ Q)
    (he : eval (.Call (.Attribute o x apos) args [] pos) C.env = (do
      let ov ← eval o C.env
      standAt apos.atName
      let (f, first) ← holding [ov] (getMethod ov x pl)
      callWith pos f first (backTo pos (starEach args C.env)) []) := by with_unfolding_all rfl) : EV C (eval (.Call (.Attribute o x apos) args [] pos) C.env) ρ φ Q := by
  intro fz s S
  refine MethodCall_ (wpAny_mono (h fz s S) (fun v s' => ?_) fun _ _ x => x) he
  rintro ⟨a, φ', hr, S', q⟩
  exact q v pl hr fz s' S'
/-- a method of an object's class -/
theorem mth_inst {pos : Pos} {a D f : Addr} {fs : List (Str × AV)} {x : Str} {e : Expr} {rest : List Expr} (ea : φ a = some (.inst D fs)) (L : ClsOk C.W.K D) (hf : findIn C.W.K (.ref D) x = some (some (.ref f))) (ht : isFn C.W.K (.ref f) = true) (hk : keepIn C.W.K (.ref f) = true)
    (hl : fs.lookup x = none) (h : EL C (spliced (backTo pos (starEach (e :: rest) C.env))) ρ φ fun vs φ₁ => Cal C ρ (.ref f) (.ref a :: vs) φ₁ Q) (G : Gd C n := by assumption)
    (he : starEach (e :: rest) C.env = (false, eval e C.env) :: starEach rest C.env := by with_unfolding_all rfl) (hp : (backTo pos (starEach rest C.env)).any (·.1) = false := by with_unfolding_all rfl) : Mth C ρ pos (.ref a) x (e :: rest) φ Q := by
  rintro _ pl rfl fz s S
  obtain ⟨⟨m, ψ, H⟩, _⟩ := S.1, S.2
  obtain ⟨es, k, I, hF⟩ := inst_of H ea
  refine method_inst H.fr G.ok.X I (L.pg x) hf ht (hF.none hl) ?_
  refine callWith_K G.ok.X hk (wpAny_mono (h fz s S) (fun vs s' => ?_) fun _ _ x => x) he hp
  rintro ⟨as, φ', hr, S', q⟩
  obtain ⟨⟨m', ψ', H'⟩, _⟩ := S'.1, S'.2
  exact ⟨H'.In G, q _ _ rfl (.cons rfl hr) fz s' S'⟩
theorem callWith_bm {M : Model} {A : Around} {E : Value → Shared → Prop} {s : Shared} {env : Env} {pos : Pos} {id : String} {first : List Value} {e : Expr} {rest : List Expr} {Q : Value → Shared → Prop}
    (h : wpAny M A (spliced (backTo pos (starEach (e :: rest) env))) (fun vs s₁ => wpAny M A (call (.builtin id) (first ++ vs)) Q E s₁) E s)
    (he : starEach (e :: rest) env = (false, eval e env) :: starEach rest env) (hp : (backTo pos (starEach rest env)).any (·.1) = false) : wpAny M A (callWith pos (.builtin id) first (backTo pos (starEach (e :: rest) env)) []) Q E s := by
  rw [he] at h ⊢
  exact Calls.callWith_builtin (by show (false || (backTo pos (starEach rest env)).any (·.1)) = false; rw [hp]; rfl) (evalArgs_plain h)
/-- a method of a built-in's -/
def Plain (φ : AH) (a : Addr) (T : String) : Prop := match φ a with
  | some (.list _) => T = "list"
  | some (.idict _ _) => T = "dict"
  | some (.sdict _) => T = "dict"
  | _ => False
theorem plain_of {fz m ψ} {s : Shared} (H : StC C fz ρ φ m ψ s.heap) {a : Addr} {T : String} (h : Plain φ a T) : s.TypeIs (.ref a) T ∧ ∀ b, Value.ref a = .ref b → ∃ o, s.heap.get? b = some o ∧ o.dict = none := by
  unfold Plain at h
  split at h
  · rename_i e
    obtain ⟨vs, k, c1, c2⟩ := H.ok.heap _ _ e
    subst h
    exact ⟨⟨_, c1, rfl⟩, fun b q => by cases q; exact ⟨_, c1, rfl⟩⟩
  · rename_i e
    obtain ⟨kvs, c1, c2⟩ := H.ok.heap _ _ e
    subst h
    exact ⟨c1.dictOf.typeIs, c1.dictOf.mapOf.noDict⟩
  · rename_i e
    obtain ⟨kvs, c1, c2⟩ := H.ok.heap _ _ e
    subst h
    exact ⟨c1.typeIs, c1.mapOf.noDict⟩
  · exact h.elim
theorem mth_builtin {pos : Pos} {a : Addr} {T id : String} {x : Str} {e : Expr} {rest : List Expr} (hp' : Plain φ a T) (pa : PlainAttrs T) (sl : Slot T x id) (ty : typeOf (.builtin id) = pure (.type "method_descriptor"))
    (h : EL C (spliced (backTo pos (starEach (e :: rest) C.env))) ρ φ fun vs φ₁ => Cal C ρ (.raw (.builtin id)) (.ref a :: vs) φ₁ Q)
    (he : starEach (e :: rest) C.env = (false, eval e C.env) :: starEach rest C.env := by with_unfolding_all rfl) (hp : (backTo pos (starEach rest C.env)).any (·.1) = false := by with_unfolding_all rfl) : Mth C ρ pos (.ref a) x (e :: rest) φ Q := by
  rintro _ pl rfl fz s S
  obtain ⟨⟨m, ψ, H⟩, _⟩ := S.1, S.2
  obtain ⟨h1, h2⟩ := plain_of H hp'
  refine getMethod_builtin h1 pa sl ty h2 ?_
  refine callWith_bm (wpAny_mono (h fz s S) (fun vs s' => ?_) fun _ _ x => x) he hp
  rintro ⟨as, φ', hr, S', q⟩
  exact q _ _ rfl (.cons rfl hr) fz s' S'
theorem mth_builtin0 {pos : Pos} {a : Addr} {T id : String} {x : Str} (hp' : Plain φ a T) (pa : PlainAttrs T) (sl : Slot T x id) (ty : typeOf (.builtin id) = pure (.type "method_descriptor"))
    (h : Cal C ρ (.raw (.builtin id)) [.ref a] φ Q) : Mth C ρ pos (.ref a) x [] φ Q := by
  rintro _ pl rfl fz s S
  obtain ⟨⟨m, ψ, H⟩, _⟩ := S.1, S.2
  obtain ⟨h1, h2⟩ := plain_of H hp'
  exact getMethod_builtin h1 pa sl ty h2 (callWith_method0 (h _ _ rfl (.cons rfl .nil) fz s S))

theorem StC.lo {fz m ψ h} (G : Gd C n) (H : StC C fz ρ φ m ψ h) {a : Addr} {o : AO} (e : φ a = some o) : (a == sysModules) = false := by
  have h1 := H.ok.own a (.inl ⟨o, e⟩)
  have h2 := modules_low G.ok.T.nolimit
  have : a ≠ sysModules := fun z => absurd h2 (by rw [← z]; exact Nat.not_lt.mpr h1)
  simpa using this

/-- lists -/
theorem sizeLine_ok {k : Nat} (h : k ≤ 1000000) : k ≤ sizeLine := by rw [sizeLine_eq]; omega
theorem sizeLine_ok' {k : Nat} (h : k ≤ 1000001) : k ≤ sizeLine := by rw [sizeLine_eq]; omega
theorem list_of {fz m ψ h} (H : StC C fz ρ φ m ψ h) {a : Addr} {l : List AV} (e : φ a = some (.list l)) : ∃ vs k, IsL h a vs k ∧ AreV l vs.toList ∧ vs.size = l.length := by
  obtain ⟨vs, k, c1, c2⟩ := H.ok.heap _ _ e
  exact ⟨vs, k, c1, c2, by rw [c2.length]; simp⟩
theorem cal_len_list {a : Addr} {l : List AV} (e : φ a = some (.list l)) (q : Q (.int l.length) φ) (hz : l.length ≤ 1000000) : Cal C ρ (.raw (.builtin "len")) [.ref a] φ Q := by
  rintro _ _ rfl (_ | ⟨rfl, _ | _⟩)
  refine WPx.of fun fz s m ψ H g o => ?_
  obtain ⟨vs, k, c1, c2, c3⟩ := list_of H e
  exact PyProof.Rows.len_list c1.isList (by omega) ⟨.int l.length, φ, ⟨_, by rw [c3]⟩, St.mk' H g o, q⟩
theorem cal_append {a : Addr} {l : List AV} {v : AV} (e : φ a = some (.list l)) (q : Q .none (upd φ a (.list (l ++ [v])))) (hz : l.length ≤ 1000000) : Cal C ρ (.raw (.builtin "list.append")) [.ref a, v] φ Q := by
  rintro _ _ rfl (_ | ⟨rfl, _ | ⟨hv, _ | _⟩⟩)
  refine WPx.of fun fz s m ψ H g o => ?_
  obtain ⟨vs, k, c1, c2, c3⟩ := list_of H e
  refine call_meets F.slot_list_append ⟨_, c1, rfl⟩ F.entry_list_append (F.args_list_append_2 _ _) (list_append a vs k _ (sizeLine_ok (by omega))) ⟨c1, ?_⟩
  refine ⟨.none, _, rfl, St.put (o' := .list (l ++ [v])) H g o e trivial trivial (Heap.SameBut.update ..) ⟨vs.push _, _, c1.update _, ?_⟩, q⟩
  rw [Array.toList_push]
  exact c2.snoc hv
theorem cal_reverse {a : Addr} {l : List AV} (e : φ a = some (.list l)) (q : Q .none (upd φ a (.list l.reverse))) (hz : l.length ≤ 1000000) : Cal C ρ (.raw (.builtin "list.reverse")) [.ref a] φ Q := by
  rintro _ _ rfl (_ | ⟨rfl, _ | _⟩)
  refine WPx.of fun fz s m ψ H g o => ?_
  obtain ⟨vs, k, c1, c2, c3⟩ := list_of H e
  refine call_meets F.slot_list_reverse ⟨_, c1, rfl⟩ F.entry_list_reverse (F.args_list_reverse_1 _) (AutoSeq1.list_reverse_list_0 a vs k (sizeLine_ok (by omega))) ⟨c1, ?_⟩
  refine ⟨.none, _, rfl, St.put (o' := .list l.reverse) H g o e trivial trivial (Heap.SameBut.update ..) ⟨vs.reverse, _, c1.update _, ?_⟩, q⟩
  rw [Array.toList_reverse]
  exact c2.reverse
theorem cal_pop {a : Addr} {l : List AV} {v : AV} (e : φ a = some (.list (l ++ [v]))) (q : Q v (upd φ a (.list l))) (hz : l.length ≤ 1000000) : Cal C ρ (.raw (.builtin "list.pop")) [.ref a] φ Q := by
  rintro _ _ rfl (_ | ⟨rfl, _ | _⟩)
  refine WPx.of fun fz s m ψ H g o => ?_
  obtain ⟨vs, k, c1, c2, c3⟩ := list_of H e
  have hl : vs.size = l.length + 1 := by rw [c3]; simp
  obtain ⟨y, hy, hi⟩ := c2.get (i := l.length) (a := v) (by simp)
  have hy' : vs[vs.size - 1]? = some y := by rw [hl, Nat.add_sub_cancel, ← Array.getElem?_toList]; exact hy
  refine call_meets F.slot_list_pop ⟨_, c1, rfl⟩ F.entry_list_pop (F.args_list_pop_1 _) (list_pop_last a vs k y hy' (sizeLine_ok' (by rw [hl]; omega))) ⟨c1, ?_⟩
  refine ⟨v, _, hi, St.put (o' := .list l) H g o e trivial trivial (Heap.SameBut.update ..) ⟨vs.eraseIdxIfInBounds (vs.size - 1), _, c1.update _, ?_⟩, q⟩
  have h3 := c2.take l.length
  rw [List.take_left' rfl] at h3
  have : (vs.eraseIdxIfInBounds (vs.size - 1)).toList = vs.toList.take l.length := by
    obtain ⟨k⟩ := vs
    simp only [List.eraseIdxIfInBounds_toArray, List.size_toArray] at hl ⊢
    rw [hl, Nat.add_sub_cancel, List.eraseIdx_eq_take_drop_succ, List.drop_eq_nil_of_le (by omega), List.append_nil]
  rw [this]; exact h3
theorem bin_addL {a b : Addr} {l k : List AV} (e : φ a = some (.list l)) (e' : φ b = some (.list k)) (q : ∀ d, φ d = none → Q (.ref d) (upd φ d (.list (l ++ k)))) (hz : l.length + k.length ≤ 1000000) : Bin C ρ .Add (.ref a) (.ref b) φ Q := by
  rintro _ _ rfl rfl
  refine WPx.of fun fz s m ψ H g o => ?_
  obtain ⟨vs, i, c1, c2, c3⟩ := list_of H e
  obtain ⟨us, j, d1, d2, d3⟩ := list_of H e'
  refine P.add_list c1 d1 ?_ (sizeLine_ok (by omega))
  obtain ⟨h1, h2⟩ := St.new (a := s.heap.objs.size) (h' := s.heap.push { cls := .type "list", data := .seq (vs ++ us) }) (o' := .list (l ++ k)) (d := s.drawn) (t := s.toks) H g o trivial (Nat.le_refl _) (fun b o e => Heap.get?_push_of_some _ e)
    ⟨vs ++ us, 0, Heap.get?_push_size _ rfl, by rw [Array.toList_append]; exact c2.append d2⟩
  exact ⟨.ref _, _, rfl, h2, q _ h1⟩
theorem ev_list {elts : List Expr} {pos : Pos} (h : EL C (spliced (backTo pos (starEach elts C.env))) ρ φ fun l φ₁ => l.length ≤ 1000000 ∧ ∀ d, φ₁ d = none → Q (.ref d) (upd φ₁ d (.list l))) : EV C (eval (.List elts pos) C.env) ρ φ Q := by
  intro fz s S
  refine List_ (wpAny_mono (h fz s S) (fun vs s' => ?_) fun _ _ x => x)
  rintro ⟨l, φ', hr, ⟨⟨m, ψ, H⟩, g, o⟩, hz, q⟩
  obtain ⟨h1, h2⟩ := St.new (a := s'.heap.objs.size) (h' := s'.heap.push { cls := .type "list", data := .seq vs.toArray }) (o' := .list l) (d := s'.drawn) (t := s'.toks) H g o trivial (Nat.le_refl _) (fun b o e => Heap.get?_push_of_some _ e)
    ⟨vs.toArray, 0, Heap.get?_push_size _ rfl, hr⟩
  exact wpAny_newObj_type ⟨.ref _, _, rfl, h2, q _ h1⟩ (by show vs.toArray.size ≤ sizeLine; rw [List.size_toArray]; exact sizeLine_ok (by rw [← hr.length]; exact hz))
theorem ev_tuple {elts : List Expr} {k : Nat} {pos : Pos} (h : EL C (spliced (backTo pos (starEach elts C.env))) ρ φ fun l φ₁ => l.length ≤ 1000000 ∧ ∀ d, φ₁ d = none → Q (.ref d) (upd φ₁ d (.tup l))) : EV C (eval (.Tuple elts k pos) C.env) ρ φ Q := by
  intro fz s S
  refine Tuple_ (wpAny_mono (h fz s S) (fun vs s' => ?_) fun _ _ x => x)
  rintro ⟨l, φ', hr, ⟨⟨m, ψ, H⟩, g, o⟩, hz, q⟩
  obtain ⟨h1, h2⟩ := St.new (a := s'.heap.objs.size) (h' := s'.heap.push { cls := .type "tuple", data := .seq vs.toArray }) (o' := .tup l) (d := s'.drawn) (t := s'.toks) H g o trivial (Nat.le_refl _) (fun b o e => Heap.get?_push_of_some _ e)
    ⟨vs.toArray, 0, Heap.get?_push_size _ rfl, hr⟩
  exact wpAny_newObj_type ⟨.ref _, _, rfl, h2, q _ h1⟩ (by show vs.toArray.size ≤ sizeLine; rw [List.size_toArray]; exact sizeLine_ok (by rw [← hr.length]; exact hz))

/-- items -/
theorem itm_list {a : Addr} {l : List AV} {i : Int} {v : AV} (e : φ a = some (.list l)) (h0 : 0 ≤ i) (h1 : i < 2 ^ 63) (hv : l[i.toNat]? = some v) (q : Q v φ) : Itm C ρ (.ref a) (.int i) φ Q := by
  rintro _ _ rfl ⟨t, rfl⟩
  refine WPx.of fun fz s m ψ H g o => ?_
  obtain ⟨vs, k, c1, c2, c3⟩ := list_of H e
  obtain ⟨y, hy, hi⟩ := c2.get hv
  exact wpAny_getItem_list c1.isList h0 h1 (by rw [← Array.getElem?_toList]; exact hy) ⟨v, φ, hi, St.mk' H g o, q⟩
theorem subt_of {a : Addr} {b : AV} {x i : Expr} {T id : String} (h : Itm C ρ (.ref a) b φ Q) (hT : ∀ fz (m : Str → Option Value) ψ (s : Shared), StC C fz ρ φ m ψ s.heap → s.TypeIs (.ref a) T)
    (hl : typeLookup (.type T) (Str.ofString "__getitem__") = pure (some (.builtin id))) (hs : ∀ v, b.is v → subscripted i false (.ref a) v = operate [.ref a, v] (getItem (.ref a) v)) : SubT C ρ x i (.ref a) b φ Q := by
  rintro _ v rfl hv
  refine WPx.of fun fz s m ψ H g o => ?_
  exact tail_any (hT fz m ψ s H) hl (h _ v rfl hv fz s ⟨⟨m, ψ, H⟩, g, o⟩) (hs v hv)
theorem subt_list {a : Addr} {l : List AV} {i : Int} {v : AV} {x e' : Expr} (e : φ a = some (.list l)) (h0 : 0 ≤ i) (h1 : i < 2 ^ 63) (hv : l[i.toNat]? = some v) (q : Q v φ)
    (hs : ∀ t, subscripted e' false (.ref a) (.int i t) = operate [.ref a, .int i t] (getItem (.ref a) (.int i t)) := by intro _; with_unfolding_all rfl) : SubT C ρ x e' (.ref a) (.int i) φ Q :=
  subt_of (itm_list e h0 h1 hv q) (fun fz m ψ s H => by obtain ⟨vs, k, c1, c2, c3⟩ := list_of H e; exact ⟨_, c1, rfl⟩) slot_list_getitem.lookup (by rintro v ⟨t, rfl⟩; exact hs t)

/-- dicts -/
noncomputable def dget {K : Type} [DecidableEq K] (k : K) (l : List (K × AV)) : Option AV := (l.find? fun p => decide (p.1 = k)).map (·.2)
noncomputable def dset {K : Type} [DecidableEq K] (k : K) (v : AV) (l : List (K × AV)) : List (K × AV) :=
  if l.any (fun p => decide (p.1 = k)) then l.map (fun p => if p.1 = k then (p.1, v) else p) else l ++ [(k, v)]
noncomputable def ddel {K : Type} [DecidableEq K] (k : K) (l : List (K × AV)) : List (K × AV) := l.filter fun p => decide (p.1 ≠ k)
theorem AreP.at {K : Type} [DecidableEq K] {l : List (K × AV)} {kvs : List (K × Value)} (h : AreP l kvs) (k : K) : (dget k l = none ∧ valueAt kvs k = none) ∨ ∃ v u, dget k l = some v ∧ valueAt kvs k = some u ∧ v.is u := by
  induction h with
  | nil => exact .inl ⟨rfl, rfl⟩
  | @cons p q l kvs hr _ ih =>
    obtain ⟨h1, h2⟩ := hr
    unfold dget valueAt at ih ⊢
    rw [List.find?_cons, List.find?_cons, ← h1]
    by_cases z : p.1 = k
    · rw [decide_eq_true z]; exact .inr ⟨_, _, rfl, rfl, h2⟩
    · rw [decide_eq_false z]; exact ih
theorem AreP.any {K : Type} [DecidableEq K] {l : List (K × AV)} {kvs : List (K × Value)} (h : AreP l kvs) (k : K) : (l.any fun p => decide (p.1 = k)) = kvs.any fun p => decide (p.1 = k) := by
  induction h with
  | nil => rfl
  | cons hr _ ih => rw [List.any_cons, List.any_cons, ih, hr.1]
theorem AreP.store {K : Type} [DecidableEq K] {l : List (K × AV)} {kvs : List (K × Value)} (h : AreP l kvs) (k : K) {v : AV} {u : Value} (hv : v.is u) : AreP (dset k v l) (stored kvs k u) := by
  unfold dset stored
  rw [h.any k]
  split
  · refine h.map (fun a b hab => ?_)
    obtain ⟨h1, h2⟩ := hab
    rw [h1]
    split
    · exact ⟨rfl, hv⟩
    · exact ⟨h1, h2⟩
  · exact h.snoc ⟨rfl, hv⟩
theorem AreP.del {K : Type} [DecidableEq K] {l : List (K × AV)} {kvs : List (K × Value)} (h : AreP l kvs) (k : K) : AreP (ddel k l) (without kvs k) := by
  unfold ddel without
  induction h with
  | nil => exact .nil
  | @cons p q l kvs hr _ ih =>
    rw [List.filter_cons, List.filter_cons, hr.1]
    split
    · exact .cons hr ih
    · exact ih
theorem idict_of {fz m ψ h} (H : StC C fz ρ φ m ψ h) {a : Addr} {l : List (Int × AV)} {ep : Nat} (e : φ a = some (.idict l ep)) : ∃ kvs, h.DictAt (intKind C.W.prog C.W.w) a kvs ep ∧ AreP l kvs ∧ kvs.length = l.length := by
  obtain ⟨kvs, c1, c2⟩ := H.ok.heap _ _ e
  exact ⟨kvs, c1, c2, c2.length.symm⟩
theorem sdict_of {fz m ψ h} (H : StC C fz ρ φ m ψ h) {a : Addr} {l : List (Str × AV)} (e : φ a = some (.sdict l)) : ∃ kvs, h.DictOf (strKind C.W.prog C.W.w) a kvs ∧ AreP l kvs ∧ kvs.length = l.length := by
  obtain ⟨kvs, c1, c2⟩ := H.ok.heap _ _ e
  exact ⟨kvs, c1, c2, c2.length.symm⟩
theorem itm_idict {a : Addr} {l : List (Int × AV)} {ep : Nat} {i : Int} {v : AV} (e : φ a = some (.idict l ep)) (hv : dget i l = some v) (q : Q v φ) : Itm C ρ (.ref a) (.int i) φ Q := by
  rintro _ _ rfl ⟨t, rfl⟩
  refine WPx.of fun fz s m ψ H g o => ?_
  obtain ⟨kvs, c1, c2, c3⟩ := idict_of H e
  rcases c2.at i with ⟨h1, _⟩ | ⟨v', u, h1, h2, h3⟩
  · rw [hv] at h1; cases h1
  · rw [hv] at h1; cases h1
    exact wpAny_getItem_of (intKind_is _ _ _ _) c1.dictOf.mapOf h2 ⟨v, φ, h3, St.mk' H g o, q⟩
theorem itm_sdict {a : Addr} {l : List (Str × AV)} {i : Str} {v : AV} (e : φ a = some (.sdict l)) (hv : dget i l = some v) (q : Q v φ) : Itm C ρ (.ref a) (.str i) φ Q := by
  rintro _ _ rfl ⟨t, rfl⟩
  refine WPx.of fun fz s m ψ H g o => ?_
  obtain ⟨kvs, c1, c2, c3⟩ := sdict_of H e
  rcases c2.at i with ⟨h1, _⟩ | ⟨v', u, h1, h2, h3⟩
  · rw [hv] at h1; cases h1
  · rw [hv] at h1; cases h1
    exact wpAny_getItem_of (strKind_is _ _ _ _) c1.mapOf h2 ⟨v, φ, h3, St.mk' H g o, q⟩
theorem subt_idict {a : Addr} {l : List (Int × AV)} {ep : Nat} {i : Int} {v : AV} {x e' : Expr} (e : φ a = some (.idict l ep)) (hv : dget i l = some v) (q : Q v φ)
    (hs : ∀ t, subscripted e' false (.ref a) (.int i t) = operate [.ref a, .int i t] (getItem (.ref a) (.int i t)) := by intro _; with_unfolding_all rfl) : SubT C ρ x e' (.ref a) (.int i) φ Q :=
  subt_of (itm_idict e hv q) (fun fz m ψ s H => by obtain ⟨kvs, c1, c2, c3⟩ := idict_of H e; exact c1.dictOf.typeIs) slot_dict_getitem.lookup (by rintro v ⟨t, rfl⟩; exact hs t)
theorem subt_sdict {a : Addr} {l : List (Str × AV)} {i : Str} {v : AV} {x e' : Expr} (e : φ a = some (.sdict l)) (hv : dget i l = some v) (q : Q v φ)
    (hs : ∀ t, subscripted e' false (.ref a) (.str i t) = operate [.ref a, .str i t] (getItem (.ref a) (.str i t)) := by intro _; with_unfolding_all rfl) : SubT C ρ x e' (.ref a) (.str i) φ Q :=
  subt_of (itm_sdict e hv q) (fun fz m ψ s H => by obtain ⟨kvs, c1, c2, c3⟩ := sdict_of H e; exact c1.typeIs) slot_dict_getitem.lookup (by rintro v ⟨t, rfl⟩; exact hs t)
theorem cmp_in {a : Addr} {l : List (Int × AV)} {ep : Nat} {i : Int} (e : φ a = some (.idict l ep)) (q : Q (.bool (dget i l).isSome) φ) (G : Gd C n := by assumption) : Cmp C ρ .In (.int i) (.ref a) φ Q := by
  rintro _ _ ⟨t, rfl⟩ rfl
  refine WPx.of fun fz s m ψ H g o => ?_
  obtain ⟨kvs, c1, c2, c3⟩ := idict_of H e
  refine wpAny_in_of (intKind_is _ _ _ _) (H.lo G e) c1.dictOf.mapOf ⟨.bool _, φ, rfl, St.mk' H g o, ?_⟩
  rcases c2.at i with ⟨h1, h2⟩ | ⟨v', u, h1, h2, h3⟩
  · rw [h1] at q; rw [h2]; exact q
  · rw [h1] at q; rw [h2]; exact q
theorem cal_len_idict {a : Addr} {l : List (Int × AV)} {ep : Nat} (e : φ a = some (.idict l ep)) (q : Q (.int l.length) φ) (hz : l.length ≤ 1000000) (G : Gd C n := by assumption) : Cal C ρ (.raw (.builtin "len")) [.ref a] φ Q := by
  rintro _ _ rfl (_ | ⟨rfl, _ | _⟩)
  refine WPx.of fun fz s m ψ H g o => ?_
  obtain ⟨kvs, c1, c2, c3⟩ := idict_of H e
  exact call_len_dict (H.lo G e) c1.dictOf (by omega) ⟨.int l.length, φ, ⟨_, by rw [c3]⟩, St.mk' H g o, q⟩
theorem cal_get {a : Addr} {l : List (Int × AV)} {ep : Nat} {i : Int} (e : φ a = some (.idict l ep)) (q : Q ((dget i l).getD .none) φ) (G : Gd C n := by assumption) : Cal C ρ (.raw (.builtin "dict.get")) [.ref a, .int i] φ Q := by
  rintro _ _ rfl (_ | ⟨rfl, _ | ⟨⟨t, rfl⟩, _ | _⟩⟩)
  refine WPx.of fun fz s m ψ H g o => ?_
  obtain ⟨kvs, c1, c2, c3⟩ := idict_of H e
  refine call_meetsIn F.slot_dict_get c1.dictOf.typeIs F.entry_dict_get (F.args_dict_get_2 _ _) (meets_dict_get (intKind C.W.prog C.W.w) a (intKind_is _ _ i t) (H.lo G e)) ⟨_, c1.dictOf.mapOf, ?_⟩
  rcases c2.at i with ⟨h1, h2⟩ | ⟨v', u, h1, h2, h3⟩
  · rw [h1] at q; rw [h2]; exact ⟨.none, φ, rfl, St.mk' H g o, q⟩
  · rw [h1] at q; rw [h2]; exact ⟨v', φ, h3, St.mk' H g o, q⟩
theorem cal_dpop {a : Addr} {l : List (Int × AV)} {ep : Nat} {i : Int} {v : AV} (e : φ a = some (.idict l ep)) (hv : dget i l = some v) (q : ∀ ep', Q v (upd φ a (.idict (ddel i l) ep'))) (hz : l.length ≤ 1000000) (G : Gd C n := by assumption) : Cal C ρ (.raw (.builtin "dict.pop")) [.ref a, .int i] φ Q := by
  rintro _ _ rfl (_ | ⟨rfl, _ | ⟨⟨t, rfl⟩, _ | _⟩⟩)
  refine WPx.of fun fz s m ψ H g o => ?_
  obtain ⟨kvs, c1, c2, c3⟩ := idict_of H e
  rcases c2.at i with ⟨h1, _⟩ | ⟨v', u, h1, h2, h3⟩
  · rw [hv] at h1; cases h1
  · rw [hv] at h1; cases h1
    refine call_meetsIn F.slot_dict_pop c1.dictOf.typeIs F.entry_dict_pop (F.args_dict_pop_2 _ _) (meets_dict_pop_there (intKind C.W.prog C.W.w) a (intKind_is _ _ i t) [] (.inl rfl) (by rfl)) ⟨kvs, u, c1.dictOf, sizeLine_ok (by omega), h2, fun h' hm hs => ?_⟩
    obtain ⟨ep', hm'⟩ := hm.dictAt
    exact ⟨v, _, h3, St.put (o' := .idict (ddel i l) ep') H g o e trivial trivial hs ⟨_, hm', c2.del i⟩, q ep'⟩

def SetI (C : FC) (ρ : Loc) (a i v : AV) (φ : AH) (P : AH → Prop) : Prop := ∀ u w x, a.is u → i.is w → v.is x → EU C (setItem u w x) ρ φ P
theorem setItem_listX {prog : Program} {w : World} {A : Around} {E : Value → Shared → Prop} {s : Shared} {l : Addr} {items : Array Value} {ne : Nat} {k : Int} {t : Tok} {v : Value} {Q : Unit → Shared → Prop} (hl : IsL s.heap l items ne)
    (h0 : 0 ≤ k) (hfit : k < 2 ^ 63) (hn : k < items.size) (hQ : Q () { s with heap := s.heap.update l (Obj.mapSeq (·.setIfInBounds k.toNat v)) }) :
    wpAny (model prog w) A (setItem (.ref l) (.int k t) v) Q E s := by
  have hT : s.TypeIs (.ref l) "list" := ⟨_, hl, rfl⟩
  unfold setItem
  try with_reducible refine wpAny_holding ?_
  first | refine wpAny_bind (wpAny_pure ?_) | skip
  refine wpAny_bind (wpAny_sequenceKey hT (by decide) ?_)
  refine wpAny_bind (wpAny_callSpecial?_slot (name := Str.ofString "__setitem__") hT slot_list_setitem
    (wpAny_call_entry slot_list_setitem hT entry_list_setitem ?_ (args_list_setitem _ _ _)))
  show wpAny _ _ (Builtin.List.listSubscript? (.int k t) >>= _) _ _ s
  refine wpAny_bind (wpAny_listSubscript_int (fitsIndex_of h0 hfit) ?_)
  clear hfit
  obtain ⟨j, rfl⟩ := Int.eq_ofNat_of_zero_le h0
  have hj : j < items.size := by omega
  have hx' : items[j]? = some items[j] := Array.getElem?_eq_getElem hj
  show wpAny _ _ ((seqItemAt l j >>= fun r => pure (r.map (j, ·))) >>= _) _ _ s
  refine wpAny_bind (wpAny_bind (wpAny_seqItemAt hl rfl (wpAny_pure ?_)))
  rw [hx']
  show wpAny _ _ (setSeqItemAt l j v >>= _) _ _ s
  refine wpAny_bind (wpAny_setSeqItemAt hl rfl ?_)
  first
    | exact wpAny_bind (wpAny_pure (wpAny_pure ⟨.none, rfl, wpAny_pure hQ⟩))
    | exact wpAny_pure ⟨.none, rfl, wpAny_pure hQ⟩
theorem seti_list {a : Addr} {l : List AV} {i : Int} {v : AV} (e : φ a = some (.list l)) (h0 : 0 ≤ i) (h1 : i < l.length) (q : P (upd φ a (.list (l.set i.toNat v)))) (hz : l.length ≤ 1000000) : SetI C ρ (.ref a) (.int i) v φ P := by
  rintro _ _ x rfl ⟨t, rfl⟩ hx
  refine WPx.of fun fz s m ψ H g o => ?_
  obtain ⟨vs, k, c1, c2, c3⟩ := list_of H e
  refine setItem_listX c1 h0 (by omega) (by omega) ⟨(), _, trivial, St.put (o' := .list (l.set i.toNat v)) H g o e trivial trivial (Heap.SameBut.update ..) ⟨vs.setIfInBounds i.toNat x, _, c1.update _, ?_⟩, q⟩
  rw [Array.toList_setIfInBounds]
  exact c2.set hx _
theorem setItem_there {prog : Program} {w : World} {A : Around} {E : Value → Shared → Prop} {s : Shared} {K : Type} [DecidableEq K] {knd : KeyKind prog w K} {d : Addr} {k : K} {key v : Value} {kvs : List (K × Value)} {ep : Nat} {Q : Unit → Shared → Prop}
    (hkey : knd.is k key = true) (hm : s.heap.DictAt knd d kvs ep) (hin : (kvs.any fun p => decide (p.1 = k)) = true)
    (hQ : ∀ h', h'.DictAt knd d (stored kvs k v) ep → Heap.SameBut d s.heap h' → Q () { s with heap := h', toks := s.toks + 1 }) (hsz : kvs.length ≤ sizeLine) :
    wpAny (model prog w) A (setItem (.ref d) key v) Q E s := by
  have hT := hm.dictOf.typeIs
  unfold setItem
  try with_reducible refine wpAny_holding ?_
  refine wpAny_bind (wpAny_sequenceKey hT (by decide) ?_)
  refine wpAny_bind (wpAny_callSpecial?_slot (name := Str.ofString "__setitem__") hT slot_dict_setitem
    (wpAny_call_entry slot_dict_setitem hT entry_dict_setitem ?_ (args_dict_setitem _ _ _)))
  show wpAny _ _ (Builtin.Dict.notOrdered "__setitem__" ⟨[.ref d, key, v], []⟩ >>= _) _ _ s
  refine wpAny_bind (wpAny_notOrdered_dict hT ?_)
  show wpAny _ _ (dictSet d key v >>= _) _ _ s
  obtain ⟨o, es, ho, hc, hd, hk, hp, hn⟩ := hm
  refine wpAny_bind ?_
  unfold dictSet
  try with_reducible refine wpAny_holding ?_
  refine wpAny_bind (knd.pyHash hkey ?_)
  unfold dictSetHashed
  try with_reducible refine wpAny_holding ?_
  refine wpAny_bind (wpAny_dictFind_of (s := { s with toks := s.toks + 1 }) hkey ho hd hk ?_)
  have hidx : (es.findIdx? fun e => knd.is k e.key) = kvs.findIdx? fun kv => decide (kv.1 = k) := by
    rw [← hp.findIdx k]; obtain ⟨l⟩ := es; simp
  cases hi : es.findIdx? fun e => knd.is k e.key with
  | some i =>
    refine wpAny_bind (wpAny_rule (wpAny_bind (wpAny_updateDict (s := { s with toks := s.toks + 1 }) ho hd (wpAny_point ?_))))
    refine wpAny_pure ⟨.none, rfl, wpAny_pure (hQ _ ⟨_, _, Heap.get?_update_self _ ho (Obj.isFreed_of_dict (Obj.data_mapDict hd _)), hc.mapDict _, Obj.data_mapDict hd _, hk.modify _ _, ?_, ?_⟩ (Heap.SameBut.update ..))⟩
    · rw [stored, if_pos hin]
      have hl : (es.toList.findIdx? fun e => knd.is k e.key) = some i := by rw [← hi]; obtain ⟨l⟩ := es; simp
      have := hp.modify hn hl v
      obtain ⟨l⟩ := es
      simpa using this
    · rw [stored, if_pos hin, keys_map_store]; exact hn
  | none =>
    exfalso
    rw [hi] at hidx
    obtain ⟨p, hp1, hp2⟩ := List.any_eq_true.mp hin
    have := List.findIdx?_eq_none_iff.mp hidx.symm p hp1
    rw [hp2] at this; cases this
theorem seti_there {a : Addr} {l : List (Int × AV)} {ep : Nat} {i : Int} {v : AV} (e : φ a = some (.idict l ep)) (hin : (l.any fun p => decide (p.1 = i)) = true) (q : P (upd φ a (.idict (dset i v l) ep))) (hz : l.length ≤ 1000000) : SetI C ρ (.ref a) (.int i) v φ P := by
  rintro _ _ x rfl ⟨t, rfl⟩ hx
  refine WPx.of fun fz s m ψ H g o => ?_
  obtain ⟨kvs, c1, c2, c3⟩ := idict_of H e
  refine setItem_there (intKind_is _ _ _ _) c1 (by rw [← c2.any i]; exact hin) (fun h' hm hs => ?_) (sizeLine_ok (by omega))
  exact ⟨(), _, trivial, St.put (o' := .idict (dset i v l) ep) H g o e trivial trivial hs ⟨_, hm, c2.store i hx⟩, q⟩
theorem seti_idict {a : Addr} {l : List (Int × AV)} {ep : Nat} {i : Int} {v : AV} (e : φ a = some (.idict l ep)) (q : ∀ ep', P (upd φ a (.idict (dset i v l) ep'))) (hz : l.length ≤ 1000000) : SetI C ρ (.ref a) (.int i) v φ P := by
  rintro _ _ x rfl ⟨t, rfl⟩ hx
  refine WPx.of fun fz s m ψ H g o => ?_
  obtain ⟨kvs, c1, c2, c3⟩ := idict_of H e
  refine wpAny_setItem_pairs (hsz := sizeLine_ok (by omega)) (intKind_is _ _ _ _) c1.dictOf fun h' hm hs => ?_
  obtain ⟨ep', hm'⟩ := hm.dictAt
  exact ⟨(), _, trivial, St.put (o' := .idict (dset i v l) ep') H g o e trivial trivial hs ⟨_, hm', c2.store i hx⟩, q ep'⟩
theorem seti_sdict {a : Addr} {l : List (Str × AV)} {i : Str} {v : AV} (e : φ a = some (.sdict l)) (q : P (upd φ a (.sdict (dset i v l)))) (hz : l.length ≤ 1000000) : SetI C ρ (.ref a) (.str i) v φ P := by
  rintro _ _ x rfl ⟨t, rfl⟩ hx
  refine WPx.of fun fz s m ψ H g o => ?_
  obtain ⟨kvs, c1, c2, c3⟩ := sdict_of H e
  refine wpAny_setItem_pairs (hsz := sizeLine_ok (by omega)) (strKind_is _ _ _ _) c1 fun h' hm hs => ?_
  exact ⟨(), _, trivial, St.put (o' := .sdict (dset i v l)) H g o e trivial trivial hs ⟨_, hm, c2.store i hx⟩, q⟩
end
end Mine

open PySem PySem.W PyProof.Rows PySem.Calls PySem.MeetsSeq PySem.MeetsSeq2 PySem.MeetsSeq3
set_option Elab.async false
set_option maxRecDepth 100000
set_option linter.unusedVariables false
namespace Mine

section
variable {C : FC} {ρ : Loc} {φ : AH} {n : Nat} {R : AF → Loc → AH → Prop} {P : Loc → AH → Prop}

/-- stores to names -/
theorem xu_local {x : Str} {v : Value} {a : AV} (hv : a.is v) (q : P ((x, a) :: ρ) φ) (G : Gd C n := by assumption) (hx : C.env.kindOf x = some .local := by with_unfolding_all rfl) (hc : C.cl.lookup x = none := by with_unfolding_all rfl) : XU C (storeName C.env x v) ρ φ P := by
  rintro fz s ⟨⟨m, ψ, H⟩, g, o⟩
  refine wpAny_storeName_local hx H.fr.ns (fun h' hn hs => ?_) (by rw [show C.env.scope.kind = .function from G.fn]; rfl)
  have hL := H.apart C.L (.inl rfl)
  have K : HOk C.W fz φ ψ h' := H.ok.agree (fun b c => hs.2 b fun z => hL.1 ((show b = C.L from z) ▸ c)) (H.fr.set hn hs).keep fun b ob e => ⟨(hs.2 b fun z => by rw [show b = C.L from z, hL.2] at e; cases e).trans (H.ok.frz b ob e).1, (H.ok.frz b ob e).2⟩
  have cell : ∀ y c ov, C.cl.lookup y = some c → s.heap.IsCell c ov → h'.IsCell c ov := fun y c ov hy hcell => hcell.sameBut hs (G.clL y c hy).1
  refine ⟨_, φ, ⟨⟨_, ψ, H.fr.set hn hs, K, H.apart, ?_, ?_, ?_⟩, g, o⟩, q⟩
  · intro y w e hy
    rw [List.lookup_cons] at e
    by_cases z : (y == x) = true
    · rw [z] at e; cases e
      exact ⟨v, if_pos (beq_iff_eq.mp z), hv⟩
    · rw [Bool.eq_false_iff.mpr z] at e
      obtain ⟨u, hu, hi⟩ := H.loc y w e hy
      exact ⟨u, by rw [if_neg fun q => z (by rw [q]; exact beq_self_eq_true x)]; exact hu, hi⟩
  · intro y w c e hy
    rw [List.lookup_cons] at e
    by_cases z : (y == x) = true
    · rw [beq_iff_eq.mp z, hc] at hy; cases hy
    · rw [Bool.eq_false_iff.mpr z] at e
      obtain ⟨u, hu, hi⟩ := H.cel y w c e hy
      exact ⟨u, cell y c _ hy hu, hi⟩
  · intro y c hy
    obtain ⟨ov, hu⟩ := H.there y c hy
    exact ⟨ov, cell y c _ hy hu⟩
theorem xu_cell {x : Str} {v : Value} {a : AV} {c : Addr} (hv : a.is v) (hc : C.cl.lookup x = some c) (q : P ((x, a) :: ρ) φ) (G : Gd C n := by assumption) (hx : C.env.kindOf x = some .cell := by with_unfolding_all rfl) : XU C (storeName C.env x v) ρ φ P := by
  rintro fz s ⟨⟨m, ψ, H⟩, g, o⟩
  obtain ⟨ov, hu⟩ := H.there x c hc
  refine wpAny_storeName_cell G.fn hx hc hu fun h' hn hs => ?_
  have hL := H.apart c (.inr ⟨x, hc⟩)
  have hlow := G.clL x c hc
  have keep : ∀ b ob, C.W.g.get? b = some ob → h'.get? b = some ob := fun b ob e => (hs.2 b fun z => absurd (Heap.lt_size e) (by rw [z]; exact Nat.not_lt.mpr hlow.2)).trans (H.fr.keep b ob e)
  have K : HOk C.W fz φ ψ h' := H.ok.agree (fun b d => hs.2 b fun z => hL.1 (z ▸ d)) keep fun b ob e => ⟨(hs.2 b fun z => by rw [z, hL.2] at e; cases e).trans (H.ok.frz b ob e).1, (H.ok.frz b ob e).2⟩
  have cell : ∀ y d w, y ≠ x → C.cl.lookup y = some d → s.heap.IsCell d w → h'.IsCell d w := fun y d w hne hy hcell => hcell.sameBut hs fun z => hne (G.cl1 y x d hy (z ▸ hc))
  refine ⟨_, φ, ⟨⟨m, ψ, ⟨H.fr.ns.sameBut hs (Ne.symm hlow.1), keep, H.fr.above⟩, K, H.apart, ?_, ?_, ?_⟩, g, o⟩, q⟩
  · intro y w e hy
    rw [List.lookup_cons] at e
    by_cases z : (y == x) = true
    · rw [beq_iff_eq.mp z, hc] at hy; cases hy
    · rw [Bool.eq_false_iff.mpr z] at e
      exact H.loc y w e hy
  · intro y w d e hy
    rw [List.lookup_cons] at e
    by_cases z : (y == x) = true
    · rw [z] at e; cases e
      rw [beq_iff_eq.mp z, hc] at hy; cases hy
      exact ⟨v, hn, hv⟩
    · rw [Bool.eq_false_iff.mpr z] at e
      obtain ⟨u, hu, hi⟩ := H.cel y w d e hy
      exact ⟨u, cell y d _ (fun q => z (by rw [q]; exact beq_self_eq_true x)) hy hu, hi⟩
  · intro y d hy
    by_cases z : y = x
    · subst z; rw [hc] at hy; cases hy; exact ⟨_, hn⟩
    · obtain ⟨ov, hu⟩ := H.there y d hy
      exact ⟨ov, cell y d _ z hy hu⟩

def Asn (C : FC) (t : Expr) (a : AV) (ρ : Loc) (φ : AH) (P : Loc → AH → Prop) : Prop := ∀ v, a.is v → XU C (assign t C.env v) ρ φ P
theorem XU.mono {t : Sem Unit} {P P' : Loc → AH → Prop} (h : XU C t ρ φ P) (k : ∀ ρ' φ', P ρ' φ' → P' ρ' φ') : XU C t ρ φ P' := by
  intro fz s S
  refine wpAny_mono (h fz s S) (fun v s' => ?_) fun _ _ x => x
  rintro ⟨ρ', φ', S', q⟩
  exact ⟨ρ', φ', S', k _ _ q⟩
theorem asn_name {x : Str} {pos : Pos} {a : AV} (q : P ((x, a) :: ρ) φ) (G : Gd C n := by assumption) (hx : C.env.kindOf x = some .local := by with_unfolding_all rfl) (hc : C.cl.lookup x = none := by with_unfolding_all rfl) : Asn C (.Name x pos) a ρ φ P :=
  fun v hv fz s S => PyProof.Rows.assign_Name (xu_local hv q G hx hc fz s S)
theorem asn_cell {x : Str} {pos : Pos} {a : AV} {c : Addr} (hc : C.cl.lookup x = some c) (q : P ((x, a) :: ρ) φ) (G : Gd C n := by assumption) (hx : C.env.kindOf x = some .cell := by with_unfolding_all rfl) : Asn C (.Name x pos) a ρ φ P :=
  fun v hv fz s S => PyProof.Rows.assign_Name (xu_cell hv hc q G hx fz s S)
/-- several targets, one after the other -/
def AsnAll (C : FC) : List Expr → List AV → Loc → AH → (Loc → AH → Prop) → Prop
  | [], [], ρ, φ, P => P ρ φ
  | t :: ts, a :: as, ρ, φ, P => Asn C t a ρ φ (fun ρ' φ' => AsnAll C ts as ρ' φ' P)
  | _, _, _, _, _ => False
theorem asn_tuple {elts : List Expr} {k : Nat} {pos : Pos} {t : Addr} {l : List AV} (e : φ t = some (.tup l)) (h : AsnAll C elts l ρ φ P) (hn : elts.length = l.length) (G : Gd C n := by assumption)
    (hA : assignEach elts C.env = elts.map (fun x => (false, fun v => assign x C.env v)) := by with_unfolding_all rfl) : Asn C (.Tuple elts k pos) (.ref t) ρ φ P := by
  rintro _ rfl fz s ⟨⟨m, ψ, H⟩, g, o⟩
  obtain ⟨vs, j, c1, c2⟩ := H.ok.heap _ _ e
  refine assign_Tuple_tuple G.room.h ⟨_, c1, rfl, j, rfl⟩ (by rw [hA, List.length_map, hn, c2.length]; simp) ?_ fun h' he => ?_
  · rw [hA, List.findIdx?_map]
    exact List.findIdx?_eq_none_iff.mpr fun x _ => rfl
  · have hk : ∀ b ob, s.heap.get? b = some ob → h'.get? b = some ob := fun b ob e => he b ob (Nat.ne_of_lt (Heap.lt_size e)) e
    rw [hA, List.map_map]
    have S : St C fz ρ φ { s with heap := h' } := St.grow H g o hk
    clear hA e c1 H hn
    revert S
    generalize ({ s with heap := h' } : Shared) = s'
    clear he hk
    intro S
    generalize vs.toList = us at c2
    induction c2 generalizing elts ρ φ s' with
    | nil =>
      cases elts with
      | nil => exact assignInOrder_nil ⟨_, _, S, h⟩
      | cons _ _ => exact h.elim
    | cons hr _ ih =>
      cases elts with
      | nil => exact h.elim
      | cons x xs =>
        refine assignInOrder_cons (wpAny_mono (h _ hr fz s' S) (fun _ s'' => ?_) fun _ _ x => x)
        rintro ⟨ρ', φ', S', q⟩
        exact ih q s'' S'

/-- what stands behind, by a name -/
def Imp (K R : AF → Loc → AH → Prop) : Prop := ∀ fl ρ φ, K fl ρ φ → R fl ρ φ
theorem Imp.go {K R : AF → Loc → AH → Prop} {fl : AF} {ρ : Loc} {φ : AH} (h : Imp K R) (k : K fl ρ φ) : R fl ρ φ := h fl ρ φ k
theorem Imp.refl (K : AF → Loc → AH → Prop) : Imp K K := fun _ _ _ h => h
/-- a block -/
def Then (C : FC) (rest : List Stmt) (R : AF → Loc → AH → Prop) : AF → Loc → AH → Prop
  | .next, ρ, φ => XS C (execs rest C.env) ρ φ R
  | f, ρ, φ => R f ρ φ
theorem xs_nil (q : R .next ρ φ) : XS C (execs [] C.env) ρ φ R := fun fz s S => wpAny_execs_nil ⟨.next, ρ, φ, rfl, S, q⟩
theorem xs_cons {st : Stmt} {rest : List Stmt} (h : XS C (exec st C.env) ρ φ (Then C rest R)) : XS C (execs (st :: rest) C.env) ρ φ R := by
  intro fz s S
  refine wpAny_execs_cons (wpAny_mono (h fz s S) (fun f s' => ?_) fun _ _ x => x)
  rintro ⟨b, ρ', φ', hb, S', q⟩
  cases b with
  | next => cases hb; exact q fz s' S'
  | brk => cases hb; exact ⟨.brk, ρ', φ', rfl, S', q⟩
  | cont => cases hb; exact ⟨.cont, ρ', φ', rfl, S', q⟩
  | ret v => obtain ⟨u, rfl, hu⟩ := hb; exact ⟨.ret v, ρ', φ', ⟨u, rfl, hu⟩, S', q⟩
theorem XS.mono {t : Sem Flow} {R R' : AF → Loc → AH → Prop} (h : XS C t ρ φ R) (k : ∀ f ρ' φ', R f ρ' φ' → R' f ρ' φ') : XS C t ρ φ R' := by
  intro fz s S
  refine wpAny_mono (h fz s S) (fun v s' => ?_) fun _ _ x => x
  rintro ⟨b, ρ', φ', hb, S', q⟩
  exact ⟨b, ρ', φ', hb, S', k _ _ _ q⟩
/-- names may be forgotten -/
theorem XS.sub {t : Sem Flow} {ρ' : Loc} (h : XS C t ρ' φ R) (k : Sub ρ' ρ) : XS C t ρ φ R := fun fz s S => h fz s (S.sub k)

theorem x_assign {x : Str} {pos' pos : Pos} {value : Expr} {rest : List Stmt} (h : EV C (eval value C.env) ρ φ fun a φ₁ => XS C (execs rest C.env) ((x, a) :: ρ) φ₁ R) (G : Gd C n := by assumption)
    (hs : swapsWith value (some (.Name x pos')) pos.line C.env = pure false := by with_unfolding_all rfl) (hx : C.env.kindOf x = some .local := by with_unfolding_all rfl) (hc : C.cl.lookup x = none := by with_unfolding_all rfl) : XS C (execs (.Assign [.Name x pos'] value pos :: rest) C.env) ρ φ R := by
  refine xs_cons fun fz s S => wpAny_Assign_Name (wpAny_mono (h fz s S) (fun v s' => ?_) fun _ _ x => x) hs
  rintro ⟨a, φ', hr, S', q⟩
  refine wpAny_mono (xu_local (P := fun ρ' φ'' => ρ' = (x, a) :: ρ ∧ φ'' = φ') hr ⟨rfl, rfl⟩ G hx hc fz s' S') (fun _ s'' => ?_) fun _ _ x => x
  rintro ⟨_, _, S'', rfl, rfl⟩
  exact ⟨.next, _, _, rfl, S'', q⟩
theorem x_assign_attr {o value : Expr} {x : Str} {pos' pos : Pos} {rest : List Stmt}
    (h : EV C (eval value C.env) ρ φ fun v φ₁ => EV C (eval o C.env) ρ φ₁ fun a φ₂ => SetA C ρ a x v φ₂ fun φ₃ => XS C (execs rest C.env) ρ φ₃ R)
    (hs : swapsWith value (some (.Attribute o x pos')) pos.line C.env = pure false := by with_unfolding_all rfl) : XS C (execs (.Assign [.Attribute o x pos'] value pos :: rest) C.env) ρ φ R := by
  refine xs_cons fun fz s S => plainObj_wpAny_Assign_Attribute (wpAny_mono (h fz s S) (fun v s' => ?_) fun _ _ x => x) hs
  rintro ⟨a, φ', hr, S', q⟩
  refine wpAny_mono (q fz s' S') (fun u s'' => ?_) fun _ _ x => x
  rintro ⟨b, φ'', hr', S'', q'⟩
  refine wpAny_mono (q' u v hr' hr fz s'' S'') (fun _ s₃ => ?_) fun _ _ x => x
  rintro ⟨_, φ₃, _, S₃, q₃⟩
  exact ⟨.next, ρ, φ₃, rfl, S₃, q₃⟩
theorem x_assign_sub {o i value : Expr} {pos' pos : Pos} {rest : List Stmt}
    (h : EV C (eval value C.env) ρ φ fun v φ₁ => EV C (eval o C.env) ρ φ₁ fun a φ₂ => EV C (eval i C.env) ρ φ₂ fun b φ₃ => SetI C ρ a b v φ₃ fun φ₄ => XS C (execs rest C.env) ρ φ₄ R)
    (hs : swapsWith value (some (.Subscript o i pos')) pos.line C.env = pure false := by with_unfolding_all rfl) : XS C (execs (.Assign [.Subscript o i pos'] value pos :: rest) C.env) ρ φ R := by
  refine xs_cons fun fz s S => wpAny_Assign_Subscript (wpAny_mono (h fz s S) (fun v s' => ?_) fun _ _ x => x) hs
  rintro ⟨a, φ', hr, S', q⟩
  refine wpAny_mono (q fz s' S') (fun u s'' => ?_) fun _ _ x => x
  rintro ⟨b, φ'', hr', S'', q'⟩
  refine wpAny_mono (q' fz s'' S'') (fun w s₃ => ?_) fun _ _ x => x
  rintro ⟨c, φ₃, hr₃, S₃, q₃⟩
  refine wpAny_mono (q₃ u w v hr' hr₃ hr fz s₃ S₃) (fun _ s₄ => ?_) fun _ _ x => x
  rintro ⟨_, φ₄, _, S₄, q₄⟩
  exact ⟨.next, ρ, φ₄, rfl, S₄, q₄⟩
theorem x_assign_tuple {elts : List Expr} {k : Nat} {tpos pos : Pos} {value : Expr} {rest : List Stmt}
    (h : EV C (eval value C.env) ρ φ fun a φ₁ => Asn C (.Tuple elts k tpos) a ρ φ₁ fun ρ' φ₂ => XS C (execs rest C.env) ρ' φ₂ R)
    (h1 : swapsWithSole [.Tuple elts k tpos] value pos.line C.env = pure false := by with_unfolding_all rfl) (h2 : swappedStores [.Tuple elts k tpos] value C.env = pure none := by with_unfolding_all rfl) : XS C (execs (.Assign [.Tuple elts k tpos] value pos :: rest) C.env) ρ φ R := by
  refine xs_cons fun fz s S => Assign_Tuple (wpAny_mono (h fz s S) (fun v s' => ?_) fun _ _ x => x) h1 h2
  rintro ⟨a, φ', hr, S', q⟩
  refine wpAny_mono (q v hr fz s' S') (fun _ s'' => ?_) fun _ _ x => x
  rintro ⟨ρ', φ'', S'', q'⟩
  exact ⟨.next, ρ', φ'', rfl, S'', q'⟩
theorem x_aug {x : Str} {pos' pos : Pos} {op : Operator} {value : Expr} {v : AV} {rest : List Stmt} (hv : ρ.lookup x = some v)
    (h : EV C (eval value C.env) ρ φ fun b φ₁ => Inp C ρ op v b φ₁ fun r φ₂ => XS C (execs rest C.env) ((x, r) :: ρ) φ₂ R) (G : Gd C n := by assumption)
    (hx : C.env.kindOf x = some .local := by with_unfolding_all rfl) (hc : C.cl.lookup x = none := by with_unfolding_all rfl) : XS C (execs (.AugAssign (.Name x pos') op value pos :: rest) C.env) ρ φ R := by
  refine xs_cons fun fz s S => wpAny_AugAssign_Name ?_
  obtain ⟨⟨m, ψ, H⟩, g, o⟩ := id S
  obtain ⟨u, hu, hi⟩ := H.loc x v hv hc
  refine wpAny_loadName_local G.fn hx H.fr.ns hu (wpAny_mono (h fz s S) (fun w s' => ?_) fun _ _ x => x)
  rintro ⟨b, φ', hr, S', q⟩
  refine wpAny_mono (q u w hi hr fz s' S') (fun y s'' => ?_) fun _ _ x => x
  rintro ⟨r, φ'', hr', S'', q'⟩
  refine wpAny_mono (xu_local (P := fun ρ' φ₃ => ρ' = (x, r) :: ρ ∧ φ₃ = φ'') hr' ⟨rfl, rfl⟩ G hx hc fz s'' S'') (fun _ s₃ => ?_) fun _ _ x => x
  rintro ⟨_, _, S₃, rfl, rfl⟩
  exact ⟨.next, _, _, rfl, S₃, q'⟩
theorem x_aug_attr {o value : Expr} {x : Str} {tpos pos : Pos} {op : Operator} {rest : List Stmt}
    (h : EV C (eval o C.env) ρ φ fun a φ₁ => Att C ρ a x φ₁ fun v φ₂ => EV C (eval value C.env) ρ φ₂ fun b φ₃ => Inp C ρ op v b φ₃ fun r φ₄ => SetA C ρ a x r φ₄ fun φ₅ => XS C (execs rest C.env) ρ φ₅ R) :
    XS C (execs (.AugAssign (.Attribute o x tpos) op value pos :: rest) C.env) ρ φ R := by
  refine xs_cons fun fz s S => wpAny_AugAssign_AttributeAny (wpAny_mono (h fz s S) (fun u s' => ?_) fun _ _ x => x)
  rintro ⟨a, φ', hr, S', q⟩
  refine wpAny_mono (q u hr fz s' S') (fun w s'' => ?_) fun _ _ x => x
  rintro ⟨v, φ'', hr', S'', q'⟩
  refine wpAny_mono (q' fz s'' S'') (fun y s₃ => ?_) fun _ _ x => x
  rintro ⟨b, φ₃, hr₃, S₃, q₃⟩
  refine wpAny_mono (q₃ w y hr' hr₃ fz s₃ S₃) (fun z s₄ => ?_) fun _ _ x => x
  rintro ⟨r, φ₄, hr₄, S₄, q₄⟩
  refine wpAny_mono (q₄ u z hr hr₄ fz s₄ S₄) (fun _ s₅ => ?_) fun _ _ x => x
  rintro ⟨_, φ₅, _, S₅, q₅⟩
  exact ⟨.next, ρ, φ₅, rfl, S₅, q₅⟩
theorem x_aug_sub {o i value : Expr} {pos' pos : Pos} {op : Operator} {rest : List Stmt}
    (h : EV C (eval o C.env) ρ φ fun a φ₁ => EV C (eval i C.env) ρ φ₁ fun c φ₂ => Itm C ρ a c φ₂ fun v φ₃ => EV C (eval value C.env) ρ φ₃ fun b φ₄ => Inp C ρ op v b φ₄ fun r φ₅ => SetI C ρ a c r φ₅ fun φ₆ => XS C (execs rest C.env) ρ φ₆ R)
    (hs : ∀ ov iv new, augStore i ov iv new = (do
            holding [new, ov, iv] (setItem ov iv new)
            release [new, ov, iv] []
            pure Flow.next) := by intros; with_unfolding_all rfl) :
    XS C (execs (.AugAssign (.Subscript o i pos') op value pos :: rest) C.env) ρ φ R := by
  refine xs_cons fun fz s S => wpAny_AugAssign_Subscript_any (wpAny_mono (h fz s S) (fun u s' => ?_) fun _ _ x => x) hs
  rintro ⟨a, φ', hr, S', q⟩
  refine wpAny_mono (q fz s' S') (fun w s'' => ?_) fun _ _ x => x
  rintro ⟨c, φ'', hr', S'', q'⟩
  refine wpAny_mono (q' u w hr hr' fz s'' S'') (fun y s₃ => ?_) fun _ _ x => x
  rintro ⟨v, φ₃, hr₃, S₃, q₃⟩
  refine wpAny_mono (q₃ fz s₃ S₃) (fun z s₄ => ?_) fun _ _ x => x
  rintro ⟨b, φ₄, hr₄, S₄, q₄⟩
  refine wpAny_mono (q₄ y z hr₃ hr₄ fz s₄ S₄) (fun t s₅ => ?_) fun _ _ x => x
  rintro ⟨r, φ₅, hr₅, S₅, q₅⟩
  refine wpAny_mono (q₅ u w t hr hr' hr₅ fz s₅ S₅) (fun _ s₆ => ?_) fun _ _ x => x
  rintro ⟨_, φ₆, _, S₆, q₆⟩
  exact ⟨.next, ρ, φ₆, rfl, S₆, q₆⟩
theorem x_if {test : Expr} {body orelse rest : List Stmt} {pos : Pos}
    (h : EB C (PySem.isTrue test C.env (eval test C.env)) ρ φ fun b φ₁ => (b = true → XS C (execs body C.env) ρ φ₁ (Then C rest R)) ∧ (b = false → XS C (execs orelse C.env) ρ φ₁ (Then C rest R))) : XS C (execs (.If test body orelse pos :: rest) C.env) ρ φ R := by
  refine xs_cons fun fz s S => wpAny_If (wpAny_mono (h fz s S) (fun v s' => ?_) fun _ _ x => x)
  rintro ⟨b, φ', rfl, S', q⟩
  cases b with
  | true => rw [if_pos rfl]; exact q.1 rfl fz s' S'
  | false => rw [if_neg (by simp)]; exact q.2 rfl fz s' S'
theorem x_expr {e : Expr} {pos : Pos} {rest : List Stmt} (h : EV C (eval e C.env) ρ φ fun _ φ₁ => XS C (execs rest C.env) ρ φ₁ R) (hi : interactive C.env = false := by with_unfolding_all rfl) (hs : swapsWith e none pos.line C.env = pure false := by with_unfolding_all rfl) :
    XS C (execs (.Expr e pos :: rest) C.env) ρ φ R := by
  refine xs_cons fun fz s S => wpAny_Expr_any (wpAny_mono (h fz s S) (fun v s' => ?_) fun _ _ x => x) hi hs
  rintro ⟨b, φ', hr, S', q⟩
  exact ⟨.next, ρ, φ', rfl, S', q⟩
theorem x_return {e : Expr} {pos : Pos} {rest : List Stmt} (h : EV C (eval e C.env) ρ φ fun a φ₁ => R (.ret a) ρ φ₁) : XS C (execs (.Return (some e) pos :: rest) C.env) ρ φ R := by
  refine xs_cons fun fz s S => wpAny_Return_some (wpAny_mono (h fz s S) (fun v s' => ?_) fun _ _ x => x)
  rintro ⟨b, φ', hr, S', q⟩
  exact ⟨.ret b, ρ, φ', ⟨v, rfl, hr⟩, S', q⟩
theorem x_break {pos : Pos} {rest : List Stmt} (q : R .brk ρ φ) : XS C (execs (.Break pos :: rest) C.env) ρ φ R :=
  xs_cons fun fz s S => wpAny_Break ⟨.brk, ρ, φ, rfl, S, q⟩
end
end Mine

open PySem PySem.W PyProof.Rows PySem.Calls PySem.MeetsSeq PySem.MeetsSeq2 PySem.MeetsSeq3
set_option Elab.async false
set_option maxRecDepth 100000
set_option linter.unusedVariables false
namespace Mine

/-- a state without a frame -/
def GSt (W : Wd) (fz : Addr → Option Obj) (φ : AH) (s : Shared) : Prop := (∃ ψ, HOk W fz φ ψ s.heap) ∧ W.g.objs.size ≤ s.heap.objs.size ∧ s.gens = W.gens ∧ s.os = W.os
/-- what a call of the text's own does -/
def Spec (W : Wd) (lvl : Nat) (f : Addr) (as : List AV) (φ : AH) (Q : AV → AH → Prop) : Prop :=
  ∀ A, Room A lvl → ∀ vs, AreV as vs → ∀ fz s, GSt W fz φ s → codeAny (model W.prog W.w) A (.call (.ref f) ⟨vs, []⟩)
    (fun r s' => match r with | .ok (.ret v) => ∃ b φ', AV.is b v ∧ GSt W fz φ' s' ∧ Q b φ' | _ => False) s
theorem Spec.mono {W : Wd} {lvl : Nat} {f : Addr} {as : List AV} {φ : AH} {Q Q' : AV → AH → Prop} (h : Spec W lvl f as φ Q) (k : ∀ a φ', Q a φ' → Q' a φ') : Spec W lvl f as φ Q' := by
  intro A r vs hv fz s S
  refine codeAny_mono (h A r vs hv fz s S) fun r s' z => ?_
  split at z
  · obtain ⟨b, φ', h1, h2, h3⟩ := z; exact ⟨b, φ', h1, h2, k _ _ h3⟩
  · exact z.elim

section
variable {C : FC} {ρ : Loc} {φ : AH} {n : Nat} {Q : AV → AH → Prop}
open Classical in
noncomputable def FC.hold (C : FC) (fz : Addr → Option Obj) (h : Heap) : Addr → Option Obj := fun b => if C.mine b then h.get? b else fz b
theorem StC.toG {fz : Addr → Option Obj} {m ψ h} (H : StC C fz ρ φ m ψ h) : HOk C.W (C.hold fz h) φ ψ h := by
  refine H.ok.agree (fun b _ => rfl) H.fr.keep fun b o e => ?_
  unfold FC.hold at e
  split at e
  · rename_i hb; exact ⟨e, (H.apart b hb).1⟩
  · exact H.ok.frz b o e
theorem StC.ofG {fz : Addr → Option Obj} {m ψ h φ' ψ' h'} (H : StC C fz ρ φ m ψ h) (K : HOk C.W (C.hold fz h) φ' ψ' h') : StC C fz ρ φ' m ψ' h' := by
  have key : ∀ b, C.mine b → h'.get? b = h.get? b ∧ ¬ cov φ' ψ' b := fun b hb => by
    obtain ⟨o, e⟩ := H.old hb
    have := K.frz b o (by unfold FC.hold; rw [if_pos hb]; exact e)
    exact ⟨this.1.trans e.symm, this.2⟩
  refine H.frame (K.agree (fun b _ => rfl) K.keep fun b o e => ?_) (fun b hb => (key b hb).1) fun b hb => (key b hb).2
  have hb : ¬ C.mine b := fun q => by rw [(H.apart b q).2] at e; cases e
  exact K.frz b o (by unfold FC.hold; rw [if_neg hb]; exact e)
theorem cal_spec {f : Addr} {as : List AV} {lvl : Nat} (h : Spec C.W lvl f as φ Q) (G : Gd C n := by assumption) (hl : lvl ≤ n := by decide) : Cal C ρ (.ref f) as φ Q := by
  rintro _ vs rfl hv fz s ⟨⟨m, ψ, H⟩, g, o⟩
  refine wpAny_call (codeAny_mono (h C.A (G.room.le hl) vs hv _ s ⟨⟨ψ, H.toG⟩, H.low, g, o⟩) fun r s' z => ?_)
  split at z
  · obtain ⟨b, φ', h1, ⟨⟨ψ', K⟩, _, g', o'⟩, h3⟩ := z
    exact ⟨b, φ', h1, ⟨⟨m, ψ', H.ofG K⟩, g', o'⟩, h3⟩
  · exact z.elim
end

/-- the function at f is the text's def st -/
def FnAt (K : Frag) (f : Addr) (qual : Str) (st : Stmt) : Prop :=
  ∃ oc od osl name doc pm an cdv ct, K.lookup f = some ⟨oc, od, .func (fnOf name qual (dArgs st) (dBody st) (dScope st) .none .none doc pm an cdv ct), osl⟩ ∧ codeIn K cdv qual = true

theorem Are.zip_rel {names : List Str} {as : List AV} {vs : List Value} (h : AreV as vs) : Are (fun p q => p.1 = q.1 ∧ AV.is p.2 q.2) (names.zip as) (names.zip vs) := by
  induction h generalizing names with
  | nil => simp; exact .nil
  | cons hr _ ih =>
    cases names with
    | nil => exact .nil
    | cons x xs => exact .cons ⟨rfl, hr⟩ ih
theorem Are.lookup_rel {l : Loc} {k : List (Str × Value)} (h : Are (fun p q => p.1 = q.1 ∧ AV.is p.2 q.2) l k) {x : Str} {v : AV} (e : l.lookup x = some v) : ∃ u, k.lookup x = some u ∧ v.is u := by
  induction h with
  | nil => cases e
  | @cons p q l k hr _ ih =>
    obtain ⟨y, a⟩ := p
    obtain ⟨z, b⟩ := q
    obtain ⟨h1, h2⟩ := hr
    dsimp only at h1 h2
    subst h1
    rw [List.lookup_cons] at e ⊢
    by_cases q : (x == y) = true
    · rw [q] at e ⊢; cases e; exact ⟨b, rfl, h2⟩
    · rw [Bool.eq_false_iff.mpr q] at e ⊢; exact ih e

theorem GSt.size {W : Wd} {fz φ s} (S : GSt W fz φ s) : W.g.objs.size ≤ s.heap.objs.size := S.2.1

abbrev Post (Q : AV → AH → Prop) : AF → Loc → AH → Prop := fun fl _ φ' => match fl with | .ret v => Q v φ' | .next => Q .none φ' | _ => False
theorem len1 {vs : List Value} (h : vs.length = 1) : ∃ a, vs = [a] := by
  cases vs with
  | nil => cases h
  | cons a l => cases l with
    | nil => exact ⟨a, rfl⟩
    | cons b l => cases h
theorem lenS {vs : List Value} {n : Nat} (h : vs.length = n + 1) : ∃ a l, vs = a :: l ∧ l.length = n := by
  cases vs with
  | nil => cases h
  | cons a l => exact ⟨a, l, rfl, Nat.succ.inj h⟩
/-- a def without cells: its body's walk is its spec -/
theorem spec_def {W : Wd} (ok : W.Ok) {lvl : Nat} {f : Addr} {qual : Str} {st : Stmt} {names : List Str} {as : List AV} {φ : AH} {Q : AV → AH → Prop} (hf : FnAt W.K f qual st)
    (hb : ∀ name doc pm an cdv ct (vs : List Value), vs.length = as.length → bindArgs (fnOf name qual (dArgs st) (dBody st) (dScope st) .none .none doc pm an cdv ct) ⟨vs, []⟩ = pure (names.zip vs))
    (hl : (names.all fun y => (dScope st).names.lookup y == some .local) = true)
    (h : ∀ A L cd, Gd ⟨W, A, envX qual (dScope st) L f cd []⟩ lvl → ∀ R, Imp (Post Q) R → XS ⟨W, A, envX qual (dScope st) L f cd []⟩ (execs (dBody st) (envX qual (dScope st) L f cd [])) (names.zip as).reverse φ R)
    (hk : (dScope st).kind = .function := by rfl) (hco : (dScope st).isCoroutine = false := by rfl) (hgen : (dScope st).isGenerator = false := by rfl) (hcell : ∀ x ∈ (dScope st).names, x.2 ≠ .cell := by decide) : Spec W (lvl + 1) f as φ Q := by
  intro A r vs hv fz s S
  obtain ⟨oc, od, osl, name, doc, pm, an, cdv, ct, ho, hcd⟩ := hf
  obtain ⟨⟨ψ, K⟩, hsz, g, o⟩ := id S
  have X : W.K.In s.heap := ok.X.keeps K.keep
  refine codeAny_call_def (fd := fnOf name qual (dArgs st) (dBody st) (dScope st) .none .none doc pm an cdv ct) (body := dBody st) (binds := names.zip vs) (by have := r.d; omega) (X _ _ ho) rfl (ok.T.nolimit.keeps K.keep) (codeRec_of X hcd) rfl
    (BindsTo.of_eq (hb name doc pm an cdv ct vs hv.length.symm)) hcell (fun x hx => ?_) (fun h₁ hns hk₁ => ?_) hco hgen hk
  · have := List.all_eq_true.mp hl x.1 (List.of_mem_zip hx).1
    exact beq_iff_eq.mp this
  · have G : Gd ⟨W, A.deeper (envX qual (dScope st) s.heap.objs.size f cdv []), envX qual (dScope st) s.heap.objs.size f cdv []⟩ lvl :=
      ⟨ok, r.deeper, hk, rfl, rfl, (fun x c e => by cases e), (fun x y c e => by cases e)⟩
    have K' := K.grow hk₁
    have hnone : s.heap.get? s.heap.objs.size = none := old_none (Nat.le_refl _)
    have SC : StC ⟨W, A.deeper (envX qual (dScope st) s.heap.objs.size f cdv []), envX qual (dScope st) s.heap.objs.size f cdv []⟩ fz (names.zip as).reverse φ (fun x => List.lookup x (names.zip vs).reverse) ψ h₁ := by
      refine ⟨⟨hns, K'.keep, hsz⟩, K', fun b hb => ?_, fun x v e _ => (hv.zip_rel (names := names)).reverse.lookup_rel e, (fun x v c e q => by cases q), (fun x c q => by cases q)⟩
      have hb' : b = s.heap.objs.size := by rcases hb with rfl | ⟨x, q⟩; rfl; cases q
      subst hb'
      exact ⟨(K.none_of hnone).2.2, (K.none_of hnone).2.1⟩
    refine wpAny_mono (h _ _ cdv G _ (Imp.refl _) fz ⟨h₁, s.gens, s.drawn, _, s.os⟩ ⟨⟨_, ψ, SC⟩, g, o⟩) (fun fl s' => ?_) fun _ _ x => x.elim
    rintro ⟨b, ρ', φ', hb, ⟨⟨m', ψ', H'⟩, g', o'⟩, q⟩
    cases b with
    | next => cases hb; exact ⟨.none, φ', rfl, ⟨⟨ψ', H'.ok⟩, H'.low, g', o'⟩, q⟩
    | brk => exact q.elim
    | cont => exact q.elim
    | ret v => obtain ⟨u, rfl, hu⟩ := hb; exact ⟨v, φ', hu, ⟨⟨ψ', H'.ok⟩, H'.low, g', o'⟩, q⟩

/-- an object of a class of the text's own -/
structure MkOk (K : Frag) (D fI : Addr) : Prop where
  mak : makesIn K D = true
  hi : findIn K (.ref D) "__init__" = some (some (.ref fI))
  hf : typeIn K (.ref fI) = some (.type "function")
theorem room_make {A : Around} {D : Addr} {vs : List Value} {n : Nat} (r : Room A (n + 1)) : ∃ A', A' = A.under (.builtin "type.__call__" ⟨.ref D :: vs, []⟩) ∧ A'.depth + 2 * n + 1 < recursionLimit ∧ A'.units + 8 * n + 200 < cLine ∧ A'.handled = none := by
  refine ⟨_, rfl, ?_, ?_, r.h⟩
  · rw [depth_under_make]; have := r.d; omega
  · have h1 : (A.under (.builtin "type.__call__" ⟨.ref D :: vs, []⟩)).units = A.units + Code.cUnits (.builtin "type.__call__" ⟨.ref D :: vs, []⟩) := rfl
    have h2 : Code.cUnits (.builtin "type.__call__" ⟨.ref D :: vs, []⟩) ≤ 8 := by
      first | decide | (simp [Code.cUnits, Code.frames, Code.isFrame])
    have := r.u; omega
section
variable {C : FC} {ρ : Loc} {φ : AH} {n : Nat} {Q : AV → AH → Prop}
theorem cal_cls {D fI : Addr} {as : List AV} {lvl : Nat} (M : MkOk C.W.K D fI)
    (h : ∀ x, φ x = none → Spec C.W lvl fI (.ref x :: as) (upd φ x (.inst D [])) (fun r φ' => r = .none ∧ Q (.ref x) φ')) (G : Gd C n := by assumption) (hl : lvl < n := by decide) : Cal C ρ (.ref D) as φ Q := by
  rintro _ vs rfl hv fz s ⟨⟨m, ψ, H⟩, g, o⟩
  obtain ⟨hh, gg, dd, tt, oo⟩ := s
  dsimp only at H g o
  have X : C.W.K.In hh := H.In G
  refine wpAny_call (make_core (makes_of X M.mak) (looks_findIn X M.hi) (fun self => bind_fn X self M.hf) (.inl rfl) ?_)
  have hk : ∀ b o, hh.get? b = some o → ((hh.push emptyDict).push (instObj D hh.objs.size)).get? b = some o := fun b o e => Heap.get?_push_of_some _ (Heap.get?_push_of_some _ e)
  have e1 : ((hh.push emptyDict).push (instObj D hh.objs.size)).get? (hh.objs.size + 1) = some (instObj D hh.objs.size) := by
    have := Heap.get?_push_size (hh.push emptyDict) (o := instObj D hh.objs.size) rfl
    rwa [Heap.size_push] at this
  have e2 : ((hh.push emptyDict).push (instObj D hh.objs.size)).get? hh.objs.size = some emptyDict := Heap.get?_push_of_some _ (Heap.get?_push_size _ rfl)
  obtain ⟨n1, H'⟩ := H.newInst (h' := (hh.push emptyDict).push (instObj D hh.objs.size)) (a := hh.objs.size + 1) (d := hh.objs.size) (D := D) (fs := []) (Nat.le_succ _) (Nat.le_refl _) (Nat.succ_ne_self _) hk ⟨by simp only [if_true]; exact e1, [], 0, by simp only [if_true]; exact e2, .nil⟩
  have hs := h _ n1 (C.A.under (.builtin "type.__call__" ⟨.ref D :: vs, []⟩)) ?_ (.ref (hh.objs.size + 1) :: vs) (.cons rfl hv) _ ⟨(hh.push emptyDict).push (instObj D hh.objs.size), gg, dd, tt, oo⟩ ⟨⟨_, H'.toG⟩, H'.low, g, o⟩
  · refine codeAny_mono hs fun r s' z => ?_
    split at z
    · obtain ⟨b, φ', h1, ⟨⟨ψ', K⟩, _, g', o'⟩, rfl, h3⟩ := z
      exact ⟨h1, .ref (hh.objs.size + 1), φ', rfl, ⟨⟨m, ψ', by
        have := H'.ofG K
        exact this⟩, g', o'⟩, h3⟩
    · exact z.elim
  · obtain ⟨A', rfl, h1, h2, h3⟩ := room_make (D := D) (vs := vs) (G.room.le (show lvl + 1 ≤ n from hl))
    exact ⟨by omega, h2, h3⟩
end
end Mine

open PySem PySem.W PyProof.Rows PySem.Calls PySem.MeetsSeq PySem.MeetsSeq2 PySem.MeetsSeq3
set_option Elab.async false
set_option maxRecDepth 100000
set_option linter.unusedVariables false
namespace Mine

noncomputable def frzAt (fz : Addr → Option Obj) (it : Addr) (o : Obj) : Addr → Option Obj := fun b => if b = it then some o else fz b
section
variable {C : FC} {fz : Addr → Option Obj} {ρ : Loc} {φ : AH} {m : Str → Option Value} {ψ : Addr → Addr} {h h' : Heap} {it : Addr} {o o' : Obj}
theorem StC.freeze (H : StC C fz ρ φ m ψ h) (e : h.get? it = some o) (nc : ¬ cov φ ψ it) (nm : ¬ C.mine it) : StC C (frzAt fz it o) ρ φ m ψ h := by
  refine ⟨H.fr, H.ok.agree (fun b _ => rfl) H.fr.keep fun b x q => ?_, fun b hb => ⟨(H.apart b hb).1, ?_⟩, H.loc, H.cel, H.there⟩
  · unfold frzAt at q
    split at q
    · rename_i z; cases q; rw [z]; exact ⟨e, nc⟩
    · exact H.ok.frz b x q
  · unfold frzAt; rw [if_neg fun (z : b = it) => nm (z ▸ hb)]; exact (H.apart b hb).2
theorem StC.frozen (H : StC C (frzAt fz it o) ρ φ m ψ h) : h.get? it = some o ∧ ¬ cov φ ψ it ∧ ¬ C.mine it := by
  have q : frzAt fz it o it = some o := by unfold frzAt; rw [if_pos rfl]
  refine ⟨(H.ok.frz it o q).1, (H.ok.frz it o q).2, fun hb => ?_⟩
  have := (H.apart it hb).2
  rw [q] at this; cases this
theorem StC.step (H : StC C (frzAt fz it o) ρ φ m ψ h) (low : C.W.g.objs.size ≤ it) (hs : Heap.SameBut it h h') (e : h'.get? it = some o') : StC C (frzAt fz it o') ρ φ m ψ h' := by
  obtain ⟨_, nc, nm⟩ := H.frozen
  have K : HOk C.W (frzAt fz it o') φ ψ h' := H.ok.agree (fun b c => hs.2 b fun z => nc (z ▸ c)) (fun b x q => (hs.2 b fun z => absurd (Heap.lt_size q) (by rw [z]; exact Nat.not_lt.mpr low)).trans (H.fr.keep b x q)) fun b x q => by
    unfold frzAt at q
    split at q
    · rename_i z; cases q; rw [z]; exact ⟨e, nc⟩
    · rename_i z
      have := H.ok.frz b x (by unfold frzAt; rw [if_neg z]; exact q)
      exact ⟨(hs.2 b z).trans this.1, this.2⟩
  have hm : ∀ b, C.mine b → h'.get? b = h.get? b := fun b hb => hs.2 b fun z => nm (z ▸ hb)
  have cell : ∀ x c ov, C.cl.lookup x = some c → h.IsCell c ov → h'.IsCell c ov := by
    rintro x c ov hx ⟨o, e, d⟩; exact ⟨o, by rw [hm c (.inr ⟨x, hx⟩)]; exact e, d⟩
  refine ⟨⟨?_, K.keep, H.fr.above⟩, K, fun b hb => ⟨(H.apart b hb).1, ?_⟩, H.loc, fun x v c e q => ?_, fun x c q => ?_⟩
  · obtain ⟨o, es, ep, e, r⟩ := H.fr.ns; exact ⟨o, es, ep, by rw [hm _ (.inl rfl)]; exact e, r⟩
  · have := (H.apart b hb).2
    unfold frzAt at this ⊢
    split at this
    · cases this
    · rename_i z; rw [if_neg z]; exact this
  · obtain ⟨u, a, b⟩ := H.cel x v c e q; exact ⟨u, cell x c _ q a, b⟩
  · obtain ⟨ov, a⟩ := H.there x c q; exact ⟨ov, cell x c _ q a⟩
theorem StC.thaw (H : StC C (frzAt fz it o) ρ φ m ψ h) (hf : fz it = none) (low : C.W.g.objs.size ≤ it) (hs : Heap.ExtBut it h h') : StC C fz ρ φ m ψ h' := by
  obtain ⟨_, nc, nm⟩ := H.frozen
  have ag : ∀ b, b ≠ it → (∃ x, h.get? b = some x) → h'.get? b = h.get? b := fun b hb ⟨x, e⟩ => by rw [e]; exact hs b x hb e
  have K : HOk C.W fz φ ψ h' := H.ok.agree (fun b c => ag b (fun z => nc (z ▸ c)) (H.ok.there c)) (fun b x q => hs b x (fun z => absurd (Heap.lt_size q) (by rw [z]; exact Nat.not_lt.mpr low)) (H.fr.keep b x q)) fun b x q => by
    have z : b ≠ it := fun z => by rw [z, hf] at q; cases q
    have := H.ok.frz b x (by unfold frzAt; rw [if_neg z]; exact q)
    exact ⟨hs b x z this.1, this.2⟩
  have hm : ∀ b, C.mine b → h'.get? b = h.get? b := fun b hb => ag b (fun z => nm (z ▸ hb)) (H.old hb)
  have cell : ∀ x c ov, C.cl.lookup x = some c → h.IsCell c ov → h'.IsCell c ov := by
    rintro x c ov hx ⟨o, e, d⟩; exact ⟨o, by rw [hm c (.inr ⟨x, hx⟩)]; exact e, d⟩
  refine ⟨⟨?_, K.keep, H.fr.above⟩, K, fun b hb => ⟨(H.apart b hb).1, ?_⟩, H.loc, fun x v c e q => ?_, fun x c q => ?_⟩
  · obtain ⟨o, es, ep, e, r⟩ := H.fr.ns; exact ⟨o, es, ep, by rw [hm _ (.inl rfl)]; exact e, r⟩
  · have := (H.apart b hb).2
    unfold frzAt at this
    split at this
    · cases this
    · exact this
  · obtain ⟨u, a, b⟩ := H.cel x v c e q; exact ⟨u, cell x c _ q a, b⟩
  · obtain ⟨ov, a⟩ := H.there x c q; exact ⟨ov, cell x c _ q a⟩
end

section
variable {C : FC} {ρ : Loc} {φ : AH} {n : Nat} {R : AF → Loc → AH → Prop} {P : Loc → AH → Prop}
/-- what stands behind a loop's turn -/
def LoopK (I : Nat → Loc → AH → Prop) (i : Nat) (R : AF → Loc → AH → Prop) : AF → Loc → AH → Prop
  | .next, ρ, φ => ∃ ρ', Sub ρ' ρ ∧ I (i + 1) ρ' φ
  | .cont, ρ, φ => ∃ ρ', Sub ρ' ρ ∧ I (i + 1) ρ' φ
  | .brk, ρ, φ => R .next ρ φ
  | .ret v, ρ, φ => R (.ret v) ρ φ

/-- an iterator: its states, what it gives -/
structure Iter (C : FC) (it : Addr) (items : List AV) (S : Nat → Obj → Prop) (T : AH → Prop) : Prop where
  low : C.W.g.objs.size ≤ it
  item : ∀ i x s o fz ρ φ m ψ, items[i]? = some x → S i o → s.heap.get? it = some o → StC C fz ρ φ m ψ s.heap → T φ →
    wpAny C.M C.A (pyNext (.ref it)) (fun r s' => ∃ v o', r = some v ∧ x.is v ∧ S (i + 1) o' ∧ Heap.SameBut it s.heap s'.heap ∧ s'.heap.get? it = some o' ∧ s'.gens = s.gens ∧ s'.os = s.os) (fun _ _ => False) s
  fin : ∀ s o fz ρ φ m ψ, S items.length o → s.heap.get? it = some o → StC C fz ρ φ m ψ s.heap → T φ →
    wpAny C.M C.A (pyNext (.ref it)) (fun r s' => r = none ∧ Heap.ExtBut it s.heap s'.heap ∧ s'.gens = s.gens ∧ s'.os = s.os) (fun _ _ => False) s

theorem forLoop_gen {target : Expr} {body : List Stmt} {it : Addr} {items : List AV} {S : Nat → Obj → Prop} {T : AH → Prop} (X : Iter C it items S T) (I : Nat → Loc → AH → Prop)
    (go : ∀ i o s v (Q : Unit → Shared → Prop), S i o → s.heap.get? it = some o → Q () s → (∀ a, AV.is a v → a ∈ items → wpAny C.M C.A (letOwnedTupleGo target (.ref it) v) Q (fun _ _ => False) s))
    (turn : ∀ i x ρ φ, items[i]? = some x → I i ρ φ → T φ ∧ Asn C target x ρ φ fun ρ₁ φ₁ => XS C (execs body C.env) ρ₁ φ₁ (LoopK I i R))
    (fin : ∀ ρ φ, I items.length ρ φ → T φ ∧ R .next ρ φ)
    {fz : Addr → Option Obj} {m ψ} {s : Shared} {o : Obj} (H : StC C fz ρ φ m ψ s.heap) (g : s.gens = C.W.gens) (os : s.os = C.W.os) (h0 : I 0 ρ φ) (hS : S 0 o) (he : s.heap.get? it = some o) (nc : ¬ cov φ ψ it) (nm : ¬ C.mine it) (hf : fz it = none) :
    codeAny C.M C.A (.forLoop target (.ref it) body [] C.env) (fun r s' => match r with | .ok f => PX C fz R f s' | .error _ => False) s := by
  refine codeAny_forLoop_any (fun k s => ∃ i ρ φ o, k + i = items.length ∧ St C (frzAt fz it o) ρ φ s ∧ S i o ∧ I i ρ φ) (fun k s hI => ?_) items.length ⟨0, ρ, φ, o, rfl, ⟨⟨m, ψ, H.freeze he nc nm⟩, g, os⟩, hS, h0⟩
  obtain ⟨i, ρ, φ, o, hk, ⟨⟨m, ψ, H⟩, g, os⟩, hS, hi⟩ := hI
  obtain ⟨he, nc, nm⟩ := H.frozen
  cases hx : items[i]? with
  | none =>
    have hlen : i = items.length := by have := List.getElem?_eq_none_iff.mp hx; omega
    subst hlen
    obtain ⟨hT, hR⟩ := fin ρ φ hi
    refine wpAny_mono (X.fin s o _ ρ φ m ψ hS he H hT) (fun r s' => ?_) fun _ _ x => x.elim
    rintro ⟨rfl, hs, g', o'⟩
    exact wpAny_execs_nil ⟨.next, ρ, φ, rfl, ⟨⟨m, ψ, H.thaw hf X.low hs⟩, g'.trans g, o'.trans os⟩, hR⟩
  | some x =>
    obtain ⟨hT, ht⟩ := turn i x ρ φ hx hi
    have hlt : i < items.length := (List.getElem?_eq_some_iff.mp hx).1
    refine wpAny_mono (X.item i x s o _ ρ φ m ψ hx hS he H hT) (fun r s' => ?_) fun _ _ x => x.elim
    rintro ⟨v, o', rfl, hv, hS', hs, he', g', os'⟩
    refine wpAny_mono (go (i + 1) o' s' v (fun _ s'' => s'' = s') hS' he' rfl x hv (List.mem_of_getElem? hx)) (fun _ s'' q => ?_) fun _ _ x => x.elim
    subst q
    have S' : St C (frzAt fz it o') ρ φ s'' := ⟨⟨m, ψ, H.step X.low hs he'⟩, g'.trans g, os'.trans os⟩
    refine wpAny_mono (ht v hv _ s'' S') (fun _ s₃ => ?_) fun _ _ x => x.elim
    rintro ⟨ρ₁, φ₁, S₃, hb⟩
    refine wpAny_mono (hb _ s₃ S₃) (fun f s₄ => ?_) fun _ _ x => x.elim
    rintro ⟨b, ρ₄, φ₄, hfl, S₄, q⟩
    cases b with
    | next => cases hfl; obtain ⟨ρ', hsub, q⟩ := q; exact ⟨k - 1, by omega, i + 1, ρ', φ₄, o', by omega, S₄.sub hsub, hS', q⟩
    | cont => cases hfl; obtain ⟨ρ', hsub, q⟩ := q; exact ⟨k - 1, by omega, i + 1, ρ', φ₄, o', by omega, S₄.sub hsub, hS', q⟩
    | brk =>
      cases hfl
      obtain ⟨⟨m', ψ', H'⟩, g₄, o₄⟩ := S₄
      exact ⟨.next, ρ₄, φ₄, rfl, ⟨⟨m', ψ', H'.thaw hf X.low (Heap.ExtBut.refl _ _)⟩, g₄, o₄⟩, q⟩
    | ret v =>
      obtain ⟨u, rfl, hu⟩ := hfl
      obtain ⟨⟨m', ψ', H'⟩, g₄, o₄⟩ := S₄
      exact ⟨.ret v, ρ₄, φ₄, ⟨u, rfl, hu⟩, ⟨⟨m', ψ', H'.thaw hf X.low (Heap.ExtBut.refl _ _)⟩, g₄, o₄⟩, q⟩

theorem iter_list {it l : Addr} {items : List AV} (low : C.W.g.objs.size ≤ it) (G : Gd C n) : Iter C it items (fun i o => o.cls = .type "list_iterator" ∧ o.data = .fields #[.ref l, .int i 0]) (fun φ => φ l = some (.list items)) where
  low := low
  item := fun i x s o fz ρ φ m ψ hx hS he H hT => by
    obtain ⟨vs, k, c1, c2, c3⟩ := list_of H hT
    obtain ⟨y, hy, hi⟩ := c2.get hx
    refine wpAny_pyNext_list_item (i := i) (x := y) ⟨o, he, hS⟩ c1.isList (by rw [← Array.getElem?_toList]; exact hy) fun h' hit hs => ?_
    obtain ⟨o', e', r⟩ := hit
    exact ⟨y, o', rfl, hi, r, hs, e', rfl, rfl⟩
  fin := fun s o fz ρ φ m ψ hS he H hT => by
    obtain ⟨vs, k, c1, c2, c3⟩ := list_of H hT
    exact wpAny_pyNext_list_end G.room.h ⟨o, he, hS⟩ c1.isList (Array.getElem?_eq_none (by omega)) fun h' hs => ⟨rfl, hs, rfl, rfl⟩

theorem x_for_list {target iter : Expr} {body rest : List Stmt} {pos : Pos}
    (h : EV C (eval iter C.env) ρ φ fun a φ₁ => ∃ l items, a = .ref l ∧ φ₁ l = some (.list items) ∧ ∃ I : Nat → Loc → AH → Prop, I 0 ρ φ₁ ∧
      (∀ i x ρ φ, items[i]? = some x → I i ρ φ → φ l = some (.list items) ∧ Asn C target x ρ φ fun ρ₁ φ₁ => ∀ R', Imp (LoopK I i (Then C rest R)) R' → XS C (execs body C.env) ρ₁ φ₁ R') ∧
      (∀ ρ φ, I items.length ρ φ → φ l = some (.list items) ∧ XS C (execs rest C.env) ρ φ R) ∧
      (∀ (s : Shared) it i a v, s.heap.IsListIter it l i → AV.is a v → a ∈ items → ∀ (Q : Unit → Shared → Prop), Q () s → wpAny C.M C.A (letOwnedTupleGo target (.ref it) v) Q (fun _ _ => False) s))
    (G : Gd C n := by assumption) (hs : ∀ x, foldedSetIterable iter C.env x = pure x := by intro _; with_unfolding_all rfl) : XS C (execs (.For target iter body [] pos :: rest) C.env) ρ φ R := by
  refine xs_cons fun fz s S => wpAny_For (wpAny_mono (h fz s S) (fun v s' => ?_) fun _ _ x => x) hs
  rintro ⟨a, φ', hr, ⟨⟨m, ψ, H⟩, g, o⟩, l, items, rfl, hl, I, h0, turn, fin, go⟩
  cases hr
  obtain ⟨vs, k, c1, c2, c3⟩ := list_of H hl
  refine wpAny_pyIter_list c1.isList ?_
  have hk : ∀ b ob, s'.heap.get? b = some ob → (s'.heap.push { cls := .type "list_iterator", data := .fields #[.ref l, .int 0 0] }).get? b = some ob := fun b ob e => Heap.get?_push_of_some _ e
  have hn : s'.heap.get? s'.heap.objs.size = none := old_none (Nat.le_refl _)
  obtain ⟨_, hfz, nc⟩ := H.ok.none_of hn
  obtain ⟨⟨m', ψ', H'⟩, g', o'⟩ : St C fz ρ φ' ⟨_, s'.gens, s'.drawn, s'.toks, s'.os⟩ := St.grow H g o hk
  have K := H.ok.grow hk
  have H2 : StC C fz ρ φ' m ψ (s'.heap.push { cls := .type "list_iterator", data := .fields #[.ref l, .int 0 0] }) := H.frame K (fun b hb => by obtain ⟨o, e⟩ := H.old hb; rw [hk _ _ e, e]) fun b hb => (H.apart b hb).1
  refine codeAny_mono (forLoop_gen (R := Then C rest R) (iter_list (l := l) (items := items) H.low G) I (fun i o s v Q hS he hQ a ha hm => go s _ i a v ⟨o, he, hS⟩ ha hm Q hQ) (fun i x ρ φ hx hi => ⟨(turn i x ρ φ hx hi).1, fun v hv => ((turn i x ρ φ hx hi).2 v hv).mono fun ρ₁ φ₁ h => h _ (Imp.refl _)⟩) (fun ρ φ hi => fin ρ φ hi)
    (s := ⟨_, s'.gens, s'.drawn, s'.toks, s'.os⟩) H2 g o h0 ⟨rfl, rfl⟩ (Heap.get?_push_size _ rfl) nc (fun q => by obtain ⟨o, e⟩ := H.old q; rw [hn] at e; cases e) hfz) fun r s₂ z => ?_
  cases r with
  | ok f => exact z
  | error e => exact z.elim
/-- a plain target takes each item as it comes -/
theorem go_name {x : Str} {p : Pos} {l : Addr} {items : List AV} : ∀ (s : Shared) it i a v, s.heap.IsListIter it l i → AV.is a v → a ∈ items → ∀ (Q : Unit → Shared → Prop), Q () s → wpAny C.M C.A (letOwnedTupleGo (.Name x p) (.ref it) v) Q (fun _ _ => False) s :=
  fun s it i a v _ _ _ Q q => wpAny_pure q
theorem go_tuple {elts : List Expr} {k : Nat} {p : Pos} {l : Addr} {items : List AV} (hr : ∀ a ∈ items, ∃ t, a = .ref t) : ∀ (s : Shared) it i a v, s.heap.IsListIter it l i → AV.is a v → a ∈ items → ∀ (Q : Unit → Shared → Prop), Q () s → wpAny C.M C.A (letOwnedTupleGo (.Tuple elts k p) (.ref it) v) Q (fun _ _ => False) s :=
  fun s it i a v hit ha hm Q q => by
    obtain ⟨t, rfl⟩ := hr a hm
    cases ha
    exact wpAny_letOwnedTupleGo_listiter hit q
end
end Mine

open PySem PySem.W PyProof.Rows PySem.Calls PySem.MeetsSeq PySem.MeetsSeq2 PySem.MeetsSeq3
set_option Elab.async false
set_option maxRecDepth 100000
set_option linter.unusedVariables false
namespace Mine
section
variable {C : FC} {ρ : Loc} {φ : AH} {n : Nat} {R : AF → Loc → AH → Prop} {P : Loc → AH → Prop} {Q : AV → AH → Prop}

theorem cal_range {k : Int} (q : ∀ r, φ r = none → Q (.ref r) (upd φ r (.rng k))) : Cal C ρ (.raw (.type "range")) [.int k] φ Q := by
  rintro _ _ rfl (_ | ⟨⟨t, rfl⟩, _ | _⟩)
  refine WPx.of fun fz s m ψ H g o => ?_
  obtain ⟨h1, h2⟩ := St.new (a := s.heap.objs.size) (h' := s.heap.push { cls := .type "range", data := .fields #[.int 0 s.toks, .int k t, .int 1 (s.toks + 1)] }) (o' := .rng k) (d := s.drawn) (t := s.toks + 1 + 1) H g o trivial (Nat.le_refl _) (fun b o e => Heap.get?_push_of_some _ e)
    ⟨s.toks, t, s.toks + 1, IsRange.new _ _ _ _ _ _ _⟩
  exact call_range_1 ⟨.ref _, _, rfl, h2, q _ h1⟩

theorem iter_range {it : Addr} {k : Nat} (low : C.W.g.objs.size ≤ it) (G : Gd C n) :
    Iter C it ((List.range k).map fun (i : Nat) => AV.int (i : Int)) (fun i o => o = { cls := .type "range_iterator", data := .fields #[rawInt i, rawInt ((k : Int) - i), rawInt 1] }) (fun _ => True) where
  low := low
  item := fun i x s o fz ρ φ m ψ hx hS he H hT => by
    rw [List.getElem?_map, Option.map_eq_some_iff] at hx
    obtain ⟨j, hj, rfl⟩ := hx
    have hlt : i < k := by have := (List.getElem?_eq_some_iff.mp hj).1; rwa [List.length_range] at this
    have hji : j = i := by rw [List.getElem?_range hlt] at hj; exact (Option.some.inj hj).symm
    subst hji hS
    refine wpAny_pyNext_range_item (x := (j : Int)) (left := (k : Int) - j) (step := 1) he (by omega) fun h' hit hs => ?_
    exact ⟨_, _, rfl, ⟨_, rfl⟩, (by
      rw [show ((j + 1 : Nat) : Int) = (j : Int) + 1 by omega, show (k : Int) - ((j : Int) + 1) = (k : Int) - j - 1 by omega]), hs, hit, rfl, rfl⟩
  fin := fun s o fz ρ φ m ψ hS he H hT => by
    rw [List.length_map, List.length_range] at hS
    subst hS
    refine wpAny_pyNext_range_end G.room.h (x := (k : Int)) (left := (k : Int) - k) (step := 1) he (by omega) fun h' hs => ⟨rfl, hs, rfl, rfl⟩
theorem go_plain {x : Str} {p : Pos} {it : Addr} (s : Shared) (v : Value) (Q : Unit → Shared → Prop) (q : Q () s) : wpAny C.M C.A (letOwnedTupleGo (.Name x p) (.ref it) v) Q (fun _ _ => False) s := wpAny_pure q
theorem x_for_range {x : Str} {px : Pos} {iter : Expr} {body rest : List Stmt} {pos : Pos}
    (h : EV C (eval iter C.env) ρ φ fun a φ₁ => ∃ l, ∃ k : Nat, a = .ref l ∧ φ₁ l = some (.rng k) ∧ k ≤ 1000000 ∧ ∃ I : Nat → Loc → AH → Prop, I 0 ρ φ₁ ∧
      (∀ i ρ φ, i < k → I i ρ φ → Asn C (.Name x px) (.int i) ρ φ fun ρ₁ φ₁ => ∀ R', Imp (LoopK I i (Then C rest R)) R' → XS C (execs body C.env) ρ₁ φ₁ R') ∧
      (∀ ρ φ, I k ρ φ → XS C (execs rest C.env) ρ φ R))
    (G : Gd C n := by assumption) (hs : ∀ x, foldedSetIterable iter C.env x = pure x := by intro _; with_unfolding_all rfl) : XS C (execs (.For (.Name x px) iter body [] pos :: rest) C.env) ρ φ R := by
  refine xs_cons fun fz s S => wpAny_For (wpAny_mono (h fz s S) (fun v s' => ?_) fun _ _ x => x) hs
  rintro ⟨a, φ', hr, ⟨⟨m, ψ, H⟩, g, o⟩, l, k, rfl, hl, hk1, I, h0, turn, fin⟩
  cases hr
  obtain ⟨t1, t2, t3, c1⟩ := H.ok.heap _ _ hl
  refine wpAny_pyIter_range c1 (small_one (by omega) (by omega) (by omega) (by omega)) ?_
  rw [rangeSize_one, show (if (0 : Int) < k then (k : Int) - 0 else 0) = (k : Int) by split <;> omega]
  have hk : ∀ b ob, s'.heap.get? b = some ob → (s'.heap.push { cls := .type "range_iterator", data := .fields #[rawInt 0, rawInt k, rawInt 1] }).get? b = some ob := fun b ob e => Heap.get?_push_of_some _ e
  have hn : s'.heap.get? s'.heap.objs.size = none := old_none (Nat.le_refl _)
  obtain ⟨_, hfz, nc⟩ := H.ok.none_of hn
  have K := H.ok.grow hk
  have H2 : StC C fz ρ φ' m ψ (s'.heap.push { cls := .type "range_iterator", data := .fields #[rawInt 0, rawInt k, rawInt 1] }) := H.frame K (fun b hb => by obtain ⟨o, e⟩ := H.old hb; rw [hk _ _ e, e]) fun b hb => (H.apart b hb).1
  refine codeAny_mono (forLoop_gen (R := Then C rest R) (iter_range (k := k) H.low G) I (fun i o s v Q hS he hQ a ha hm => go_plain s v Q hQ) (fun i x ρ φ hx hi => ⟨trivial, ?_⟩) (fun ρ φ hi => ⟨trivial, fin ρ φ (by rwa [List.length_map, List.length_range] at hi)⟩)
    (s := ⟨_, s'.gens, s'.drawn, s'.toks, s'.os⟩) (o := { cls := .type "range_iterator", data := .fields #[rawInt 0, rawInt k, rawInt 1] }) H2 g o h0 (by simp) (Heap.get?_push_size _ rfl) nc (fun q => by obtain ⟨o, e⟩ := H.old q; rw [hn] at e; cases e) hfz) fun r s₂ z => ?_
  · rw [List.getElem?_map, Option.map_eq_some_iff] at hx
    obtain ⟨j, hj, rfl⟩ := hx
    have hlt : i < k := by have := (List.getElem?_eq_some_iff.mp hj).1; rwa [List.length_range] at this
    have hji : j = i := by rw [List.getElem?_range hlt] at hj; exact (Option.some.inj hj).symm
    subst hji
    exact fun v hv => (turn j ρ φ hlt hi v hv).mono fun ρ₁ φ₁ h => h _ (Imp.refl _)
  · cases r with
    | ok f => exact z
    | error e => exact z.elim

theorem iter_dict {it d : Addr} {l : List (Int × AV)} {ep : Nat} (low : C.W.g.objs.size ≤ it) (G : Gd C n) :
    Iter C it (l.map fun p => AV.int p.1) (fun i o => o.cls = .type "dict_keyiterator" ∧ o.data = .fields #[.ref d, .int i 0, .int l.length 0, .int ep 0]) (fun φ => ∃ l', l'.map (·.1) = l.map (·.1) ∧ φ d = some (.idict l' ep)) where
  low := low
  item := fun i x s o fz ρ φ m ψ hx hS he H hT => by
    obtain ⟨l', hl', hT⟩ := hT
    obtain ⟨kvs, c1, c2, c3⟩ := idict_of H hT
    have hlen : l'.length = l.length := by rw [← List.length_map (f := (·.1)) (as := l'), hl', List.length_map]
    rw [List.getElem?_map, Option.map_eq_some_iff] at hx
    obtain ⟨p, hp, rfl⟩ := hx
    have hp' : (l'.map (·.1))[i]? = some p.1 := by rw [hl', List.getElem?_map, hp]; rfl
    rw [List.getElem?_map, Option.map_eq_some_iff] at hp'
    obtain ⟨p', hp', e1⟩ := hp'
    obtain ⟨q, hq, e2, e3⟩ := c2.get hp'
    refine wpAny_pyNext_dict_item (i := i) (k := p.1) (v := q.2) ⟨o, he, by rw [c3, hlen]; exact hS⟩ c1 (by rw [hq, ← e1, e2]) fun key h' hkey hit hs => ?_
    obtain ⟨o', e', r⟩ := hit
    obtain ⟨t, rfl⟩ := Value.isInt_shape hkey
    exact ⟨_, o', rfl, ⟨t, rfl⟩, by rw [c3, hlen] at r; exact r, hs, e', rfl, rfl⟩
  fin := fun s o fz ρ φ m ψ hS he H hT => by
    obtain ⟨l', hl', hT⟩ := hT
    obtain ⟨kvs, c1, c2, c3⟩ := idict_of H hT
    have hlen : l'.length = l.length := by rw [← List.length_map (f := (·.1)) (as := l'), hl', List.length_map]
    rw [List.length_map] at hS
    exact wpAny_pyNext_dict_end G.room.h (i := l.length) ⟨o, he, by rw [c3, hlen]; exact hS⟩ c1 (List.getElem?_eq_none (by rw [c3, hlen]; exact Nat.le_refl _)) fun h' hs => ⟨rfl, hs, rfl, rfl⟩
theorem x_for_dict {x : Str} {px : Pos} {iter : Expr} {body rest : List Stmt} {pos : Pos}
    (h : EV C (eval iter C.env) ρ φ fun a φ₁ => ∃ d l ep, a = .ref d ∧ φ₁ d = some (.idict l ep) ∧ ∃ I : Nat → Loc → AH → Prop, I 0 ρ φ₁ ∧
      (∀ i p ρ φ, l[i]? = some p → I i ρ φ → (∃ l', l'.map (·.1) = l.map (·.1) ∧ φ d = some (.idict l' ep)) ∧ Asn C (.Name x px) (.int p.1) ρ φ fun ρ₁ φ₁ => ∀ R', Imp (LoopK I i (Then C rest R)) R' → XS C (execs body C.env) ρ₁ φ₁ R') ∧
      (∀ ρ φ, I l.length ρ φ → (∃ l', l'.map (·.1) = l.map (·.1) ∧ φ d = some (.idict l' ep)) ∧ XS C (execs rest C.env) ρ φ R))
    (G : Gd C n := by assumption) (hs : ∀ x, foldedSetIterable iter C.env x = pure x := by intro _; with_unfolding_all rfl) : XS C (execs (.For (.Name x px) iter body [] pos :: rest) C.env) ρ φ R := by
  refine xs_cons fun fz s S => wpAny_For (wpAny_mono (h fz s S) (fun v s' => ?_) fun _ _ x => x) hs
  rintro ⟨a, φ', hr, ⟨⟨m, ψ, H⟩, g, o⟩, d, l, ep, rfl, hl, I, h0, turn, fin⟩
  cases hr
  obtain ⟨kvs, c1, c2, c3⟩ := idict_of H hl
  refine wpAny_pyIter_dict (H.lo G hl) c1 ?_
  rw [c3]
  have hk : ∀ b ob, s'.heap.get? b = some ob → (s'.heap.push { cls := .type "dict_keyiterator", data := .fields #[.ref d, .int 0 0, .int l.length 0, .int ep 0] }).get? b = some ob := fun b ob e => Heap.get?_push_of_some _ e
  have hn : s'.heap.get? s'.heap.objs.size = none := old_none (Nat.le_refl _)
  obtain ⟨_, hfz, nc⟩ := H.ok.none_of hn
  have K := H.ok.grow hk
  have H2 : StC C fz ρ φ' m ψ (s'.heap.push { cls := .type "dict_keyiterator", data := .fields #[.ref d, .int 0 0, .int l.length 0, .int ep 0] }) := H.frame K (fun b hb => by obtain ⟨o, e⟩ := H.old hb; rw [hk _ _ e, e]) fun b hb => (H.apart b hb).1
  refine codeAny_mono (forLoop_gen (R := Then C rest R) (iter_dict (d := d) (l := l) (ep := ep) H.low G) I (fun i o s v Q hS he hQ a ha hm => go_plain s v Q hQ) (fun i x ρ φ hx hi => ?_) (fun ρ φ hi => fin ρ φ (by rwa [List.length_map] at hi))
    (s := ⟨_, s'.gens, s'.drawn, s'.toks, s'.os⟩) H2 g o h0 ⟨rfl, rfl⟩ (Heap.get?_push_size _ rfl) nc (fun q => by obtain ⟨o, e⟩ := H.old q; rw [hn] at e; cases e) hfz) fun r s₂ z => ?_
  · rw [List.getElem?_map, Option.map_eq_some_iff] at hx
    obtain ⟨p, hp, rfl⟩ := hx
    exact ⟨(turn i p ρ φ hp hi).1, fun v hv => ((turn i p ρ φ hp hi).2 v hv).mono fun ρ₁ φ₁ h => h _ (Imp.refl _)⟩
  · cases r with
    | ok f => exact z
    | error e => exact z.elim

/-- what stands behind a while's turn -/
def WhileK (J : Nat → Loc → AH → Prop) (k : Nat) (R : AF → Loc → AH → Prop) : AF → Loc → AH → Prop
  | .next, ρ, φ => ∃ k', k' < k ∧ ∃ ρ', Sub ρ' ρ ∧ J k' ρ' φ
  | .cont, ρ, φ => ∃ k', k' < k ∧ ∃ ρ', Sub ρ' ρ ∧ J k' ρ' φ
  | .brk, ρ, φ => R .next ρ φ
  | .ret v, ρ, φ => R (.ret v) ρ φ
theorem x_while {test : Expr} {body rest : List Stmt} {pos : Pos} (J : Nat → Loc → AH → Prop) (k : Nat) (h0 : J k ρ φ)
    (turn : ∀ k ρ φ, J k ρ φ → EB C (PySem.isTrue test C.env (eval test C.env)) ρ φ fun b φ₁ => (b = true → ∀ R', Imp (WhileK J k (Then C rest R)) R' → XS C (execs body C.env) ρ φ₁ R') ∧ (b = false → XS C (execs rest C.env) ρ φ₁ R)) :
    XS C (execs (.While test body [] pos :: rest) C.env) ρ φ R := by
  refine xs_cons fun fz s S => wpAny_While ?_
  refine codeAny_whileLoop (fun k s => ∃ ρ φ, St C fz ρ φ s ∧ J k ρ φ) (fun k s hI => ?_) k ⟨ρ, φ, S, h0⟩
  obtain ⟨ρ, φ, S, hJ⟩ := hI
  refine wpAny_mono (turn k ρ φ hJ fz s S) (fun b s' => ?_) fun _ _ x => x.elim
  rintro ⟨b', φ', rfl, S', q⟩
  cases b' with
  | true =>
    rw [if_pos rfl]
    refine wpAny_mono (q.1 rfl _ (Imp.refl _) fz s' S') (fun f s'' => ?_) fun _ _ x => x.elim
    rintro ⟨fl, ρ', φ'', hfl, S'', q⟩
    cases fl with
    | next => cases hfl; obtain ⟨k', hk', ρ₁, hsub, hj⟩ := q; exact ⟨k', hk', ρ₁, φ'', S''.sub hsub, hj⟩
    | cont => cases hfl; obtain ⟨k', hk', ρ₁, hsub, hj⟩ := q; exact ⟨k', hk', ρ₁, φ'', S''.sub hsub, hj⟩
    | brk => cases hfl; exact ⟨.next, ρ', φ'', rfl, S'', q⟩
    | ret v => obtain ⟨u, rfl, hu⟩ := hfl; exact ⟨.ret v, ρ', φ'', ⟨u, rfl, hu⟩, S'', q⟩
  | false =>
    rw [if_neg (by simp)]
    exact wpAny_execs_nil ⟨.next, ρ, φ', rfl, S', q.2 rfl⟩
end
end Mine

open PySem PySem.W PyProof.Rows PySem.Calls PySem.MeetsSeq PySem.MeetsSeq2 PySem.MeetsSeq3
set_option Elab.async false
set_option maxRecDepth 100000
set_option linter.unusedVariables false
namespace Mine
noncomputable def compFC (C : FC) (scope : Scope) (cl : List (Str × Addr)) (a : Addr) : FC := ⟨C.W, C.A, compEnvC scope cl a C.env⟩
section
variable {C : FC} {ρ : Loc} {φ : AH} {n : Nat} {Q : AV → AH → Prop}

def Tests (C : FC) (ifs : List Expr) (ρ : Loc) (φ : AH) (B : Bool → AH → Prop) : Prop :=
  EB C (forIn ifs true fun c r => if r = true then do let ok ← PySem.isTrue c C.env (eval c C.env); pure (ForInStep.yield ok) else pure (ForInStep.yield r)) ρ φ B
theorem tests_nil {B : Bool → AH → Prop} (q : B true φ) : Tests C [] ρ φ B := fun fz s S => wpAny_tests_nil ⟨true, φ, rfl, S, q⟩
theorem tests_one {c : Expr} {B : Bool → AH → Prop} (h : EB C (PySem.isTrue c C.env (eval c C.env)) ρ φ B) : Tests C [c] ρ φ B := fun fz s S => wpAny_tests_one (h fz s S)

/-- the outer frame comes back, what the inner one shares with it too -/
theorem StC.back {fz fz' : Addr → Option Obj} {m ψ h φ' ψ' h'} {cl : List (Str × Addr)} {ρ₀ : Loc} (H : StC C fz ρ φ m ψ h) (K : HOk C.W fz' φ' ψ' h')
    (hf : ∀ b, (∀ y, cl.lookup y ≠ some b) → ∀ o, C.hold fz h b = some o → fz' b = some o)
    (hcl : ∀ y c, cl.lookup y = some c → C.cl.lookup y = some c) (nc : ∀ y c, cl.lookup y = some c → ¬ cov φ' ψ' c)
    (cel : ∀ y v c, ρ₀.lookup y = some v → cl.lookup y = some c → ∃ u, h'.IsCell c (some u) ∧ v.is u) (there : ∀ y c, cl.lookup y = some c → ∃ ov, h'.IsCell c ov)
    (hρ : ∀ y v c, cl.lookup y = some c → ρ.lookup y = some v → ρ₀.lookup y = some v) (cl1 : ∀ x y c, C.cl.lookup x = some c → C.cl.lookup y = some c → x = y) (clL : ∀ x c, C.cl.lookup x = some c → c ≠ C.L) : StC C fz ρ φ' m ψ' h' := by
  have out : ∀ b o, (∀ y, cl.lookup y ≠ some b) → C.hold fz h b = some o → h'.get? b = some o ∧ ¬ cov φ' ψ' b := fun b o q e => K.frz b o (hf b q o e)
  have mineHold : ∀ b, C.mine b → C.hold fz h b = h.get? b := fun b hb => by unfold FC.hold; rw [if_pos hb]
  have key : ∀ b, C.mine b → (∀ y, cl.lookup y ≠ some b) → h'.get? b = h.get? b ∧ ¬ cov φ' ψ' b := fun b hb q => by
    obtain ⟨o, e⟩ := H.old hb
    have := out b o q (by rw [mineHold b hb]; exact e)
    exact ⟨this.1.trans e.symm, this.2⟩
  have hL : ∀ y, cl.lookup y ≠ some C.L := fun y e => clL y _ (hcl y _ e) rfl
  have same : ∀ x c, C.cl.lookup x = some c → cl.lookup x = some c ∨ ∀ y, cl.lookup y ≠ some c := fun x c hx => by
    by_cases q : cl.lookup x = some c
    · exact .inl q
    · refine .inr fun y e => q ?_
      have := cl1 x y c hx (hcl y c e)
      rw [this]; exact e
  refine ⟨⟨?_, K.keep, H.fr.above⟩, K.agree (fun b _ => rfl) K.keep fun b o e => ?_, fun b hb => ⟨?_, (H.apart b hb).2⟩, H.loc, fun x v c e q => ?_, fun x c q => ?_⟩
  · obtain ⟨o, es, ep, e, r⟩ := H.fr.ns; exact ⟨o, es, ep, by rw [(key _ (.inl rfl) hL).1]; exact e, r⟩
  · have hb : ¬ C.mine b := fun q => by rw [(H.apart b q).2] at e; cases e
    exact out b o (fun y q => hb (.inr ⟨y, hcl y b q⟩)) (by unfold FC.hold; rw [if_neg hb]; exact e)
  · rcases hb with rfl | ⟨x, hx⟩
    · exact (key _ (.inl rfl) hL).2
    · rcases same x b hx with q | q
      · exact nc x b q
      · exact (key b (.inr ⟨x, hx⟩) q).2
  · rcases same x c q with z | z
    · exact cel x v c (hρ x v c z e) z
    · obtain ⟨u, ⟨o, a, d⟩, b⟩ := H.cel x v c e q
      exact ⟨u, ⟨o, by rw [(key c (.inr ⟨x, q⟩) z).1]; exact a, d⟩, b⟩
  · rcases same x c q with z | z
    · exact there x c z
    · obtain ⟨u, ⟨o, a, d⟩⟩ := H.there x c q
      exact ⟨u, ⟨o, by rw [(key c (.inr ⟨x, q⟩) z).1]; exact a, d⟩⟩

theorem comp_loop {elt iter : Expr} {x : Str} {px : Pos} {ifs : List Expr} {scope : Scope} {pos : Pos} {it l D : Addr} {items : List AV} {φ₁ : AH} {ρ₀ : Loc} (p : AV → Bool) (f : AV → AV) (G : Gd C n) (low : C.W.g.objs.size ≤ it)
    (hx : C.env.kindOf x = some .local) (hxc : C.cl.lookup x = none) (hz : items.length ≤ 1000000) (hl : ∀ out, upd φ₁ D (.list out) l = some (.list items))
    (hp : ∀ v ∈ items, ∀ out ρ', Sub ρ₀ ρ' → Tests C ifs ((x, v) :: ρ') (upd φ₁ D (.list out)) (fun b φ' => φ' = upd φ₁ D (.list out) ∧ b = p v))
    (he : ∀ v ∈ items, p v = true → ∀ out ρ', Sub ρ₀ ρ' → EV C (eval elt C.env) ((x, v) :: ρ') (upd φ₁ D (.list out)) fun y φ'' => φ'' = upd φ₁ D (.list out) ∧ y = f v)
    (hx0 : ρ₀.lookup x = none) {fz : Addr → Option Obj} {s : Shared} {o : Obj} {i : Nat} {out : List AV} {ρ' : Loc} (hS : o.cls = .type "list_iterator" ∧ o.data = .fields #[.ref l, .int i 0]) (S : St C (frzAt fz it o) ρ' (upd φ₁ D (.list out)) s) (hsub : Sub ρ₀ ρ')
    (hout : out = ((items.take i).filter p).map f) (hi : i ≤ items.length) (hfz : fz it = none) :
    codeAny C.M C.A (.compLoop (.ListComp elt [⟨.Name x px, iter, ifs, 0⟩] scope pos) 0 (.ref it) (.ref D) C.env)
      (fun r s' => r = .ok .next ∧ ∃ ρ', Sub ρ₀ ρ' ∧ St C fz ρ' (upd φ₁ D (.list ((items.filter p).map f))) s') s := by
  refine codeAny_compLoop_tests (fun k s => ∃ i out ρ' o, k + i = items.length ∧ o.cls = .type "list_iterator" ∧ o.data = .fields #[.ref l, .int i 0] ∧ St C (frzAt fz it o) ρ' (upd φ₁ D (.list out)) s ∧ Sub ρ₀ ρ' ∧ out = ((items.take i).filter p).map f)
    (fun k s hI => ?_) (items.length - i) ⟨i, out, ρ', o, by omega, hS.1, hS.2, S, hsub, hout⟩
  clear S hS hsub hout hi
  obtain ⟨i, out, ρ', o, hk, hS1, hS2, ⟨⟨m, ψ, H⟩, g, os⟩, hsub, hout⟩ := hI
  have X := iter_list (it := it) (l := l) (items := items) low G
  obtain ⟨heo, nc, nm⟩ := H.frozen
  cases hxi : items[i]? with
  | none =>
    have hlen : i = items.length := by have := List.getElem?_eq_none_iff.mp hxi; omega
    subst hlen
    refine wpAny_mono (X.fin s o _ ρ' _ m ψ ⟨hS1, hS2⟩ heo H (hl out)) (fun r s' => ?_) fun _ _ x => x.elim
    rintro ⟨rfl, hs, g', o'⟩
    rw [List.take_length] at hout
    subst hout
    exact ⟨rfl, ρ', hsub, ⟨⟨m, ψ, H.thaw hfz low hs⟩, g'.trans g, o'.trans os⟩⟩
  | some v =>
    have hlt : i < items.length := (List.getElem?_eq_some_iff.mp hxi).1
    have hmem := List.mem_of_getElem? hxi
    refine wpAny_mono (X.item i v s o _ ρ' _ m ψ hxi ⟨hS1, hS2⟩ heo H (hl out)) (fun r s' => ?_) fun _ _ x => x.elim
    rintro ⟨u, o', rfl, hv, hS', hs, he', g', os'⟩
    have S' : St C (frzAt fz it o') ρ' (upd φ₁ D (.list out)) s' := ⟨⟨m, ψ, H.step low hs he'⟩, g'.trans g, os'.trans os⟩
    have hsub' : Sub ρ₀ ((x, v) :: ρ') := fun y w e => by
      rw [List.lookup_cons]
      by_cases z : (y == x) = true
      · rw [beq_iff_eq.mp z, hx0] at e; cases e
      · rw [Bool.eq_false_iff.mpr z]; exact hsub y w e
    have htake : ∀ w, items[i]? = some w → (items.take (i + 1)) = items.take i ++ [w] := fun w e => by rw [List.take_add_one, e]; rfl
    refine wpAny_mono (asn_name (C := C) (pos := px) (P := fun ρ₁ φ₁' => ρ₁ = (x, v) :: ρ' ∧ φ₁' = upd φ₁ D (.list out)) ⟨rfl, rfl⟩ G hx hxc u hv _ s' S') (fun _ s₂ => ?_) fun _ _ x => x.elim
    rintro ⟨_, _, S₂, rfl, rfl⟩
    refine wpAny_mono (hp v hmem out ρ' hsub _ s₂ S₂) (fun ok s₃ => ?_) fun _ _ x => x.elim
    rintro ⟨_, _, rfl, S₃, rfl, rfl⟩
    cases hpv : p v with
    | true =>
      rw [if_pos rfl]
      refine wpAny_mono (he v hmem hpv out ρ' hsub _ s₃ S₃) (fun y s₄ => ?_) fun _ _ x => x.elim
      rintro ⟨_, _, hy, S₄, rfl, rfl⟩
      have hlen : out.length ≤ items.length := by
        rw [hout, List.length_map]
        exact Nat.le_trans (List.length_filter_le _ _) (by rw [List.length_take]; omega)
      refine wpAny_mono (cal_append (C := C) (ρ := (x, v) :: ρ') (φ := upd φ₁ D (.list out)) (a := D) (l := out) (v := f v) (Q := fun _ φ' => φ' = upd (upd φ₁ D (.list out)) D (.list (out ++ [f v]))) (upd_self ..) rfl (by omega) _ _ rfl (.cons rfl (.cons hy .nil)) _ s₄ S₄) (fun _ s₅ => ?_) fun _ _ x => x.elim
      rintro ⟨_, _, _, S₅, rfl⟩
      refine ⟨k - 1, by omega, i + 1, out ++ [f v], _, o', by omega, hS'.1, hS'.2, ?_, hsub', ?_⟩
      · have : upd (upd φ₁ D (.list out)) D (.list (out ++ [f v])) = upd φ₁ D (.list (out ++ [f v])) := by funext b; by_cases z : b = D <;> simp [upd, z]
        rw [← this]; exact S₅
      · rw [htake v hxi, List.filter_append, List.map_append, ← hout, List.filter_cons, hpv]; rfl
    | false =>
      rw [if_neg (by simp)]
      refine ⟨k - 1, by omega, i + 1, out, _, o', by omega, hS'.1, hS'.2, S₃, hsub', ?_⟩
      rw [htake v hxi, List.filter_append, List.map_append, ← hout, List.filter_cons, hpv]
      simp

theorem ev_comp {elt iter : Expr} {x : Str} {px : Pos} {ifs : List Expr} {scope : Scope} {pos : Pos} {cl : List (Str × Addr)} (p : AV → Bool) (f : AV → AV) (ρ₀ : Loc)
    (hclos : closureFor scope C.env = pure cl) (hcl : ∀ y c, cl.lookup y = some c → C.cl.lookup y = some c)
    (hρ : ∀ y v c, cl.lookup y = some c → ρ.lookup y = some v → ρ₀.lookup y = some v)
    (hρ' : ∀ y v, ρ₀.lookup y = some v → ρ.lookup y = some v ∧ ∃ c, cl.lookup y = some c)
    (h : EV C (eval iter C.env) ρ φ fun a φ₁ => ∃ l items, a = .ref l ∧ φ₁ l = some (.list items) ∧ items.length ≤ 1000000 ∧
      (∀ Ca D out, φ₁ D = none → Gd (compFC C scope cl Ca) n → ∀ v ∈ items, ∀ ρ', Sub ρ₀ ρ' →
        Tests (compFC C scope cl Ca) ifs ((x, v) :: ρ') (upd φ₁ D (.list out)) (fun b φ' => φ' = upd φ₁ D (.list out) ∧ b = p v) ∧
        (p v = true → EV (compFC C scope cl Ca) (eval elt (compFC C scope cl Ca).env) ((x, v) :: ρ') (upd φ₁ D (.list out)) fun y φ'' => φ'' = upd φ₁ D (.list out) ∧ y = f v)) ∧
      (∀ D, φ₁ D = none → Q (.ref D) (upd φ₁ D (.list ((items.filter p).map f)))))
    (G : Gd C n := by assumption) (hcell : ∀ y ∈ scope.names, y.2 ≠ .cell := by decide) (hkind : scope.kind = .function := by with_unfolding_all rfl)
    (hnames : ∀ y ∈ scope.names, y.2 = .local → scope.names.lookup y.1 = some .local := by decide) (hx : scope.names.lookup x = some .local := by with_unfolding_all rfl) (hxc : cl.lookup x = none := by with_unfolding_all rfl) (hx0 : ρ₀.lookup x = none := by with_unfolding_all rfl)
    (hs : ∀ x, foldedSetIterable iter C.env x = pure x := by intro _; with_unfolding_all rfl) : EV C (eval (.ListComp elt [⟨.Name x px, iter, ifs, 0⟩] scope pos) C.env) ρ φ Q := by
  intro fz s S
  rw [eval_ListComp]
  refine wpAny_comprehension_free (use := none) rfl hs hclos hkind hnames (wpAny_mono (h fz s S) (fun v s₁ => ?_) fun _ _ x => x)
  rintro ⟨a, φ₁, hr, ⟨⟨m, ψ, H⟩, g, o⟩, l, items, rfl, hl, hz, hpe, hq⟩
  cases hr
  obtain ⟨vs, k, c1, c2, c3⟩ := list_of H hl
  refine wpAny_pyIter_list c1.isList ?_
  generalize hh1 : s₁.heap.push { cls := .type "list_iterator", data := .fields #[.ref l, .int 0 0] } = h1
  refine wpAny_newObj_type (wpAny_newFunctionEnv hcell (by intro y hy; simp at hy) (fun h3 hns hsb => ?_) hkind)
  dsimp only at hns hsb ⊢
  generalize hh2 : h1.push { cls := .type "list", dict := none, data := .seq ([] : List Value).toArray } = h2 at hns hsb
  have z1 : h1.objs.size = s₁.heap.objs.size + 1 := by rw [← hh1, Heap.size_push]
  have z2 : h2.objs.size = h1.objs.size + 1 := by rw [← hh2, Heap.size_push]
  have k1 : ∀ b ob, s₁.heap.get? b = some ob → h1.get? b = some ob := fun b ob e => hh1 ▸ Heap.get?_push_of_some _ e
  have k2 : ∀ b ob, h1.get? b = some ob → h2.get? b = some ob := fun b ob e => hh2 ▸ Heap.get?_push_of_some _ e
  have k3 : ∀ b ob, h2.get? b = some ob → h3.get? b = some ob := fun b ob e => hsb.extBut b ob (Nat.ne_of_lt (Heap.lt_size e)) (Heap.get?_push_of_some _ e)
  have ei : h3.get? s₁.heap.objs.size = some { cls := .type "list_iterator", data := .fields #[.ref l, .int 0 0] } := k3 _ _ (k2 _ _ (hh1 ▸ Heap.get?_push_size _ rfl))
  have eD : h3.get? h1.objs.size = some { cls := .type "list", data := .seq #[] } := k3 _ _ (hh2 ▸ Heap.get?_push_size _ rfl)
  have n0 : ∀ b, s₁.heap.objs.size ≤ b → s₁.heap.get? b = none := fun b hb => old_none hb
  have lowL := H.low
  -- the heap part
  have K1 := H.ok.grow (h' := h1) k1
  have K2 : HOk C.W fz (upd φ₁ h1.objs.size (.list [])) ψ h3 := K1.new (o' := .list []) trivial (by omega) (old_none (Nat.le_refl _)) (fun b ob e => k3 _ _ (k2 _ _ e)) ⟨#[], 0, eD, .nil⟩
  have nD : φ₁ h1.objs.size = none := (H.ok.none_of (n0 _ (by omega))).1
  have nmine : ∀ b, s₁.heap.objs.size ≤ b → ¬ C.mine b := fun b hb q => by obtain ⟨ob, e⟩ := H.old q; rw [n0 b hb] at e; cases e
  have ncov : ∀ b, C.mine b → ¬ cov (upd φ₁ h1.objs.size (.list [])) ψ b := by
    rintro b hb (⟨y, e⟩ | ⟨c, K, fs, e, z⟩)
    · by_cases q : b = h1.objs.size
      · have t : s₁.heap.objs.size ≤ h1.objs.size := by omega
        exact nmine b (q ▸ t) hb
      · rw [upd_ne q] at e; exact (H.apart b hb).1 (.inl ⟨y, e⟩)
    · by_cases q : c = h1.objs.size
      · subst q; rw [upd_self] at e; cases e
      · rw [upd_ne q] at e; exact (H.apart b hb).1 (.inr ⟨c, K, fs, e, z⟩)
  have covlt : ∀ b, cov (upd φ₁ h1.objs.size (.list [])) ψ b → b = h1.objs.size ∨ b < s₁.heap.objs.size := by
    rintro b (⟨y, e⟩ | ⟨c, K, fs, e, z⟩)
    · by_cases q : b = h1.objs.size
      · exact .inl q
      · rw [upd_ne q] at e; obtain ⟨ob, e⟩ := H.ok.there (.inl ⟨y, e⟩); exact .inr (Heap.lt_size e)
    · by_cases q : c = h1.objs.size
      · subst q; rw [upd_self] at e; cases e
      · rw [upd_ne q] at e; obtain ⟨ob, e⟩ := H.ok.there (.inr ⟨c, K, fs, e, z⟩); exact .inr (Heap.lt_size e)
  -- the inner frame
  have G' : Gd (compFC C scope cl h2.objs.size) n := ⟨G.ok, G.room, by show (relabel scope C.env).kind = _; exact hkind, G.gl, G.bi,
    fun y c e => ⟨fun q => nmine h2.objs.size (by omega) (.inr ⟨y, by rw [← (show c = h2.objs.size from q)]; exact hcl y c e⟩), (G.clL y c (hcl y c e)).2⟩, fun y y' c e e' => G.cl1 y y' c (hcl y c e) (hcl y' c e')⟩
  classical
  let fz' : Addr → Option Obj := fun b => if (compFC C scope cl h2.objs.size).mine b then none else C.hold fz s₁.heap b
  have hold3 : ∀ b ob, C.hold fz s₁.heap b = some ob → h3.get? b = some ob ∧ ¬ cov (upd φ₁ h1.objs.size (.list [])) ψ b := fun b ob e => by
    unfold FC.hold at e
    split at e
    · rename_i hb; exact ⟨k3 _ _ (k2 _ _ (k1 _ _ e)), ncov b hb⟩
    · exact K2.frz b ob e
  have SC : StC (compFC C scope cl h2.objs.size) fz' ρ₀ (upd φ₁ h1.objs.size (.list [])) (fun x => List.lookup x []) ψ h3 := by
    refine ⟨⟨hns, K2.keep, by show C.W.g.objs.size ≤ h2.objs.size; omega⟩, K2.agree (fun b _ => rfl) K2.keep fun b ob e => ?_, fun b hb => ⟨?_, if_pos hb⟩, fun y v e q => ?_, fun y v c e q => ?_, fun y c q => ?_⟩
    · have e : (if (compFC C scope cl h2.objs.size).mine b then none else C.hold fz s₁.heap b) = some ob := e
      split at e
      · cases e
      · exact hold3 b ob e
    · rcases hb with rfl | ⟨y, hy⟩
      · intro q
        rcases covlt _ q with z | z
        · have z : h2.objs.size = h1.objs.size := z
          omega
        · have z : h2.objs.size < s₁.heap.objs.size := z
          omega
      · exact ncov b (.inr ⟨y, hcl y b hy⟩)
    · obtain ⟨_, c, hc⟩ := hρ' y v e
      rw [show (compFC C scope cl h2.objs.size).cl.lookup y = cl.lookup y from rfl, hc] at q; cases q
    · obtain ⟨e1, _⟩ := hρ' y v e
      obtain ⟨u, ⟨ob, a, d⟩, b⟩ := H.cel y v c e1 (hcl y c q)
      exact ⟨u, ⟨ob, k3 _ _ (k2 _ _ (k1 _ _ a)), d⟩, b⟩
    · obtain ⟨u, ⟨ob, a, d⟩⟩ := H.there y c (hcl y c q)
      exact ⟨u, ⟨ob, k3 _ _ (k2 _ _ (k1 _ _ a)), d⟩⟩
  have nit : ¬ cov (upd φ₁ h1.objs.size (.list [])) ψ s₁.heap.objs.size := fun q => by
    rcases covlt _ q with z | z
    · have z : s₁.heap.objs.size = h1.objs.size := z
      omega
    · exact absurd z (Nat.lt_irrefl _)
  have nmi : ¬ (compFC C scope cl h2.objs.size).mine s₁.heap.objs.size := by
    rintro (q | ⟨y, q⟩)
    · have : s₁.heap.objs.size = h2.objs.size := q; omega
    · exact nmine _ (Nat.le_refl _) (.inr ⟨y, hcl y _ q⟩)
  have hfzi : fz' s₁.heap.objs.size = none := by
    show (if (compFC C scope cl h2.objs.size).mine s₁.heap.objs.size then none else C.hold fz s₁.heap s₁.heap.objs.size) = none
    rw [if_neg nmi]
    cases q : C.hold fz s₁.heap s₁.heap.objs.size with
    | none => rfl
    | some ob =>
      unfold FC.hold at q
      rw [if_neg (nmine _ (Nat.le_refl _))] at q
      have := (H.ok.frz _ _ q).1
      rw [n0 _ (Nat.le_refl _)] at this; cases this
  have loop : ∀ s₃ : Shared, s₃ = ⟨h3, s₁.gens, s₁.drawn, s₁.toks + ([] : List (Str × Value)).length, s₁.os⟩ →
      codeAny C.M C.A (.compLoop (.ListComp elt [⟨.Name x px, iter, ifs, 0⟩] scope pos) 0 (.ref s₁.heap.objs.size) (.ref h1.objs.size) (compEnvC scope cl h2.objs.size C.env))
        (compPost C.M C.A NoE none (PW C AV.is fz ρ Q) (.ref h1.objs.size) h2.objs.size) s₃ := by
    rintro s₃ rfl
    have hlup : ∀ out, upd φ₁ h1.objs.size (.list out) l = some (.list items) := fun out => by
      rw [upd_ne]
      · exact hl
      · intro z; rw [z, nD] at hl; cases hl
    have W := comp_loop (C := compFC C scope cl h2.objs.size) (n := n) (elt := elt) (iter := iter) (px := px) (pos := pos) (scope := scope) (ifs := ifs) (D := h1.objs.size) (φ₁ := φ₁) (ρ₀ := ρ₀) (x := x) (it := s₁.heap.objs.size) (l := l) (items := items) p f G' lowL (lookup_relabel_local hx) hxc hz hlup
      (fun v hv out ρ' hsub => (hpe h2.objs.size h1.objs.size out nD G' v hv ρ' hsub).1) (fun v hv hpv out ρ' hsub => (hpe h2.objs.size h1.objs.size out nD G' v hv ρ' hsub).2 hpv) hx0
      (fz := fz') (s := ⟨h3, s₁.gens, s₁.drawn, s₁.toks + ([] : List (Str × Value)).length, s₁.os⟩) (i := 0) (out := []) (ρ' := ρ₀) ⟨rfl, rfl⟩ ⟨⟨_, ψ, SC.freeze ei nit nmi⟩, g, o⟩ (Sub.refl _) rfl (Nat.zero_le _) hfzi
    refine codeAny_mono W fun r s' z => ?_
    obtain ⟨rfl, ρ', hsub, ⟨m', ψ', H'⟩, g', o'⟩ := z
    refine ⟨m', H'.fr.ns, fun h' hsb' => ⟨.ref h1.objs.size, _, rfl, ⟨⟨m, ψ', ?_⟩, g', o'⟩, hq _ nD⟩⟩
    have hCa : ¬ cov (upd φ₁ h1.objs.size (.list ((items.filter p).map f))) ψ' h2.objs.size ∧ fz' h2.objs.size = none := H'.apart _ (.inl rfl)
    have K' : HOk C.W fz' (upd φ₁ h1.objs.size (.list ((items.filter p).map f))) ψ' h' := H'.ok.agree (fun b c => hsb'.2 b fun z => hCa.1 ((show b = h2.objs.size from z) ▸ c))
      (fun b ob e => (hsb'.2 b fun z => by
        have t : h2.objs.size < C.W.g.objs.size := (show b = h2.objs.size from z) ▸ Heap.lt_size e
        have u : C.W.g.objs.size ≤ s₁.heap.objs.size := lowL
        omega).trans (H'.fr.keep b ob e))
      fun b ob e => ⟨(hsb'.2 b fun z => by rw [show b = h2.objs.size from z, hCa.2] at e; cases e).trans (H'.ok.frz b ob e).1, (H'.ok.frz b ob e).2⟩
    have keepCell : ∀ y c ov, cl.lookup y = some c → s'.heap.IsCell c ov → h'.IsCell c ov := fun y c ov hy hc => hc.sameBut hsb' (G'.clL y c hy).1
    refine H.back (ρ₀ := ρ₀) (cl := cl) K' (fun b hb ob e => ?_) hcl (fun y c hy => (H'.apart c (.inr ⟨y, hy⟩)).1) (fun y v c e q => ?_) (fun y c q => ?_) hρ G.cl1 (fun y c e => (G.clL y c e).1)
    · show (if (compFC C scope cl h2.objs.size).mine b then none else C.hold fz s₁.heap b) = some ob
      rw [if_neg, e]
      rintro (q | ⟨y, q⟩)
      · have q : b = h2.objs.size := q
        unfold FC.hold at e
        rw [q, if_neg (nmine _ (by omega))] at e
        have := (H.ok.frz _ _ e).1
        rw [n0 _ (by omega)] at this; cases this
      · exact hb y q
    · obtain ⟨u, hu, hi⟩ := H'.cel y v c (hsub y v e) q
      exact ⟨u, keepCell y c _ q hu, hi⟩
    · obtain ⟨ov, hu⟩ := H'.there y c q
      exact ⟨ov, keepCell y c _ q hu⟩
  exact codeAny_compStart_list (loop _ rfl) (wpAny_pyIter_listiter ⟨_, ei, rfl, rfl⟩ (loop _ rfl))
end
end Mine

open PySem PySem.W PyProof.Rows PySem.Calls PySem.MeetsSeq PySem.MeetsSeq2 PySem.MeetsSeq3
set_option Elab.async false
set_option maxRecDepth 100000
set_option linter.unusedVariables false
namespace Mine

theorem lookup_snoc {α : Type} (x y : Str) (v : α) : ∀ l : List (Str × α), (l ++ [(y, v)]).lookup x = match l.lookup x with | some u => some u | none => if x = y then some v else none
  | [] => by
    rw [List.nil_append, List.lookup_cons]
    by_cases z : x = y
    · subst z; rw [beq_self_eq_true]; simp
    · have : (x == y) = false := by simpa using z
      rw [this]; simp [z]
  | (k, w) :: r => by
    rw [List.cons_append, List.lookup_cons, List.lookup_cons]
    cases q : (x == k) with
    | true => rfl
    | false => exact lookup_snoc x y v r
theorem bindL_eq (kd : Str → Option NameKind) (x : Str) : ∀ (bs : List (Str × Value)) (m : Str → Option Value), kd x = some .local → bindL kd bs m x = match bs.reverse.lookup x with | some u => some u | none => m x
  | [], m, _ => rfl
  | (n, v) :: r, m, h => by
    unfold bindL
    rw [bindL_eq kd x r _ h, List.reverse_cons, lookup_snoc]
    cases r.reverse.lookup x with
    | some u => rfl
    | none =>
      dsimp only
      by_cases z : x = n
      · subst z; rw [if_pos h]; simp
      · rw [if_neg z]; split
        · simp [z]
        · rfl
theorem bindC_eq (kd : Str → Option NameKind) (x : Str) : ∀ (bs : List (Str × Value)) (m : Str → Option Value), kd x ≠ some .local → bindC kd bs m x = match bs.reverse.lookup x with | some u => some u | none => m x
  | [], m, _ => rfl
  | (n, v) :: r, m, h => by
    unfold bindC
    rw [bindC_eq kd x r _ h, List.reverse_cons, lookup_snoc]
    cases r.reverse.lookup x with
    | some u => rfl
    | none =>
      dsimp only
      by_cases z : x = n
      · subst z; rw [if_neg h]; simp
      · rw [if_neg z]; split
        · rfl
        · simp [z]
theorem lookup_mem {α : Type} {x : Str} {v : α} : ∀ {l : List (Str × α)}, l.lookup x = some v → x ∈ l.map (·.1)
  | (k, w) :: r, e => by
    rw [List.lookup_cons] at e
    cases q : (x == k) with
    | true => rw [beq_iff_eq.mp q]; simp
    | false => rw [q] at e; simp only [List.map_cons, List.mem_cons]; exact .inr (lookup_mem e)

/-- a def with cells -/
theorem spec_defC {W : Wd} (ok : W.Ok) {lvl : Nat} {f : Addr} {qual : Str} {st : Stmt} {names : List Str} {as : List AV} {φ : AH} {Q : AV → AH → Prop} (hf : FnAt W.K f qual st)
    (hb : ∀ name doc pm an cdv ct (vs : List Value), vs.length = as.length → bindArgs (fnOf name qual (dArgs st) (dBody st) (dScope st) .none .none doc pm an cdv ct) ⟨vs, []⟩ = pure (names.zip vs))
    (hl : ∀ n, (names.all fun y => ((dScope st).names.lookup y == some .local && (cellsFrom n (dScope st).names []).lookup y == none) || ((dScope st).names.lookup y == some .cell && ((cellsFrom n (dScope st).names []).lookup y).isSome)) = true)
    (h : ∀ A L cd, Gd ⟨W, A, envX qual (dScope st) L f cd (cellsFrom (L + 1) (dScope st).names [])⟩ lvl → ∀ R, Imp (Post Q) R → XS ⟨W, A, envX qual (dScope st) L f cd (cellsFrom (L + 1) (dScope st).names [])⟩ (execs (dBody st) (envX qual (dScope st) L f cd (cellsFrom (L + 1) (dScope st).names []))) (names.zip as).reverse φ R)
    (hk : (dScope st).kind = .function := by rfl) (hco : (dScope st).isCoroutine = false := by rfl) (hgen : (dScope st).isGenerator = false := by rfl) : Spec W (lvl + 1) f as φ Q := by
  intro A r vs hv fz s S
  obtain ⟨oc, od, osl, name, doc, pm, an, cdv, ct, ho, hcd⟩ := hf
  obtain ⟨⟨ψ, K⟩, hsz, g, o⟩ := id S
  have X : W.K.In s.heap := ok.X.keeps K.keep
  have kind : ∀ n, ∀ x ∈ names.zip vs, ((dScope st).names.lookup x.1 = some .local ∧ (cellsFrom n (dScope st).names []).lookup x.1 = none) ∨ ((dScope st).names.lookup x.1 = some .cell ∧ ((cellsFrom n (dScope st).names []).lookup x.1).isSome = true) := fun n x hx => by
    have := List.all_eq_true.mp (hl n) x.1 (List.of_mem_zip hx).1
    simpa using this
  refine codeAny_call_cells (fd := fnOf name qual (dArgs st) (dBody st) (dScope st) .none .none doc pm an cdv ct) (body := dBody st) (binds := names.zip vs) (by have := r.d; omega) (X _ _ ho) rfl (ok.T.nolimit.keeps K.keep) (codeRec_of X hcd) rfl
    (hb name doc pm an cdv ct vs hv.length.symm) rfl (fun x hx => (kind _ x hx).imp (·.1) id) (fun s₁ x => ?_) hco hgen hk
  have ab : ∀ y c, (cellsFrom (s.heap.objs.size + 1) (dScope st).names []).lookup y = some c → s.heap.objs.size < c := fun y c e => x.above y c (mem_of_lookup e)
  have G : Gd ⟨W, A.deeper (envX qual (dScope st) s.heap.objs.size f cdv (cellsFrom (s.heap.objs.size + 1) (dScope st).names [])), envX qual (dScope st) s.heap.objs.size f cdv (cellsFrom (s.heap.objs.size + 1) (dScope st).names [])⟩ lvl :=
    ⟨ok, r.deeper, hk, rfl, rfl, fun y c e => ⟨Nat.ne_of_gt (ab y c e), Nat.le_trans hsz (Nat.le_of_lt (ab y c e))⟩, fun y z c e e' => name_of_addr x.apart (mem_of_lookup e) (mem_of_lookup e')⟩
  obtain ⟨h₁, tk, rfl, hk₁⟩ := x.done
  have K' := K.grow hk₁
  have hmine : ∀ b, FC.mine ⟨W, A.deeper (envX qual (dScope st) s.heap.objs.size f cdv (cellsFrom (s.heap.objs.size + 1) (dScope st).names [])), envX qual (dScope st) s.heap.objs.size f cdv (cellsFrom (s.heap.objs.size + 1) (dScope st).names [])⟩ b → s.heap.objs.size ≤ b := by
    rintro b (rfl | ⟨y, q⟩)
    · exact Nat.le_refl _
    · exact Nat.le_of_lt (ab y b q)
  have rel := (hv.zip_rel (names := names)).reverse
  have SC : StC ⟨W, A.deeper (envX qual (dScope st) s.heap.objs.size f cdv (cellsFrom (s.heap.objs.size + 1) (dScope st).names [])), envX qual (dScope st) s.heap.objs.size f cdv (cellsFrom (s.heap.objs.size + 1) (dScope st).names [])⟩ fz (names.zip as).reverse φ
      (bindL (fun y => (dScope st).names.lookup y) (names.zip vs) fun _ => none) ψ h₁ := by
    refine ⟨⟨x.toInCall.ns, K'.keep, hsz⟩, K', fun b hb => ⟨(K.none_of (old_none (hmine b hb))).2.2, (K.none_of (old_none (hmine b hb))).2.1⟩, fun y v e q => ?_, fun y v c e q => ?_, fun y c q => ⟨_, x.cell y c q⟩⟩
    · obtain ⟨u, hu, hi⟩ := rel.lookup_rel e
      have hm : y ∈ (names.zip vs).map (·.1) := by have := lookup_mem hu; simpa using this
      obtain ⟨p, hp, rfl⟩ := List.mem_map.mp hm
      rcases kind _ p hp with ⟨k1, k2⟩ | ⟨k1, k2⟩
      · exact ⟨u, by rw [bindL_eq _ _ _ _ k1, hu], hi⟩
      · rw [show (cellsFrom (s.heap.objs.size + 1) (dScope st).names []).lookup p.1 = none from q] at k2; cases k2
    · obtain ⟨u, hu, hi⟩ := rel.lookup_rel e
      have hm : y ∈ (names.zip vs).map (·.1) := by have := lookup_mem hu; simpa using this
      obtain ⟨p, hp, rfl⟩ := List.mem_map.mp hm
      rcases kind _ p hp with ⟨k1, k2⟩ | ⟨k1, k2⟩
      · rw [show (cellsFrom (s.heap.objs.size + 1) (dScope st).names []).lookup p.1 = some c from q] at k2; cases k2
      · have hc := x.cell p.1 c q
        rw [bindC_eq _ _ _ _ (fun z => by have z : (dScope st).names.lookup p.1 = some .local := z; rw [k1] at z; cases z), hu] at hc
        exact ⟨u, hc, hi⟩
  refine wpAny_mono (h _ _ cdv G _ (Imp.refl _) fz ⟨h₁, s.gens, s.drawn, _, s.os⟩ ⟨⟨_, ψ, SC⟩, g, o⟩) (fun fl s' => ?_) fun _ _ x => x.elim
  rintro ⟨b, ρ', φ', hb, ⟨⟨m', ψ', H'⟩, g', o'⟩, q⟩
  cases b with
  | next => cases hb; exact ⟨.none, φ', rfl, ⟨⟨ψ', H'.ok⟩, H'.low, g', o'⟩, q⟩
  | brk => exact q.elim
  | cont => exact q.elim
  | ret v => obtain ⟨u, rfl, hu⟩ := hb; exact ⟨v, φ', hu, ⟨⟨ψ', H'.ok⟩, H'.low, g', o'⟩, q⟩
end Mine

open PySem PySem.W PyProof.Rows PySem.Calls PySem.MeetsSeq PySem.MeetsSeq2 PySem.MeetsSeq3
set_option Elab.async false
set_option maxRecDepth 100000
set_option linter.unusedVariables false
namespace Mine
section
variable {C : FC} {ρ : Loc} {φ : AH} {n : Nat} {R : AF → Loc → AH → Prop} {P : Loc → AH → Prop} {Q : AV → AH → Prop}

theorem St.new' {fz : Addr → Option Obj} {s : Shared} {m ψ h'} (H : StC C fz ρ φ m ψ s.heap) (hg : s.gens = C.W.gens) (ho : s.os = C.W.os) {a : Addr} {o' : AO} (hn' : o'.notInst) (e : s.heap.get? a = none) (low : C.W.g.objs.size ≤ a) (hk : ∀ b o, s.heap.get? b = some o → h'.get? b = some o) (hc : Cell C.W.prog C.W.w h' ψ a o') {d : Drawn} {t : Nat} :
    φ a = none ∧ St C fz ρ (upd φ a o') ⟨h', s.gens, d, t, s.os⟩ := by
  refine ⟨(H.ok.none_of e).1, St.frame H hg ho (H.ok.new hn' low e hk hc) (fun b hb => by obtain ⟨o, q⟩ := H.old hb; rw [hk _ _ q, q]) ?_⟩
  rintro b hb (⟨x, z⟩ | ⟨c, D, gs, z, y⟩)
  · by_cases q : b = a
    · obtain ⟨o, w⟩ := H.old hb; rw [q, e] at w; cases w
    · rw [upd_ne q] at z; exact (H.apart b hb).1 (.inl ⟨_, z⟩)
  · by_cases q : c = a
    · subst q; rw [upd_self] at z; injection z with z; subst z; exact hn'.elim
    · rw [upd_ne q] at z; exact (H.apart b hb).1 (.inr ⟨c, D, gs, z, y⟩)
theorem AreP.keys {K : Type} {l : List (K × AV)} {kvs : List (K × Value)} (h : AreP l kvs) : kvs.map (·.1) = l.map (·.1) := by
  induction h with
  | nil => rfl
  | cons hr _ ih => rw [List.map_cons, List.map_cons, ih, hr.1]
/-- dict displays -/
theorem ev_dict0 {pos : Pos} (q : ∀ d ep, φ d = none → Q (.ref d) (upd φ d (.idict [] ep))) : EV C (eval (.Dict [] [] pos) C.env) ρ φ Q :=
  WPx.of fun fz s m ψ H g o => by
    have e0 := Heap.DictOf.new (knd := intKind C.W.prog C.W.w) s.heap
    obtain ⟨ep, e1⟩ := e0.dictAt
    obtain ⟨h1, h2⟩ := St.new (a := s.heap.objs.size) (h' := s.heap.push { cls := .type "dict", data := .dict #[] }) (o' := .idict [] ep) (d := s.drawn) (t := s.toks) H g o trivial (Nat.le_refl _) (fun b o e => Heap.get?_push_of_some _ e)
      ⟨[], e1, .nil⟩
    exact wpAny_Dict_empty ⟨.ref _, _, rfl, h2, q _ _ h1⟩
abbrev EP (C : FC) (t : Sem (List (Value × Value))) (ρ : Loc) (φ : AH) (R : List (AV × AV) → AH → Prop) : Prop := WPx C t (Are fun p q => p.1.is q.1 ∧ p.2.is q.2) ρ φ R
theorem ep_nil {pos : Pos} {ks : List (Option Expr)} {R : List (AV × AV) → AH → Prop} (q : R [] φ) : EP C (evalPairs (pairTrees [] [] C.env pos)) ρ φ R := fun fz s S => evalPairs_nil ⟨[], φ, .nil, S, q⟩
theorem ep_cons {k v : Expr} {ks : List (Option Expr)} {vs : List Expr} {pos : Pos} {R : List (AV × AV) → AH → Prop}
    (h : EV C (eval k C.env) ρ φ fun a φ₁ => EV C (eval v C.env) ρ φ₁ fun b φ₂ => EP C (evalPairs (pairTrees ks vs C.env pos)) ρ φ₂ fun l φ₃ => R ((a, b) :: l) φ₃) : EP C (evalPairs (pairTrees (some k :: ks) (v :: vs) C.env pos)) ρ φ R := by
  intro fz s S
  refine evalPairs_cons (wpAny_mono (h fz s S) (fun a s₁ => ?_) fun _ _ x => x)
  rintro ⟨a', φ₁, ha, S₁, q⟩
  refine wpAny_bind (wpAny_mono (q fz s₁ S₁) (fun b s₂ => ?_) fun _ _ x => x)
  rintro ⟨b', φ₂, hb, S₂, q⟩
  refine wpAny_bind (wpAny_standAt (wpAny_pure (wpAny_mono (q fz s₂ S₂) (fun l s₃ => ?_) fun _ _ x => x)))
  rintro ⟨l', φ₃, hl, S₃, q⟩
  exact ⟨(a', b') :: l', φ₃, .cons ⟨ha, hb⟩ hl, S₃, q⟩
theorem carries_int {prog : Program} {w : World} {l : List (Int × AV)} : ∀ {vs : List (Value × Value)}, Are (fun (p : AV × AV) (q : Value × Value) => p.1.is q.1 ∧ p.2.is q.2) (l.map fun p => (.int p.1, p.2)) vs → ∃ kvs, Carries (intKind prog w) vs kvs ∧ AreP l kvs ∧ kvs.map (·.1) = l.map (·.1) := by
  induction l with
  | nil => intro vs h; cases h; exact ⟨[], trivial, .nil, rfl⟩
  | cons p l ih =>
    intro vs h
    cases h with
    | @cons _ q _ _ h r =>
      obtain ⟨kvs, c1, c2, c3⟩ := ih r
      obtain ⟨⟨t, hk⟩, hv⟩ := h
      refine ⟨(p.1, q.2) :: kvs, ⟨?_, rfl, c1⟩, .cons ⟨rfl, hv⟩ c2, congrArg (p.1 :: ·) c3⟩
      rw [hk]; exact intKind_is _ _ _ _
theorem carries_str {prog : Program} {w : World} {l : List (Str × AV)} : ∀ {vs : List (Value × Value)}, Are (fun (p : AV × AV) (q : Value × Value) => p.1.is q.1 ∧ p.2.is q.2) (l.map fun p => (.str p.1, p.2)) vs → ∃ kvs, Carries (strKind prog w) vs kvs ∧ AreP l kvs ∧ kvs.map (·.1) = l.map (·.1) := by
  induction l with
  | nil => intro vs h; cases h; exact ⟨[], trivial, .nil, rfl⟩
  | cons p l ih =>
    intro vs h
    cases h with
    | @cons _ q _ _ h r =>
      obtain ⟨kvs, c1, c2, c3⟩ := ih r
      obtain ⟨⟨t, hk⟩, hv⟩ := h
      refine ⟨(p.1, q.2) :: kvs, ⟨?_, rfl, c1⟩, .cons ⟨rfl, hv⟩ c2, congrArg (p.1 :: ·) c3⟩
      rw [hk]; exact strKind_is _ _ _ _
theorem ev_dictI {keys : List (Option Expr)} {values : List Expr} {pos : Pos}
    (h : ∀ d ep, φ d = none → EP C (evalPairs (pairTrees keys values C.env pos)) ρ (upd φ d (.idict [] ep)) fun ps φ' => ∃ l ep', ps = l.map (fun p => (.int p.1, p.2)) ∧ φ' d = some (.idict [] ep') ∧ (l.map (·.1)).Nodup ∧ ∀ ep'', Q (.ref d) (upd φ' d (.idict l ep'')))
    (hall : keys.all (·.isSome) = true := by with_unfolding_all rfl) (hl : keys.length = values.length := by with_unfolding_all rfl) (h0 : keys ≠ [] := by exact List.cons_ne_nil _ _) (hlen : keys.length ≤ 15 := by decide) : EV C (eval (.Dict keys values pos) C.env) ρ φ Q :=
  WPx.of fun fz s m ψ H g o => by
    obtain ⟨ep, e1⟩ := (Heap.DictOf.new (knd := intKind C.W.prog C.W.w) s.heap).dictAt
    obtain ⟨h1, h2⟩ := St.new (a := s.heap.objs.size) (h' := s.heap.push { cls := .type "dict", data := .dict #[] }) (o' := .idict [] ep) (d := s.drawn) (t := s.toks) H g o trivial (Nat.le_refl _) (fun b o e => Heap.get?_push_of_some _ e)
      ⟨[], e1, .nil⟩
    refine wpAny_Dict_walk (knd := intKind C.W.prog C.W.w) hall hl h0 hlen (wpAny_mono (h _ _ h1 fz _ h2) (fun vs s₁ => ?_) fun _ _ x => x)
    rintro ⟨ps, φ', hr, ⟨⟨m', ψ', H'⟩, g', o'⟩, l, ep', rfl, e', hn, q⟩
    obtain ⟨kvs, c1, c2, c3⟩ := carries_int (prog := C.W.prog) (w := C.W.w) hr
    obtain ⟨kvs', d1, d2, d3⟩ := idict_of H' e'
    have : kvs' = [] := by cases kvs' with
      | nil => rfl
      | cons _ _ => cases d3
    subst this
    refine ⟨kvs, c1, d1.dictOf, fun h' hm hs => ?_⟩
    rw [merged_nil_of_nodup _ (by rw [c3]; exact hn)] at hm
    obtain ⟨ep'', hm'⟩ := hm.dictAt
    exact ⟨.ref _, _, rfl, St.put (o' := .idict l ep'') H' g' o' e' trivial trivial hs ⟨_, hm', c2⟩, q ep''⟩
theorem ev_dictS {keys : List (Option Expr)} {values : List Expr} {pos : Pos}
    (h : ∀ d, φ d = none → EP C (evalPairs (pairTrees keys values C.env pos)) ρ (upd φ d (.sdict [])) fun ps φ' => ∃ l, ps = l.map (fun p => (.str p.1, p.2)) ∧ φ' d = some (.sdict []) ∧ (l.map (·.1)).Nodup ∧ Q (.ref d) (upd φ' d (.sdict l)))
    (hall : keys.all (·.isSome) = true := by with_unfolding_all rfl) (hl : keys.length = values.length := by with_unfolding_all rfl) (h0 : keys ≠ [] := by exact List.cons_ne_nil _ _) (hlen : keys.length ≤ 15 := by decide) : EV C (eval (.Dict keys values pos) C.env) ρ φ Q :=
  WPx.of fun fz s m ψ H g o => by
    have e1 := Heap.DictOf.new (knd := strKind C.W.prog C.W.w) s.heap
    obtain ⟨h1, h2⟩ := St.new (a := s.heap.objs.size) (h' := s.heap.push { cls := .type "dict", data := .dict #[] }) (o' := .sdict []) (d := s.drawn) (t := s.toks) H g o trivial (Nat.le_refl _) (fun b o e => Heap.get?_push_of_some _ e)
      ⟨[], e1, .nil⟩
    refine wpAny_Dict_walk (knd := strKind C.W.prog C.W.w) hall hl h0 hlen (wpAny_mono (h _ h1 fz _ h2) (fun vs s₁ => ?_) fun _ _ x => x)
    rintro ⟨ps, φ', hr, ⟨⟨m', ψ', H'⟩, g', o'⟩, l, rfl, e', hn, q⟩
    obtain ⟨kvs, c1, c2, c3⟩ := carries_str (prog := C.W.prog) (w := C.W.w) hr
    obtain ⟨kvs', d1, d2, d3⟩ := sdict_of H' e'
    have : kvs' = [] := by cases kvs' with
      | nil => rfl
      | cons _ _ => cases d3
    subst this
    refine ⟨kvs, c1, d1, fun h' hm hs => ?_⟩
    rw [merged_nil_of_nodup _ (by rw [c3]; exact hn)] at hm
    exact ⟨.ref _, _, rfl, St.put (o' := .sdict l) H' g' o' e' trivial trivial hs ⟨_, hm, c2⟩, q⟩

/-- a < b <= c -/
theorem ev_chain {l r₁ r₂ : Expr} {op₁ op₂ : CmpOp} {pos : Pos}
    (h : EV C (eval l C.env) ρ φ fun a φ₁ => EV C (eval r₁ C.env) ρ φ₁ fun b φ₂ => Cmp C ρ op₁ a b φ₂ fun c φ₃ => Tru C ρ c φ₃ fun t φ₄ =>
      (t = true → EV C (eval r₂ C.env) ρ φ₄ fun d φ₅ => Cmp C ρ op₂ b d φ₅ Q) ∧ (t = false → Q c φ₄))
    (hm : lastMarks [op₁, op₂] [r₁, r₂] = false := by with_unfolding_all rfl) : EV C (eval (.Compare l [op₁, op₂] [r₁, r₂] pos) C.env) ρ φ Q := by
  intro fz s S
  refine Compare_chain (wpAny_mono (h fz s S) (fun v s₁ => ?_) fun _ _ x => x) hm
  rintro ⟨a, φ₁, ha, S₁, q⟩
  refine chain_link (wpAny_mono (q fz s₁ S₁) (fun u s₂ => ?_) fun _ _ x => x)
  rintro ⟨b, φ₂, hb, S₂, q⟩
  refine wpAny_mono (q v u ha hb fz s₂ S₂) (fun c s₃ => ?_) fun _ _ x => x
  rintro ⟨c', φ₃, hc, S₃, q⟩
  refine wpAny_mono (q c hc fz s₃ S₃) (fun t s₄ => ?_) fun _ _ x => x
  rintro ⟨t', φ₄, rfl, S₄, q⟩
  cases t' with
  | true =>
    rw [if_pos rfl]
    refine chain_last (wpAny_mono (q.1 rfl fz s₄ S₄) (fun d s₅ => ?_) fun _ _ x => x)
    rintro ⟨d', φ₅, hd, S₅, q⟩
    exact q u d hb hd fz s₅ S₅
  | false => rw [if_neg (by simp)]; exact ⟨c', φ₄, hc, S₄, q.2 rfl⟩

/-- slices -/
def Slc (C : FC) (ρ : Loc) (o l u : AV) (φ : AH) (Q : AV → AH → Prop) : Prop := ∀ ov lv uv, o.is ov → l.is lv → u.is uv → ∀ fz (s : Shared) m ψ, StC C fz ρ φ m ψ s.heap → ∃ a vs lo hi items, ov = .ref a ∧ s.heap.IsList a vs ∧ vs.size ≤ sizeLine ∧ IsPart lv lo ∧ IsPart uv hi ∧
  AreV items (slicePick vs lo hi none).toList ∧ ∀ d, φ d = none → Q (.ref d) (upd φ d (.list items))
theorem ep_none (q : Q .none φ) : EV C (evalPart none C.env) ρ φ Q := fun fz s S => evalPart_none_step ⟨.none, φ, rfl, S, q⟩
theorem ev_slice {value : Expr} {lower upper : Option Expr} {p pos : Pos} (h : EV C (eval value C.env) ρ φ fun o φ₁ => EV C (evalPart lower C.env) ρ φ₁ fun l φ₂ => EV C (evalPart upper C.env) ρ φ₂ fun u φ₃ => Slc C ρ o l u φ₃ Q)
    (ht : ∀ o r, letTemporaryGo value o r = pure () := by intro _ _; with_unfolding_all rfl) : EV C (eval (.Subscript value (.Slice lower upper none p) pos) C.env) ρ φ Q := by
  intro fz s S
  refine wpAny_Subscript_list_slice (wpAny_mono (h fz s S) (fun v s₁ => ?_) fun _ _ x => x) ht
  rintro ⟨a, φ₁, ha, S₁, q⟩
  refine wpAny_mono (q fz s₁ S₁) (fun u s₂ => ?_) fun _ _ x => x
  rintro ⟨b, φ₂, hb, S₂, q⟩
  refine wpAny_mono (q fz s₂ S₂) (fun c s₃ => ?_) fun _ _ x => x
  rintro ⟨c', φ₃, hc, ⟨⟨m, ψ, H⟩, g, o⟩, q⟩
  obtain ⟨l, vs, lo, hi, items, rfl, hl, hsz, pl, pu, hp, q⟩ := q v u c ha hb hc fz s₃ m ψ H
  refine ⟨l, vs, lo, hi, rfl, hl, hsz, pl, pu, ?_⟩
  have hk : ∀ b ob, s₃.heap.get? b = some ob → ((s₃.heap.push { cls := .type "slice", data := .fields #[u, c, .none] }).push { cls := .type "list", data := .seq (slicePick vs lo hi none) }).get? b = some ob := fun b ob e => Heap.get?_push_of_some _ (Heap.get?_push_of_some _ e)
  obtain ⟨h1, h2⟩ := St.new (a := s₃.heap.objs.size + 1) (o' := .list items) (d := s₃.drawn) (t := s₃.toks) H g o trivial (Nat.le_succ _) hk ⟨slicePick vs lo hi none, 0, by
    have := Heap.get?_push_size (s₃.heap.push { cls := .type "slice", data := .fields #[u, c, .none] }) (o := { cls := .type "list", data := .seq (slicePick vs lo hi none) }) rfl
    rwa [Heap.size_push] at this, hp⟩
  exact ⟨.ref _, _, rfl, h2, q _ h1⟩
theorem slc_upto {a : Addr} {l : List AV} {b : Nat} (e : φ a = some (.list l)) (q : ∀ d, φ d = none → Q (.ref d) (upd φ d (.list (l.take b)))) (hz : l.length ≤ 1000000) : Slc C ρ (.ref a) .none (.int b) φ Q := by
  rintro _ _ _ rfl rfl ⟨t, rfl⟩ fz s m ψ H
  obtain ⟨vs, k, c1, c2, c3⟩ := list_of H e
  exact ⟨a, vs, none, some (b : Int), l.take b, rfl, c1.isList, sizeLine_ok (by omega), .none, .int _ _, by rw [slicePick_upto']; exact c2.take b, q⟩
theorem slc_last {a : Addr} {l : List AV} {k : Nat} (e : φ a = some (.list l)) (q : ∀ d, φ d = none → Q (.ref d) (upd φ d (.list (l.drop (l.length - k))))) (hk : 1 ≤ k) (hz : l.length ≤ 1000000) : Slc C ρ (.ref a) (.int (-(k : Int))) .none φ Q := by
  rintro _ _ _ rfl ⟨t, rfl⟩ rfl fz s m ψ H
  obtain ⟨vs, j, c1, c2, c3⟩ := list_of H e
  exact ⟨a, vs, some (-(k : Int)), none, l.drop (l.length - k), rfl, c1.isList, sizeLine_ok (by omega), .int _ _, .none, by rw [slicePick_last _ _ hk, c3]; exact c2.drop _, q⟩
theorem ints_are {ns : List Int} {vs : List Value} (h : IntsAre vs ns) : AreV (ns.map .int) vs := by
  induction h with
  | nil => exact .nil
  | cons k t r ih => exact .cons ⟨t, rfl⟩ ih
theorem are_ints {ns : List Int} : ∀ {vs : List Value}, AreV (ns.map .int) vs → IntsAre vs ns := by
  induction ns with
  | nil => intro vs h; cases h; exact .nil
  | cons n ns ih =>
    intro vs h
    cases h with
    | cons h r => obtain ⟨t, hv⟩ := h; rw [hv]; exact .cons n t (ih r)
/-- the script's own list -/
theorem slc_base {a : Addr} {vs : List Value} {ns : List Int} {b : Nat} (hl : C.W.g.IsList a vs.toArray) (hi : IntsAre vs ns) (q : ∀ d, φ d = none → Q (.ref d) (upd φ d (.list ((ns.take b).map .int)))) (hz : ns.length ≤ 1000000) : Slc C ρ (.ref a) .none (.int b) φ Q := by
  rintro _ _ _ rfl rfl ⟨t, rfl⟩ fz s m ψ H
  have hlen := (ints_are hi).length
  rw [List.length_map] at hlen
  obtain ⟨o, ho, r⟩ := hl
  refine ⟨a, vs.toArray, none, some (b : Int), (ns.map .int).take b, rfl, ⟨o, H.fr.keep _ _ ho, r⟩, sizeLine_ok (by simp; omega), .none, .int _ _, by rw [slicePick_upto']; exact (ints_are hi).take b, ?_⟩
  rw [← List.map_take]; exact q

/-- lists of ints -/
theorem cmp_eqL {a b : Addr} {l k : List Int} (e : φ a = some (.list (l.map .int))) (e' : φ b = some (.list (k.map .int))) (q : Q (.bool (decide (l = k))) φ) (G : Gd C n := by assumption) : Cmp C ρ .Eq (.ref a) (.ref b) φ Q := by
  rintro _ _ rfl rfl
  refine WPx.of fun fz s m ψ H g o => ?_
  obtain ⟨vs, i, c1, c2, c3⟩ := list_of H e
  obtain ⟨us, j, d1, d2, d3⟩ := list_of H e'
  exact eq_intsK (by simpa using c1.isList) (are_ints c2) (by simpa using d1.isList) (are_ints d2) (by have := G.room.u; omega) ⟨.bool _, φ, rfl, St.mk' H g o, q⟩
theorem cmp_neL {a b : Addr} {l k : List Int} (e : φ a = some (.list (l.map .int))) (e' : φ b = some (.list (k.map .int))) (q : Q (.bool (!decide (l = k))) φ) (G : Gd C n := by assumption) : Cmp C ρ .NotEq (.ref a) (.ref b) φ Q := by
  rintro _ _ rfl rfl
  refine WPx.of fun fz s m ψ H g o => ?_
  obtain ⟨vs, i, c1, c2, c3⟩ := list_of H e
  obtain ⟨us, j, d1, d2, d3⟩ := list_of H e'
  exact ne_intsK (by simpa using c1.isList) (are_ints c2) (by simpa using d1.isList) (are_ints d2) (by have := G.room.u; omega) ⟨.bool _, φ, rfl, St.mk' H g o, q⟩
theorem cal_abs {a : Int} (q : Q (.int (if a < 0 then -a else a)) φ) : Cal C ρ (.raw (.builtin "abs")) [.int a] φ Q := by
  rintro _ _ rfl (_ | ⟨⟨t, rfl⟩, _ | _⟩)
  refine WPx.of fun fz s m ψ H g o => call_abs_int fun u tk => ⟨.int _, φ, ⟨_, rfl⟩, St.mk' H g o, q⟩
theorem cal_sorted_list {a : Addr} {l : List Int} (e : φ a = some (.list (l.map .int))) (hz : l.length < 64)
    (q : ∀ d (ns : List Int), φ d = none → ns.Perm l → ns.Pairwise (· ≤ ·) → Q (.ref d) (upd φ d (.list (ns.map .int)))) : Cal C ρ (.raw (.builtin "sorted")) [.ref a] φ Q := by
  rintro _ _ rfl (_ | ⟨rfl, _ | _⟩)
  refine WPx.of fun fz s m ψ H g o => ?_
  obtain ⟨vs, i, c1, c2, c3⟩ := list_of H e
  have hlen : vs.toList.length < 64 := by rw [← c2.length, List.length_map]; exact hz
  refine sorted_ints (vs := vs.toList) (by simpa using c1.isList) (are_ints c2) hlen fun out ns' h1 h2 h3 => ?_
  obtain ⟨ep, h4⟩ := sortedAll_at s.heap vs.toList out
  obtain ⟨z1, z2⟩ := St.new (a := s.heap.objs.size + 1) (o' := .list (ns'.map .int)) (d := s.drawn) (t := s.toks) H g o trivial (Nat.le_succ _) (fun b o e => sortedAll_old e) ⟨out, ep, h4, ints_are h1⟩
  exact ⟨.ref _, _, rfl, z2, q _ _ z1 h2 h3⟩
theorem sortedHeap_keep {h : Heap} {a b : Addr} {vs : List Value} {out : Array Value} {o : Obj} (hb : b ≠ a) (e : h.get? b = some o) : (sortedHeap h a vs out).get? b = some o := (sortedHeap_old hb (Heap.lt_size e)).trans e
theorem cal_sorted_dict {a : Addr} {l : List (Int × AV)} {ep : Nat} (e : φ a = some (.idict l ep)) (hz : l.length < 64)
    (q : ∀ d (ns : List Int), φ d = none → ns.Perm (l.map (·.1)) → ns.Pairwise (· ≤ ·) → Q (.ref d) (upd φ d (.list (ns.map .int)))) (G : Gd C n := by assumption) : Cal C ρ (.raw (.builtin "sorted")) [.ref a] φ Q := by
  rintro _ _ rfl (_ | ⟨rfl, _ | _⟩)
  refine WPx.of fun fz s m ψ H g o => ?_
  obtain ⟨kvs, c1, c2, c3⟩ := idict_of H e
  refine Calls.call_function_entry kind_sorted plain_sorted entry_sorted (args_sorted1 _) ?_
  unfold Builtin.«sorted»
  refine wpAny_bind (m := checkCount "sorted" 1 1 _) (wpAny_pure ?_)
  refine wpAny_bind (kdu_collect (kdl_dict (knd := intKind C.W.prog C.W.w) (kvs := kvs) (ep := ep) (H.lo G e)) (by show C.A.in1.handled = none; exact G.room.h) c1 (sizeLine_ok (by omega)) fun h' tk acc hk hacc => ?_)
  have hl : acc.toList.length = kvs.length := by rw [Array.length_toList]; exact hacc.1
  refine wpAny_bind (wpAny_newList ?_ (by rw [hl]; exact sizeLine_ok (by omega)))
  have hI : IntsAre acc.toList (kvs.map (·.1)) := by
    have : ∀ (ks : List (Int × Value)) (us : List Value), us.length = ks.length → (∀ (j : Nat) (v : Value), us[j]? = some v → ∃ k x, ks[j]? = some (k, x) ∧ (intKind C.W.prog C.W.w).is k v = true) → IntsAre us (ks.map (·.1)) := by
      intro ks
      induction ks with
      | nil => intro us hu _; cases us with
        | nil => exact .nil
        | cons _ _ => cases hu
      | cons p ks ih =>
        intro us hu hj
        cases us with
        | nil => cases hu
        | cons u us =>
          obtain ⟨k, x, e1, e2⟩ := hj 0 u rfl
          cases e1
          obtain ⟨t, rfl⟩ := Value.isInt_shape e2
          exact .cons _ _ (ih us (by simpa using hu) fun j v hv => hj (j + 1) v hv)
    exact this kvs acc.toList hl fun j v e => hacc.2 j v (by rw [← Array.getElem?_toList]; exact e)
  have hoL : (h'.push (seqObj "list" acc.toList.toArray 0)).get? h'.objs.size = some (seqObj "list" acc.toList.toArray 0) := Heap.get?_push_size _ rfl
  refine wpAny_bind (wpAny_holding (wpAny_call_entry slot_list_sort ⟨_, hoL, rfl⟩ entry_list_sort (list_sort_tree hoL hI (by rw [hl]; omega) fun out ns' h1 h2 h3 => ⟨_, rfl, ?_⟩) (args_list_sort _)))
  refine wpAny_pure ⟨_, rfl, ?_⟩
  obtain ⟨ep', h4⟩ := sortedHeap_at (out := out) hoL
  have hnone : s.heap.get? h'.objs.size = none := by
    cases z : s.heap.get? h'.objs.size with
    | none => rfl
    | some ob => exact absurd (Heap.lt_size (hk _ _ z)) (Nat.lt_irrefl _)
  have hlow : C.W.g.objs.size ≤ h'.objs.size := by
    obtain ⟨ob, _, e₁, _⟩ := c1
    exact Nat.le_trans (H.ok.own a (.inl ⟨_, e⟩)) (Nat.le_of_lt (Heap.lt_size (hk _ _ e₁)))
  obtain ⟨z1, z2⟩ := St.new' (a := h'.objs.size) (h' := sortedHeap (h'.push (seqObj "list" acc.toList.toArray 0)) h'.objs.size acc.toList out) (o' := .list (ns'.map .int)) (d := s.drawn) (t := tk) H g o trivial hnone hlow
    (fun b o e => sortedHeap_keep (Nat.ne_of_lt (Heap.lt_size (hk _ _ e))) (Heap.get?_push_of_some _ (hk _ _ e))) ⟨out, ep', h4, ints_are h1⟩
  refine ⟨.ref _, _, rfl, z2, q _ _ z1 (h2.trans ?_) h3⟩
  have : kvs.map (·.1) = l.map (·.1) := by
    exact AreP.keys c2
  rw [this]
end
end Mine

open PySem PySem.W PyProof.Rows PySem.Calls PySem.MeetsSeq PySem.MeetsSeq2 PySem.MeetsSeq3
set_option Elab.async false
set_option maxRecDepth 100000
set_option linter.unusedVariables false
namespace Mine

structure Rec where
  key : Int
  fn : Int
  term : AV
  ik : AV
  birth : Int
  death : Int
  next : Int
structure Prc where
  fn : Int
  kind : Str
  codes : AV
  terms : AV
  first : Int
  last : Int
structure Mdl where
  keys : List Int
  rc : Int → Rec
  nxt : Int
  gen : Int
  pks : List Int
  pr : Int → Prc
noncomputable def fset {β : Type} (f : Int → β) (k : Int) (v : β) : Int → β := fun j => if j = k then v else f j
theorem fset_self {β : Type} (f : Int → β) (k : Int) (v : β) : fset f k v k = v := if_pos rfl
theorem fset_ne {β : Type} {f : Int → β} {k j : Int} {v : β} (h : j ≠ k) : fset f k v j = f j := if_neg h
noncomputable def Mdl.setR (m : Mdl) (k : Int) (r : Rec) : Mdl := { m with rc := fset m.rc k r }
noncomputable def Mdl.setP (m : Mdl) (f : Int) (p : Prc) : Mdl := { m with pr := fset m.pr f p }
noncomputable def Mdl.new (m : Mdl) (fn : Int) (t i : AV) : Mdl := { m with keys := m.keys ++ [m.nxt], rc := fset m.rc m.nxt ⟨m.nxt, fn, t, i, m.gen + 1, -1, -1⟩, nxt := m.nxt + 1, gen := m.gen + 1 }
noncomputable def Mdl.nx (m : Mdl) : Int → Int := fun k => (m.rc k).next
noncomputable def vis (r : Rec) (g : Int) : Bool := decide (r.birth ≤ g) && (decide (r.death < 0) || decide (g < r.death))
noncomputable def liv (r : Rec) : Bool := decide (r.death < 0)

def Path (keys : List Int) (nx : Int → Int) : Int → List Int → Prop
  | p, [] => p < 0
  | p, k :: c => p = k ∧ 0 ≤ k ∧ k ∈ keys ∧ Path keys nx (nx k) c
def Seg (nx : Int → Int) : Int → List Int → Int → Prop
  | p, [], q => p = q
  | p, k :: c, q => p = k ∧ Seg nx (nx k) c q
theorem Seg.snoc {nx : Int → Int} : ∀ {c : List Int} {p q : Int}, Seg nx p c q → Seg nx p (c ++ [q]) (nx q)
  | [], p, q, h => ⟨h, rfl⟩
  | k :: c, p, q, h => ⟨h.1, Seg.snoc h.2⟩
theorem Seg.split {nx : Int → Int} {keys : List Int} : ∀ {c d : List Int} {p q : Int}, Seg nx p c q → Path keys nx p d → (∀ k ∈ c, 0 ≤ k) → ∃ d', d = c ++ d' ∧ Path keys nx q d'
  | [], d, p, q, h, hp, _ => ⟨d, rfl, (show p = q from h) ▸ hp⟩
  | k :: c, [], p, q, h, hp, h0 => by
    have h1 := h0 k (List.mem_cons_self ..)
    have h2 : p < 0 := hp
    have h3 := h.1
    omega
  | k :: c, j :: d, p, q, h, hp, h0 => by
    obtain ⟨h1, h2⟩ := h
    obtain ⟨p1, p2, p3, p4⟩ := hp
    subst h1 p1
    obtain ⟨d', e, hd⟩ := Seg.split h2 p4 fun x hx => h0 x (List.mem_cons_of_mem _ hx)
    exact ⟨d', by rw [e]; rfl, hd⟩
theorem Seg.path {nx : Int → Int} {keys : List Int} : ∀ {c : List Int} {p q : Int}, Seg nx p c q → q < 0 → (∀ k ∈ c, 0 ≤ k ∧ k ∈ keys) → Path keys nx p c
  | [], p, q, h, hq, _ => (show p = q from h) ▸ hq
  | k :: c, p, q, h, hq, h0 => ⟨h.1, (h0 k (List.mem_cons_self ..)).1, (h0 k (List.mem_cons_self ..)).2, Seg.path h.2 hq fun x hx => h0 x (List.mem_cons_of_mem _ hx)⟩
theorem Path.mem {keys : List Int} {nx : Int → Int} : ∀ {c : List Int} {p : Int}, Path keys nx p c → ∀ k ∈ c, 0 ≤ k ∧ k ∈ keys
  | [], _, _, k, hk => by cases hk
  | j :: c, p, h, k, hk => by
    rcases List.mem_cons.mp hk with rfl | hk
    · exact ⟨h.2.1, h.2.2.1⟩
    · exact Path.mem h.2.2.2 k hk
theorem Path.frame {keys keys' : List Int} {nx nx' : Int → Int} : ∀ {c : List Int} {p : Int}, Path keys nx p c → (∀ k ∈ c, nx' k = nx k ∧ k ∈ keys') → Path keys' nx' p c
  | [], _, h, _ => h
  | j :: c, p, h, hf => ⟨h.1, h.2.1, (hf j (List.mem_cons_self ..)).2, by rw [(hf j (List.mem_cons_self ..)).1]; exact Path.frame h.2.2.2 fun k hk => hf k (List.mem_cons_of_mem _ hk)⟩
theorem Path.first {keys : List Int} {nx : Int → Int} {c : List Int} {p : Int} (h : Path keys nx p c) : (0 ≤ p ↔ c ≠ []) ∧ (0 ≤ p → c.head? = some p) := by
  cases c with
  | nil => have : p < 0 := h; exact ⟨⟨fun z => by omega, fun z => absurd rfl z⟩, fun z => by omega⟩
  | cons k c => obtain ⟨h1, h2, _⟩ := h; exact ⟨⟨fun _ => by simp, fun _ => by omega⟩, fun _ => by simp [h1]⟩
theorem Path.seg {keys : List Int} {nx : Int → Int} : ∀ {c d : List Int} {p : Int}, Path keys nx p (c ++ d) → ∃ q, Seg nx p c q ∧ Path keys nx q d
  | [], d, p, h => ⟨p, rfl, h⟩
  | k :: c, d, p, h => by obtain ⟨q, h1, h2⟩ := Path.seg h.2.2.2; exact ⟨q, ⟨h.1, h1⟩, h2⟩
theorem Path.join {keys : List Int} {nx : Int → Int} : ∀ {c d : List Int} {p q : Int}, Seg nx p c q → (∀ k ∈ c, 0 ≤ k ∧ k ∈ keys) → Path keys nx q d → Path keys nx p (c ++ d)
  | [], d, p, q, h, _, hd => (show p = q from h) ▸ hd
  | k :: c, d, p, q, h, h0, hd => ⟨h.1, (h0 k (List.mem_cons_self ..)).1, (h0 k (List.mem_cons_self ..)).2, Path.join h.2 (fun x hx => h0 x (List.mem_cons_of_mem _ hx)) hd⟩
theorem Seg.frame {nx nx' : Int → Int} : ∀ {c : List Int} {p q : Int}, Seg nx p c q → (∀ k ∈ c, nx' k = nx k) → Seg nx' p c q
  | [], _, _, h, _ => h
  | j :: c, p, q, h, hf => ⟨h.1, by rw [hf j (List.mem_cons_self ..)]; exact Seg.frame h.2 fun k hk => hf k (List.mem_cons_of_mem _ hk)⟩

structure Good (m : Mdl) (ch : Int → List Int) : Prop where
  knd : m.keys.Nodup
  kin : ∀ k, k ∈ m.keys ↔ ∃ f ∈ m.pks, k ∈ ch f
  path : ∀ f ∈ m.pks, Path m.keys m.nx (m.pr f).first (ch f)
  last : ∀ f ∈ m.pks, (m.pr f).last = (ch f).getLastD (-1)
  nodup : ∀ f ∈ m.pks, (ch f).Nodup
  fn : ∀ f ∈ m.pks, ∀ k ∈ ch f, (m.rc k).fn = f
  key : ∀ k ∈ m.keys, (m.rc k).key = k
  born : ∀ k ∈ m.keys, 1 ≤ (m.rc k).birth ∧ (m.rc k).birth ≤ m.gen
  died : ∀ k ∈ m.keys, (m.rc k).death < 0 ∨ ((m.rc k).birth < (m.rc k).death ∧ (m.rc k).death ≤ m.gen)
  rng : ∀ k ∈ m.keys, 0 ≤ k ∧ k < m.nxt
  pfn : ∀ f ∈ m.pks, (m.pr f).fn = f
  kind : ∀ f ∈ m.pks, (m.pr f).kind ≠ "dynamic" → ch f = []
  pnd : m.pks.Nodup
  gen0 : 0 ≤ m.gen
  nxt0 : 0 ≤ m.nxt
def snd (m : Mdl) (k f : Int) : Prop := (m.rc k).key = k ∧ (m.rc k).fn = f ∧ 1 ≤ (m.rc k).birth ∧ (m.rc k).birth ≤ m.gen ∧ ((m.rc k).death < 0 ∨ ((m.rc k).birth < (m.rc k).death ∧ (m.rc k).death ≤ m.gen))
def Snd (m : Mdl) : Prop := ∀ f ∈ m.pks, ∃ c, Path m.keys m.nx (m.pr f).first c ∧ c.Nodup ∧ (∀ k ∈ c, snd m k f) ∧ (m.pr f).last = c.getLastD (-1) ∧ ((m.pr f).kind ≠ "dynamic" → c = [])
theorem Good.sound {m : Mdl} {ch : Int → List Int} (g : Good m ch) {f k : Int} (hf : f ∈ m.pks) (hk : k ∈ ch f) : k ∈ m.keys ∧ snd m k f := by
  have h := (g.kin k).mpr ⟨f, hf, hk⟩
  exact ⟨h, g.key k h, g.fn f hf k hk, (g.born k h).1, (g.born k h).2, g.died k h⟩
theorem Good.vis {m : Mdl} {ch : Int → List Int} (g : Good m ch) {k : Int} (h : k ∈ m.keys) : vis (m.rc k) m.gen = liv (m.rc k) := by
  have h1 := g.born k h
  have h2 := g.died k h
  unfold Mine.vis liv
  rcases h2 with h2 | h2
  · simp [h1.2, h2]
  · have e1 : ¬ (m.rc k).death < 0 := by omega
    have e2 : ¬ m.gen < (m.rc k).death := by omega
    simp [h1.2, e1, e2]

noncomputable def Mdl.setFirst (m : Mdl) (f v : Int) : Mdl := m.setP f { m.pr f with first := v }
noncomputable def Mdl.setLast (m : Mdl) (f v : Int) : Mdl := m.setP f { m.pr f with last := v }
noncomputable def Mdl.setNext (m : Mdl) (k v : Int) : Mdl := m.setR k { m.rc k with next := v }
/-- a new clause at the end -/
noncomputable def Mdl.app (m : Mdl) (f : Int) (t i : AV) : Mdl :=
  if (m.pr f).first < 0 then ((m.new (m.pr f).fn t i).setFirst f m.nxt).setLast f m.nxt else ((m.new (m.pr f).fn t i).setNext (m.pr f).last m.nxt).setLast f m.nxt
/-- a new clause at the front -/
noncomputable def Mdl.preEnd (m : Mdl) (f k : Int) : Mdl := (m.setNext k (m.pr f).first).setFirst f k
noncomputable def Mdl.pre (m : Mdl) (f : Int) (t i : AV) : Mdl :=
  if (m.pr f).first < 0 then ((m.new (m.pr f).fn t i).setLast f m.nxt).preEnd f m.nxt else (m.new (m.pr f).fn t i).preEnd f m.nxt
theorem Good.fresh {m : Mdl} {ch : Int → List Int} (g : Good m ch) : m.nxt ∉ m.keys := fun h => by have := g.rng _ h; omega
theorem getLastD_mem {c : List Int} (h : c ≠ []) (d : Int) : c.getLastD d ∈ c := by
  rw [List.getLastD_eq_getLast?, List.getLast?_eq_some_getLast h]
  exact List.getLast_mem h
theorem split_last {c : List Int} (h : c ≠ []) (d : Int) : ∃ c', c = c' ++ [c.getLastD d] := by
  refine ⟨c.dropLast, ?_⟩
  rw [List.getLastD_eq_getLast?, List.getLast?_eq_some_getLast h]
  exact (List.dropLast_concat_getLast h).symm
end Mine

open PySem PySem.W PyProof.Rows PySem.Calls PySem.MeetsSeq PySem.MeetsSeq2 PySem.MeetsSeq3
set_option Elab.async false
set_option maxRecDepth 100000
set_option linter.unusedVariables false
namespace Mine

noncomputable abbrev REC : Addr := 38
noncomputable abbrev PRO : Addr := 66
noncomputable abbrev STO : Addr := 157

def FldsOk (K : Frag) (D : Addr) : List Str → Prop
  | [] => True
  | x :: r => FldOk K D x ∧ FldsOk K D r
theorem FldsOk.at {K : Frag} {D : Addr} : ∀ {l : List Str} {x : Str} (i : Nat), FldsOk K D l → l[i]? = some x → FldOk K D x
  | [], x, i, h, e => by cases e
  | y :: l, x, 0, h, e => by cases e; exact h.1
  | y :: l, x, i + 1, h, e => FldsOk.at i h.2 (by simpa using e)
structure MthOk (K : Frag) (D : Addr) (x : Str) (f : Addr) : Prop where
  fi : findIn K (.ref D) x = some (some (.ref f))
  ht : isFn K (.ref f) = true
  hk : keepIn K (.ref f) = true
structure GlbOk (K : Frag) (x : Str) (f : Addr) : Prop where
  ns : nsIn K mainGlobals x = some (some (.ref f))
  hk : keepIn K (.ref f) = true
structure BltOk (K : Frag) (x : Str) (v : Value) : Prop where
  ns : nsIn K mainGlobals x = some none
  bo : bootBuiltins x = some v
  nn : x ≠ "__name__"

structure Facts (K : Frag) : Prop where
  cR : ClsOk K REC
  cP : ClsOk K PRO
  cS : ClsOk K STO
  fR : FldsOk K REC ["key", "functor", "term", "index_key", "birth", "death", "next_key", "entry"]
  fP : FldsOk K PRO ["functor", "kind", "entry", "codes", "terms", "first_key", "last_key", "library", "helper", "pending"]
  fS : FldsOk K STO ["records", "next_record", "generation"]
  kR : MkOk K REC 35
  kP : MkOk K PRO 56
  kS : MkOk K STO 84
  mNew : MthOk K STO "new_record" 91
  mApp : MthOk K STO "append_record" 98
  mPre : MthOk K STO "prepend_record" 105
  mVis : MthOk K STO "visible" 112
  mCha : MthOk K STO "chain" 140
  mEra : MthOk K STO "erase" 147
  mKil : MthOk K STO "kill_all" 154
  gRec : GlbOk K "ClauseRecord" REC
  gPro : GlbOk K "Procedure" PRO
  gSto : GlbOk K "ClauseStore" STO
  gSwe : GlbOk K "sweep" 168
  gSnd : GlbOk K "record_is_sound" 175
  gChk : GlbOk K "check_records" 182
  gTur : GlbOk K "_law_turn" 189
  gHis : GlbOk K "_law_history" 196
  gMad : GlbOk K "_law_made" 201
  gSpo : GlbOk K "_law_spoiled" 208
  gCha : GlbOk K "_law_chain" 215
  bLen : BltOk K "len" (.builtin "len")
  bAbs : BltOk K "abs" (.builtin "abs")
  bSor : BltOk K "sorted" (.builtin "sorted")
  bRan : BltOk K "range" (.type "range")
  iRec : FnAt K 35 "ClauseRecord.__init__" (m1 2 0)
  iPro : FnAt K 56 "Procedure.__init__" (m1 3 0)
  iSto : FnAt K 84 "ClauseStore.__init__" (m1 4 0)
  aNew : FnAt K 91 "ClauseStore.new_record" (m1 4 1)
  aApp : FnAt K 98 "ClauseStore.append_record" (m1 4 2)
  aPre : FnAt K 105 "ClauseStore.prepend_record" (m1 4 3)
  aVis : FnAt K 112 "ClauseStore.visible" (m1 4 4)
  aCha : FnAt K 140 "ClauseStore.chain" (m1 4 8)
  aEra : FnAt K 147 "ClauseStore.erase" (m1 4 9)
  aKil : FnAt K 154 "ClauseStore.kill_all" (m1 4 10)
  aSwe : FnAt K 168 "sweep" (st1 5)
  aSnd : FnAt K 175 "record_is_sound" (st1 6)
  aChk : FnAt K 182 "check_records" (st1 7)
  aTur : FnAt K 189 "_law_turn" (st1 9)
  aHis : FnAt K 196 "_law_history" (st1 10)
  aMad : FnAt K 201 "_law_made" (st1 11)
  aSpo : FnAt K 208 "_law_spoiled" (st1 12)
  aLch : FnAt K 215 "_law_chain" (st1 13)
end Mine

open PySem PySem.W PyProof.Rows PySem.Calls PySem.MeetsSeq PySem.MeetsSeq2 PySem.MeetsSeq3
set_option Elab.async false
set_option maxRecDepth 100000
set_option linter.unusedVariables false
namespace Mine

noncomputable def recO (r : Rec) : AO := .inst REC [("key", .int r.key), ("functor", .int r.fn), ("term", r.term), ("index_key", r.ik), ("birth", .int r.birth), ("death", .int r.death), ("next_key", .int r.next), ("entry", .int 0)]
noncomputable def prcO (p : Prc) : AO := .inst PRO [("functor", .int p.fn), ("kind", .str p.kind), ("entry", .int (-1)), ("codes", p.codes), ("terms", p.terms), ("first_key", .int p.first), ("last_key", .int p.last), ("library", .bool false), ("helper", .bool false), ("pending", .bool false)]
noncomputable def stoO (R : Addr) (n g : Int) : AO := .inst STO [("records", .ref R), ("next_record", .int n), ("generation", .int g)]
structure Adr where
  S : Addr
  R : Addr
  P : Addr
  ra : Int → Addr
  pa : Int → Addr
noncomputable def refs (ks : List Int) (ra : Int → Addr) : List (Int × AV) := ks.map fun k => (k, .ref (ra k))
def Ext (φ φ' : AH) : Prop := ∀ b o, φ b = some o → φ' b = some o
theorem Ext.refl (φ : AH) : Ext φ φ := fun _ _ h => h
theorem Ext.trans {φ φ' φ'' : AH} (h : Ext φ φ') (k : Ext φ' φ'') : Ext φ φ'' := fun b o e => k b o (h b o e)
theorem Ext.new {φ : AH} {a : Addr} {o : AO} (h : φ a = none) : Ext φ (upd φ a o) := fun b o' e => by
  rw [upd_ne]
  · exact e
  · intro z; rw [z, h] at e; cases e
theorem Ext.put {φ₀ φ : AH} {a : Addr} {o : AO} (x : Ext φ₀ φ) (h : φ₀ a = none) : Ext φ₀ (upd φ a o) := fun b o' e => by
  rw [upd_ne]
  · exact x b o' e
  · intro z; rw [z, h] at e; cases e
theorem Ext.none {φ φ' : AH} (x : Ext φ φ') {a : Addr} (h : φ' a = none) : φ a = none := by
  cases z : φ a with
  | none => rfl
  | some o => rw [x _ _ z] at h; cases h
theorem upd_upd {φ : AH} {a : Addr} {o o' : AO} : upd (upd φ a o) a o' = upd φ a o' := by
  funext b; by_cases z : b = a <;> simp [upd, z]

structure Rep (φ₀ φ : AH) (a : Adr) (m : Mdl) : Prop where
  ext : Ext φ₀ φ
  sto : φ a.S = some (stoO a.R m.nxt m.gen)
  rdc : ∃ ep, φ a.R = some (.idict (refs m.keys a.ra) ep)
  pdc : ∃ ep, φ a.P = some (.idict (refs m.pks a.pa) ep)
  rec_ : ∀ k ∈ m.keys, φ (a.ra k) = some (recO (m.rc k))
  prc : ∀ f ∈ m.pks, φ (a.pa f) = some (prcO (m.pr f))
  nS : φ₀ a.S = none
  nR : φ₀ a.R = none
  nP : φ₀ a.P = none
  nrc : ∀ k ∈ m.keys, φ₀ (a.ra k) = none
  npr : ∀ f ∈ m.pks, φ₀ (a.pa f) = none
  hRP : a.R ≠ a.P
  rin : ∀ k ∈ m.keys, ∀ j ∈ m.keys, a.ra k = a.ra j → k = j
  pin : ∀ k ∈ m.pks, ∀ j ∈ m.pks, a.pa k = a.pa j → k = j
  sml : m.keys.length ≤ 1000

theorem dget_refs {ra : Int → Addr} {k : Int} : ∀ {ks : List Int}, k ∈ ks → dget k (refs ks ra) = some (.ref (ra k))
  | [], h => by cases h
  | j :: ks, h => by
    unfold dget refs
    rw [List.map_cons, List.find?_cons]
    by_cases z : j = k
    · subst z; simp
    · rw [decide_eq_false z]
      rcases List.mem_cons.mp h with rfl | h
      · exact absurd rfl z
      · exact dget_refs h
theorem dget_refs_none {ra : Int → Addr} {k : Int} : ∀ {ks : List Int}, k ∉ ks → dget k (refs ks ra) = none
  | [], _ => rfl
  | j :: ks, h => by
    have h1 : ¬ j = k := fun z => h (z ▸ List.mem_cons_self ..)
    unfold dget refs
    rw [List.map_cons, List.find?_cons, decide_eq_false h1]
    exact dget_refs_none fun z => h (List.mem_cons_of_mem _ z)
theorem any_refs {ra : Int → Addr} {k : Int} (ks : List Int) : ((refs ks ra).any fun p => decide (p.1 = k)) = decide (k ∈ ks) := by
  induction ks with
  | nil => rfl
  | cons j ks ih =>
    show (decide (j = k) || (refs ks ra).any fun p => decide (p.1 = k)) = _
    rw [ih]
    by_cases z : j = k
    · simp [z]
    · have : ¬ k = j := fun q => z q.symm
      simp [z, this]
theorem dset_refs {ra : Int → Addr} {k : Int} {x : Addr} {ks : List Int} (h : k ∉ ks) : dset k (.ref x) (refs ks ra) = refs (ks ++ [k]) (fset ra k x) := by
  unfold dset
  rw [any_refs, decide_eq_false h]
  simp only [Bool.false_eq_true, if_false]
  unfold refs
  rw [List.map_append]
  congr 1
  · refine List.map_congr_left fun j hj => ?_
    rw [fset_ne]
    intro z; exact h (z ▸ hj)
  · simp [fset_self]
theorem ddel_refs {ra : Int → Addr} {k : Int} (ks : List Int) : ddel k (refs ks ra) = refs (ks.filter fun j => decide (j ≠ k)) ra := by
  unfold ddel refs
  rw [List.filter_map]
  rfl
theorem refs_len (ks : List Int) (ra : Int → Addr) : (refs ks ra).length = ks.length := by unfold refs; simp
theorem refs_keys (ks : List Int) (ra : Int → Addr) : (refs ks ra).map (·.1) = ks := by unfold refs; simp [Function.comp_def]

section
variable {φ₀ φ φ' : AH} {a : Adr} {m : Mdl}
theorem Rep.keep (r : Rep φ₀ φ a m) (x : Ext φ φ') : Rep φ₀ φ' a m :=
  ⟨r.ext.trans x, x _ _ r.sto, let ⟨ep, e⟩ := r.rdc; ⟨ep, x _ _ e⟩, let ⟨ep, e⟩ := r.pdc; ⟨ep, x _ _ e⟩, fun k h => x _ _ (r.rec_ k h), fun f h => x _ _ (r.prc f h), r.nS, r.nR, r.nP, r.nrc, r.npr, r.hRP, r.rin, r.pin, r.sml⟩
theorem Rep.base (r : Rep φ₀ φ a m) {φ₁ : AH} (x : Ext φ₁ φ₀) : Rep φ₁ φ a m :=
  ⟨x.trans r.ext, r.sto, r.rdc, r.pdc, r.rec_, r.prc, x.none r.nS, x.none r.nR, x.none r.nP, fun k h => x.none (r.nrc k h), fun k h => x.none (r.npr k h), r.hRP, r.rin, r.pin, r.sml⟩
theorem Rep.setR (r : Rep φ₀ φ a m) {k : Int} (hk : k ∈ m.keys) (v : Rec) : Rep φ₀ (upd φ (a.ra k) (recO v)) a (m.setR k v) := by
  have e := r.rec_ k hk
  have ne : ∀ {b o}, φ b = some o → (∀ v, o ≠ recO v) → upd φ (a.ra k) (recO v) b = some o := fun {b o} h1 h2 => by
    rw [upd_ne]
    · exact h1
    · intro z; rw [z, e] at h1; cases h1; exact h2 _ rfl
  refine ⟨r.ext.put (r.nrc k hk), ne r.sto (fun v z => by cases z), let ⟨ep, e⟩ := r.rdc; ⟨ep, ne e (fun v z => by cases z)⟩, let ⟨ep, e⟩ := r.pdc; ⟨ep, ne e (fun v z => by cases z)⟩, fun j hj => ?_, fun f hf => ne (r.prc f hf) (fun v z => by unfold prcO recO at z; injection z with z1 z2; cases z1), r.nS, r.nR, r.nP, r.nrc, r.npr, r.hRP, r.rin, r.pin, r.sml⟩
  by_cases z : j = k
  · subst z; rw [upd_self]; show _ = some (recO (fset m.rc j v j)); rw [fset_self]
  · rw [upd_ne fun q => z (r.rin j hj k hk q), r.rec_ j hj]; show _ = some (recO (fset m.rc k v j)); rw [fset_ne z]
theorem Rep.setP (r : Rep φ₀ φ a m) {f : Int} (hf : f ∈ m.pks) (v : Prc) : Rep φ₀ (upd φ (a.pa f) (prcO v)) a (m.setP f v) := by
  have e := r.prc f hf
  have ne : ∀ {b o}, φ b = some o → (∀ v, o ≠ prcO v) → upd φ (a.pa f) (prcO v) b = some o := fun {b o} h1 h2 => by
    rw [upd_ne]
    · exact h1
    · intro z; rw [z, e] at h1; cases h1; exact h2 _ rfl
  refine ⟨r.ext.put (r.npr f hf), ne r.sto (fun v z => by cases z), let ⟨ep, e⟩ := r.rdc; ⟨ep, ne e (fun v z => by cases z)⟩, let ⟨ep, e⟩ := r.pdc; ⟨ep, ne e (fun v z => by cases z)⟩, fun j hj => ne (r.rec_ j hj) (fun v z => by unfold prcO recO at z; injection z with z1 z2; cases z1), fun j hj => ?_, r.nS, r.nR, r.nP, r.nrc, r.npr, r.hRP, r.rin, r.pin, r.sml⟩
  by_cases z : j = f
  · subst z; rw [upd_self]; show _ = some (prcO (fset m.pr j v j)); rw [fset_self]
  · rw [upd_ne fun q => z (r.pin j hj f hf q), r.prc j hj]; show _ = some (prcO (fset m.pr f v j)); rw [fset_ne z]
theorem Rep.setS (r : Rep φ₀ φ a m) (n g : Int) : Rep φ₀ (upd φ a.S (stoO a.R n g)) a { m with nxt := n, gen := g } := by
  have e := r.sto
  have ne : ∀ {b o}, φ b = some o → (∀ R n g, o ≠ stoO R n g) → upd φ a.S (stoO a.R n g) b = some o := fun {b o} h1 h2 => by
    rw [upd_ne]
    · exact h1
    · intro z; rw [z, e] at h1; cases h1; exact h2 _ _ _ rfl
  exact ⟨r.ext.put r.nS, upd_self .., let ⟨ep, e⟩ := r.rdc; ⟨ep, ne e (fun _ _ _ z => by cases z)⟩, let ⟨ep, e⟩ := r.pdc; ⟨ep, ne e (fun _ _ _ z => by cases z)⟩,
    fun j hj => ne (r.rec_ j hj) (fun _ _ _ z => by unfold stoO recO at z; injection z with z1 z2; cases z1), fun j hj => ne (r.prc j hj) (fun _ _ _ z => by unfold stoO prcO at z; injection z with z1 z2; cases z1), r.nS, r.nR, r.nP, r.nrc, r.npr, r.hRP, r.rin, r.pin, r.sml⟩
/-- a new record is entered into the dict -/
theorem Rep.addR (r : Rep φ₀ φ a m) {k : Int} {x : Addr} {v : Rec} (hk : k ∉ m.keys) (hx : φ x = some (recO v)) (h0 : φ₀ x = none) (hin : ∀ j ∈ m.keys, a.ra j ≠ x) (ep : Nat) (hz : m.keys.length < 1000) :
    Rep φ₀ (upd φ a.R (.idict (refs (m.keys ++ [k]) (fset a.ra k x)) ep)) { a with ra := fset a.ra k x } { m with keys := m.keys ++ [k], rc := fset m.rc k v } := by
  obtain ⟨ep₀, e⟩ := r.rdc
  have ne : ∀ {b o}, φ b = some o → (∀ l ep, o ≠ .idict l ep) → upd φ a.R (.idict (refs (m.keys ++ [k]) (fset a.ra k x)) ep) b = some o := fun {b o} h1 h2 => by
    rw [upd_ne]
    · exact h1
    · intro z; rw [z, e] at h1; cases h1; exact h2 _ _ rfl
  have key : ∀ j ∈ m.keys ++ [k], j ∈ m.keys ∧ j ≠ k ∨ j = k := fun j hj => by
    rcases List.mem_append.mp hj with h | h
    · exact .inl ⟨h, fun z => hk (z ▸ h)⟩
    · exact .inr (List.mem_singleton.mp h)
  refine ⟨r.ext.put r.nR, ne r.sto (fun _ _ z => by cases z), ⟨ep, upd_self ..⟩, let ⟨ep, e⟩ := r.pdc; ⟨ep, by rw [upd_ne (Ne.symm r.hRP)]; exact e⟩, fun j hj => ?_, fun f hf => ne (r.prc f hf) (fun _ _ z => by cases z), r.nS, r.nR, r.nP, fun j hj => ?_, r.npr, r.hRP, fun i hi j hj q => ?_, r.pin, by show (m.keys ++ [k]).length ≤ 1000; simp; omega⟩
  · show upd _ _ _ (fset a.ra k x j) = some (recO (fset m.rc k v j))
    rcases key j hj with ⟨h1, h2⟩ | rfl
    · rw [fset_ne h2, fset_ne h2]; exact ne (r.rec_ j h1) (fun _ _ z => by cases z)
    · rw [fset_self, fset_self]; exact ne hx (fun _ _ z => by cases z)
  · show φ₀ (fset a.ra k x j) = none
    rcases key j hj with ⟨h1, h2⟩ | rfl
    · rw [fset_ne h2]; exact r.nrc j h1
    · rw [fset_self]; exact h0
  · have q : fset a.ra k x i = fset a.ra k x j := q
    rcases key i hi with ⟨h1, h2⟩ | rfl <;> rcases key j hj with ⟨h3, h4⟩ | rfl
    · rw [fset_ne h2, fset_ne h4] at q; exact r.rin i h1 j h3 q
    · rw [fset_ne h2, fset_self] at q; exact absurd q (hin i h1)
    · rw [fset_ne h4, fset_self] at q; exact absurd q.symm (hin j h3)
    · rfl
end

theorem XS.cut {C : FC} {t : Sem Flow} {ρ : Loc} {φ : AH} {R : AF → Loc → AH → Prop} (T : AH → Prop) (h : T φ) (k : ∀ φ', T φ' → XS C t ρ φ' R) : XS C t ρ φ R := k φ h
def Halt (p : Prop) : Prop := p
theorem Halt.on {p : Prop} (h : p) : Halt p := h
theorem XS.cutH {C : FC} {t : Sem Flow} {ρ : Loc} {φ : AH} {R : AF → Loc → AH → Prop} (T : AH → Prop) (h : T φ) (k : ∀ φ', T φ' → XS C t ρ φ' R) : Halt (XS C t ρ φ R) := k φ h
theorem upd_skip {φ : AH} {a b : Addr} {o o' : AO} (h : b ≠ a) (t : φ b = some o') : upd φ a o b = some o' := by rw [upd_ne h]; exact t
theorem setF_nil {x : Str} {v : AV} : setF x v [] = [(x, v)] := rfl
theorem setF_hit {x : Str} {v w : AV} {r : List (Str × AV)} : setF x v ((x, w) :: r) = (x, v) :: r := by unfold setF; rw [if_pos (beq_self_eq_true x)]
theorem setF_miss {x y : Str} {v w : AV} {r r' : List (Str × AV)} (h : (y == x) = false) (t : setF x v r = r') : setF x v ((y, w) :: r) = (y, w) :: r' := by
  unfold setF
  rw [if_neg (by simp only [h]; exact Bool.false_ne_true), t]
theorem seta_halt {C : FC} {ρ : Loc} {φ : AH} {n : Nat} {a D : Addr} {fs fs' : List (Str × AV)} {x : Str} {v : AV} {P : AH → Prop} (e : φ a = some (.inst D fs)) (hs : setF x v fs = fs') (q : Halt (P (upd φ a (.inst D fs')))) (L : ClsOk C.W.K D) (F : FldOk C.W.K D x) (hz : fs.length ≤ 900) (G : Gd C n := by assumption) :
    SetA C ρ (.ref a) x v φ P := seta_own e (hs ▸ q) L F hz G
theorem XS.cutR {C : FC} {t : Sem Flow} {ρ : Loc} {φ₀ φ : AH} {a : Adr} {m : Mdl} {R : AF → Loc → AH → Prop} (h : Rep φ₀ φ a m) (k : ∀ φ', Rep φ₀ φ' a m → XS C t ρ φ' R) : Halt (XS C t ρ φ R) := k φ h
theorem Then.go {C : FC} {rest : List Stmt} {ρ : Loc} {φ : AH} {R : AF → Loc → AH → Prop} (h : XS C (execs rest C.env) ρ φ R) : Then C rest R .next ρ φ := h
theorem Then.ret {C : FC} {rest : List Stmt} {ρ : Loc} {φ : AH} {R : AF → Loc → AH → Prop} {v : AV} (h : R (.ret v) ρ φ) : Then C rest R (.ret v) ρ φ := h
theorem Then.brk {C : FC} {rest : List Stmt} {ρ : Loc} {φ : AH} {R : AF → Loc → AH → Prop} (h : R .brk ρ φ) : Then C rest R .brk ρ φ := h
theorem LoopK.ret {I : Nat → Loc → AH → Prop} {i : Nat} {ρ : Loc} {φ : AH} {R : AF → Loc → AH → Prop} {v : AV} (h : R (.ret v) ρ φ) : LoopK I i R (.ret v) ρ φ := h
theorem LoopK.brk {I : Nat → Loc → AH → Prop} {i : Nat} {ρ : Loc} {φ : AH} {R : AF → Loc → AH → Prop} (h : R .next ρ φ) : LoopK I i R .brk ρ φ := h
theorem WhileK.ret {J : Nat → Loc → AH → Prop} {i : Nat} {ρ : Loc} {φ : AH} {R : AF → Loc → AH → Prop} {v : AV} (h : R (.ret v) ρ φ) : WhileK J i R (.ret v) ρ φ := h
end Mine

set_option maxHeartbeats 1000000
namespace Mine
set_option compiler.extract_closed false
local macro_rules | `(tactic| walk_at "m cls") => `(tactic| first | exact (‹Facts _›).cR | exact (‹Facts _›).cP | exact (‹Facts _›).cS)
local macro_rules | `(tactic| walk_at "m fld") => `(tactic| first
  | exact (‹Facts _›).fR.at 0 rfl | exact (‹Facts _›).fR.at 1 rfl | exact (‹Facts _›).fR.at 2 rfl | exact (‹Facts _›).fR.at 3 rfl | exact (‹Facts _›).fR.at 4 rfl | exact (‹Facts _›).fR.at 5 rfl | exact (‹Facts _›).fR.at 6 rfl | exact (‹Facts _›).fR.at 7 rfl
  | exact (‹Facts _›).fP.at 0 rfl | exact (‹Facts _›).fP.at 1 rfl | exact (‹Facts _›).fP.at 2 rfl | exact (‹Facts _›).fP.at 3 rfl | exact (‹Facts _›).fP.at 4 rfl | exact (‹Facts _›).fP.at 5 rfl | exact (‹Facts _›).fP.at 6 rfl | exact (‹Facts _›).fP.at 7 rfl | exact (‹Facts _›).fP.at 8 rfl | exact (‹Facts _›).fP.at 9 rfl
  | exact (‹Facts _›).fS.at 0 rfl | exact (‹Facts _›).fS.at 1 rfl | exact (‹Facts _›).fS.at 2 rfl)
local macro_rules | `(tactic| walk_at "m glb") => `(tactic| first
  | exact (‹Facts _›).gRec.ns
  | exact (‹Facts _›).gPro.ns
  | exact (‹Facts _›).gSto.ns
  | exact (‹Facts _›).gSwe.ns
  | exact (‹Facts _›).gSnd.ns
  | exact (‹Facts _›).gChk.ns
  | exact (‹Facts _›).gTur.ns
  | exact (‹Facts _›).gHis.ns
  | exact (‹Facts _›).gMad.ns
  | exact (‹Facts _›).gSpo.ns
  | exact (‹Facts _›).gCha.ns)
local macro_rules | `(tactic| walk_at "m keep") => `(tactic| first
  | exact (‹Facts _›).gRec.hk
  | exact (‹Facts _›).gPro.hk
  | exact (‹Facts _›).gSto.hk
  | exact (‹Facts _›).gSwe.hk
  | exact (‹Facts _›).gSnd.hk
  | exact (‹Facts _›).gChk.hk
  | exact (‹Facts _›).gTur.hk
  | exact (‹Facts _›).gHis.hk
  | exact (‹Facts _›).gMad.hk
  | exact (‹Facts _›).gSpo.hk
  | exact (‹Facts _›).gCha.hk
  | exact (‹Facts _›).mNew.hk
  | exact (‹Facts _›).mApp.hk
  | exact (‹Facts _›).mPre.hk
  | exact (‹Facts _›).mVis.hk
  | exact (‹Facts _›).mCha.hk
  | exact (‹Facts _›).mEra.hk
  | exact (‹Facts _›).mKil.hk)
local macro_rules | `(tactic| walk_at "m mfi") => `(tactic| first
  | exact (‹Facts _›).mNew.fi
  | exact (‹Facts _›).mApp.fi
  | exact (‹Facts _›).mPre.fi
  | exact (‹Facts _›).mVis.fi
  | exact (‹Facts _›).mCha.fi
  | exact (‹Facts _›).mEra.fi
  | exact (‹Facts _›).mKil.fi)
local macro_rules | `(tactic| walk_at "m mht") => `(tactic| first
  | exact (‹Facts _›).mNew.ht
  | exact (‹Facts _›).mApp.ht
  | exact (‹Facts _›).mPre.ht
  | exact (‹Facts _›).mVis.ht
  | exact (‹Facts _›).mCha.ht
  | exact (‹Facts _›).mEra.ht
  | exact (‹Facts _›).mKil.ht)
local macro_rules | `(tactic| walk_at "m blt") => `(tactic| first
  | refine ev_builtin (‹Facts _›).bLen.ns (‹Facts _›).bLen.bo (‹Facts _›).bLen.nn ?_
  | refine ev_builtin (‹Facts _›).bAbs.ns (‹Facts _›).bAbs.bo (‹Facts _›).bAbs.nn ?_
  | refine ev_builtin (‹Facts _›).bSor.ns (‹Facts _›).bSor.bo (‹Facts _›).bSor.nn ?_
  | refine ev_builtin (‹Facts _›).bRan.ns (‹Facts _›).bRan.bo (‹Facts _›).bRan.nn ?_)
/-- one step of an expression -/
local macro_rules | `(tactic| walk_at "m e1") => `(tactic| first
  | ((with_reducible show EV _ (eval (Expr.Name _ _) _) _ _ _); first | refine ev_local rfl ?_ | refine ev_cell rfl rfl ?_ | refine ev_free rfl rfl ?_ | (refine' ev_global ?ka ?_; (case ka => walk_at "m glb")) | walk_at "m blt")
  | (with_reducible refine' calw_ref ?ka ?_; (case ka => walk_at "m keep"))
  | (with_reducible refine' calw_ref0 ?ka ?_; (case ka => walk_at "m keep"))
  | (with_reducible refine calw_builtin ?_)
  | (with_reducible refine calw_type ?_)
  | ((with_reducible show Mth _ _ _ _ _ (_ :: _) _ _); (refine' mth_inst ?ka ?kc ?kf ?kt ?kk ?kl ?_; (case ka => assumption); (case kc => walk_at "m cls"); (case kf => walk_at "m mfi"); (case kt => walk_at "m mht"); (case kk => walk_at "m keep"); (case kl => rfl)))
  | ((with_reducible show Att _ _ _ _ _ _); (refine' att_own ?ka ?kb ?_ ?kc ?kd ?ke; (case ka => assumption); (case kb => rfl); (case kc => walk_at "m cls"); (case kd => walk_at "m fld"); (case ke => trivial)))
  | (with_reducible refine ev_attr ?_)
  | (with_reducible refine ev_int ?_)
  | (with_reducible refine ev_str ?_)
  | (with_reducible refine ev_bool ?_)
  | (with_reducible refine ev_none ?_)
  | (with_reducible refine ev_cmp ?_)
  | (with_reducible refine ev_chain ?_)
  | (with_reducible refine ev_binop ?_)
  | (with_reducible refine ev_una ?_)
  | (with_reducible refine ev_slice ?_)
  | (with_reducible refine ev_sub ?_)
  | (with_reducible refine ev_bool_one ?_)
  | (with_reducible refine ev_and ?_)
  | (with_reducible refine ev_or ?_)
  | (with_reducible refine ev_ifexp ?_)
  | (with_reducible refine ev_mcall ?_)
  | (with_reducible refine ev_call ?_)
  | (with_reducible refine eb_not ?_)
  | (with_reducible refine eb_and_nil ?_)
  | (with_reducible refine eb_or_nil ?_)
  | (with_reducible refine eb_and ?_)
  | (with_reducible refine eb_or ?_)
  | (with_reducible refine eb_cmp ?_)
  | (with_reducible refine eb_plain ?_)
  | (with_reducible refine cmp_lt ?_)
  | (with_reducible refine cmp_ge ?_)
  | (with_reducible refine cmp_gt ?_)
  | (with_reducible refine cmp_le ?_)
  | (with_reducible refine cmp_eq ?_)
  | (with_reducible refine cmp_ne ?_)
  | (with_reducible refine cmp_neS ?_)
  | (with_reducible refine cmp_isNone ?_)
  | (with_reducible refine tru_bool ?_)
  | (with_reducible refine tru_int ?_)
  | (with_reducible refine bin_add ?_)
  | (with_reducible refine bin_sub ?_)
  | (with_reducible refine inp_add ?_)
  | (with_reducible refine una_neg ?_)
  | (with_reducible refine una_not ?_)
  | (with_reducible refine el_nil ?_)
  | (with_reducible refine el_cons ?_)
  | (with_reducible refine Imp.go (by assumption) ?_))
local macro_rules | `(tactic| walk_at "m e") => `(tactic| repeat (walk_at "m e1"))

local macro_rules | `(tactic| walk_at "m s1") => `(tactic| first
  | (with_reducible refine x_assign ?_)
  | (with_reducible refine x_assign_attr ?_)
  | (with_reducible refine x_assign_sub ?_)
  | (with_reducible refine x_assign_tuple ?_)
  | ((with_reducible show XS _ (execs (Stmt.AugAssign (Expr.Name _ _) _ _ _ :: _) _) _ _ _); refine x_aug rfl ?_)
  | (with_reducible refine x_aug_attr ?_)
  | (with_reducible refine x_aug_sub ?_)
  | (with_reducible refine x_if ?_)
  | (with_reducible refine x_expr ?_)
  | (with_reducible refine x_return ?_)
  | (with_reducible refine x_break ?_)
  | (with_reducible refine xs_nil ?_)
  | (with_reducible refine Then.go ?_)
  | (with_reducible refine Then.ret ?_)
  | (with_reducible refine Then.brk ?_)
  | (with_reducible refine LoopK.ret ?_)
  | (with_reducible refine LoopK.brk ?_)
  | (with_reducible refine WhileK.ret ?_)
  | ((with_reducible show SetA _ _ _ _ _ _ _); (refine' seta_halt ?ka ?ks ?_ ?kc ?kd ?kz; (case ka => first | with_reducible exact upd_self .. | with_reducible assumption | (refine upd_skip (by with_reducible assumption) ?_; with_reducible exact upd_self ..) | assumption); (case ks => repeat (first | with_reducible exact setF_hit | with_reducible exact setF_nil | (apply setF_miss; (first | rfl | decide)))); (case kc => walk_at "m cls"); (case kd => walk_at "m fld"); (case kz => exact Nat.le_of_ble_eq_true rfl)))
  | walk_at "m e1")
local macro_rules | `(tactic| walk_at "m s") => `(tactic| repeat (walk_at "m s1"))
local macro_rules | `(tactic| walk_at "m bind") => `(tactic| (intro _ _ _ _ _ _ vs hv; (repeat (replace hv := lenS hv; obtain ⟨_, _, hz, hv⟩ := hv; subst hz)); cases List.eq_nil_of_length_eq_zero hv; rfl))
local macro_rules | `(tactic| walk_at "m sub") => `(tactic| (repeat (refine Sub.cons rfl ?_)); exact Sub.nil _)
section
variable {W : Wd} {φ₀ φ : AH} {a : Adr} {m : Mdl}

theorem s_vis (ok : W.Ok) (F : Facts W.K) {s x : Addr} {r : Rec} {g : Int} (e : φ x = some (recO r)) : Spec W 1 112 [.ref s, .ref x, .int g] φ (fun b φ' => φ' = φ ∧ b = .bool (vis r g)) := by
  refine spec_def ok (names := ["self", "record", "g"]) F.aVis (by walk_at "m bind") rfl (fun A l cd G Rk hRk => ?_)
  unfold recO at e
  refine x_return ?_
  walk_at "m e"
  refine ⟨fun h => ?_, fun h => ?_⟩
  · walk_at "m e"
    refine ⟨fun h' => ?_, fun h' => ?_⟩
    · try refine hRk _ _ _ ?_
      refine ⟨rfl, ?_⟩
      simp [vis, h, h']
    · walk_at "m e"
      try refine hRk _ _ _ ?_
      refine ⟨rfl, ?_⟩
      simp [vis, h, h']
  · try refine hRk _ _ _ ?_
    refine ⟨rfl, ?_⟩
    simp [vis, h]
theorem s_iRec (ok : W.Ok) (F : Facts W.K) {x : Addr} {k f b : Int} {t i : AV} : Spec W 1 35 [.ref x, .int k, .int f, t, i, .int b, .int 0] (upd φ x (.inst REC [])) (fun r φ' => r = .none ∧ φ' = upd φ x (recO ⟨k, f, t, i, b, -1, -1⟩)) := by
  refine spec_def ok (names := ["self", "key", "functor", "term", "index_key", "birth", "entry"]) F.iRec (by walk_at "m bind") rfl (fun A l cd G Rk hRk => ?_)
  show XS _ (execs (_ :: _) _) _ _ _
  repeat (walk_at "m s"; refine Halt.on ?_; rw [upd_upd])
  walk_at "m s"
  exact ⟨rfl, rfl⟩
theorem s_iSto (ok : W.Ok) (F : Facts W.K) {x : Addr} : Spec W 1 84 [.ref x] (upd φ x (.inst STO [])) (fun r φ' => r = .none ∧ ∃ d ep, φ d = none ∧ d ≠ x ∧ φ' = upd (upd φ d (.idict [] ep)) x (stoO d 0 0)) := by
  refine spec_def ok (names := ["self"]) F.iSto (by walk_at "m bind") rfl (fun A l cd G Rk hRk => ?_)
  show XS _ (execs (_ :: _) _) _ _ _
  walk_at "m s"
  refine ev_dict0 fun d ep hd => ?_
  have hdx : d ≠ x := by intro z; rw [z, upd_self] at hd; cases hd
  rw [upd_ne hdx] at hd
  have hc : upd (upd φ x (AO.inst STO [])) d (.idict [] ep) = upd (upd φ d (.idict [] ep)) x (AO.inst STO []) := by
    funext y; by_cases z : y = x <;> by_cases z' : y = d <;> simp [upd, z, z', hdx, Ne.symm hdx]
  rw [hc]
  repeat (walk_at "m s"; refine Halt.on ?_; rw [upd_upd])
  walk_at "m s"
  exact ⟨rfl, d, ep, hd, hdx, rfl⟩
theorem s_iPro (ok : W.Ok) (F : Facts W.K) {x : Addr} {f : Int} {kd : Str} (hx : φ x = none) : Spec W 1 56 [.ref x, .int f, .str kd] (upd φ x (.inst PRO [])) (fun r φ' => r = .none ∧ Ext φ φ' ∧ ∃ c t, φ' x = some (prcO ⟨f, kd, c, t, -1, -1⟩)) := by
  refine spec_def ok (names := ["self", "functor", "kind"]) F.iPro (by walk_at "m bind") rfl (fun A l cd G Rk hRk => ?_)
  show XS _ (execs (_ :: _) _) _ _ _
  have E0 : Ext φ (upd φ x (.inst PRO [])) := Ext.new hx
  repeat (walk_at "m s"; refine Halt.on ?_; rw [upd_upd])
  walk_at "m s"
  refine ev_list ?_
  walk_at "m s"
  refine ⟨Nat.zero_le _, fun d hd => ?_⟩
  have h1 : x ≠ d := by intro z; rw [← z, upd_self] at hd; cases hd
  have h2 : φ d = none := by rw [upd_ne (Ne.symm h1)] at hd; exact hd
  walk_at "m s"
  refine Halt.on ?_
  walk_at "m s"
  refine ev_list ?_
  walk_at "m s"
  refine ⟨Nat.zero_le _, fun d' hd' => ?_⟩
  have h3 : x ≠ d' := by intro z; rw [← z, upd_self] at hd'; cases hd'
  have h4 : φ d' = none := by
    rw [upd_ne (Ne.symm h3)] at hd'
    exact (Ext.put (Ext.put (Ext.refl _) hx) h2).none hd'
  walk_at "m s"
  refine Halt.on ?_
  repeat (walk_at "m s"; refine Halt.on ?_; rw [upd_upd])
  walk_at "m s"
  refine ⟨rfl, ?_, _, _, upd_self ..⟩
  repeat (first | with_reducible exact Ext.refl _ | refine Ext.put ?_ (by assumption))
end

section
variable {W : Wd} {φ₀ φ : AH} {a : Adr} {m : Mdl}

theorem s_new (ok : W.Ok) (F : Facts W.K) (r : Rep φ₀ φ a m) {f : Int} (hf : f ∈ m.pks) {t i : AV} (hn : m.nxt ∉ m.keys) (hz : m.keys.length < 1000) : Spec W 3 91 [.ref a.S, .ref (a.pa f), t, i, .int 0] φ
    (fun b φ' => ∃ x, b = .ref x ∧ Rep φ₀ φ' { a with ra := fset a.ra m.nxt x } (m.new (m.pr f).fn t i)) := by
  refine spec_def ok (names := ["self", "proc", "term", "index_key", "entry"]) F.aNew (by walk_at "m bind") rfl (fun A l cd G Rk hRk => ?_)
  show XS _ (execs (_ :: _) _) _ _ _
  have hS := r.sto
  unfold stoO at hS
  walk_at "m s"
  refine XS.cutH (fun φ' => Rep φ₀ φ' a { m with nxt := m.nxt, gen := m.gen + 1 }) (r.setS m.nxt (m.gen + 1)) fun φ₁ r₁ => ?_
  clear hS
  have hS := r₁.sto
  unfold stoO at hS
  walk_at "m s"
  refine XS.cutH (fun φ' => Rep φ₀ φ' a { m with nxt := m.nxt + 1, gen := m.gen + 1 }) (r₁.setS (m.nxt + 1) (m.gen + 1)) fun φ₂ r₂ => ?_
  clear hS
  have hS := r₂.sto
  have hP := r₂.prc f hf
  unfold stoO at hS
  unfold prcO at hP
  walk_at "m s"
  refine cal_cls F.kR (fun x hx => (s_iRec ok F).mono fun b φ' q => ⟨q.1, ?_⟩)
  obtain ⟨_, rfl⟩ := q
  have E : Ext φ₂ (upd φ₂ x (recO ⟨m.nxt, (m.pr f).fn, t, i, m.gen + 1, -1, -1⟩)) := Ext.new hx
  have r₃ := r₂.keep E
  have hS₃ := r₃.sto
  unfold stoO at hS₃
  walk_at "m s"
  obtain ⟨ep, hR⟩ := r₃.rdc
  refine seti_idict hR (fun ep' => ?_) (by rw [refs_len]; have := r.sml; show m.keys.length ≤ _; omega)
  walk_at "m s"
  refine ⟨x, rfl, ?_⟩
  rw [dset_refs hn]
  exact r₃.addR (v := ⟨m.nxt, (m.pr f).fn, t, i, m.gen + 1, -1, -1⟩) hn (upd_self ..) (r₂.ext.none hx) (fun j hj z => by
    have := r₂.rec_ j hj
    rw [z, hx] at this; cases this) ep' hz
theorem mem_new {m : Mdl} {fn : Int} {t i : AV} {k : Int} (h : k ∈ m.keys) : k ∈ (m.new fn t i).keys := List.mem_append_left _ h
theorem s_app (ok : W.Ok) (F : Facts W.K) (r : Rep φ₀ φ a m) {f : Int} (hf : f ∈ m.pks) {t i : AV} (hn : m.nxt ∉ m.keys) (hz : m.keys.length < 1000) (hl : ¬ (m.pr f).first < 0 → (m.pr f).last ∈ m.keys) : Spec W 4 98 [.ref a.S, .ref (a.pa f), t, i, .int 0] φ
    (fun b φ' => ∃ x, b = .ref x ∧ Rep φ₀ φ' { a with ra := fset a.ra m.nxt x } (m.app f t i)) := by
  refine spec_def ok (names := ["self", "proc", "term", "index_key", "entry"]) F.aApp (by walk_at "m bind") rfl (fun A l cd G Rk hRk => ?_)
  show XS _ (execs (_ :: _) _) _ _ _
  have hS := r.sto
  unfold stoO at hS
  walk_at "m s"
  refine cal_spec ((s_new ok F r hf hn hz).mono ?_)
  rintro _ φ₁ ⟨x, rfl, r₁⟩
  clear hS
  have hS := r₁.sto
  have hk : m.nxt ∈ (m.new (m.pr f).fn t i).keys := List.mem_append_right _ (List.mem_singleton.mpr rfl)
  have hx : (fset a.ra m.nxt x) m.nxt = x := fset_self ..
  have hR := r₁.rec_ m.nxt hk
  have hrc : (m.new (m.pr f).fn t i).rc m.nxt = ⟨m.nxt, (m.pr f).fn, t, i, m.gen + 1, -1, -1⟩ := fset_self ..
  have hP := r₁.prc f hf
  rw [hrc] at hR
  change φ₁ (fset a.ra m.nxt x m.nxt) = _ at hR
  rw [hx] at hR
  unfold stoO at hS
  unfold prcO at hP
  unfold recO at hR
  walk_at "m s"
  refine ⟨fun hc => ?_, fun hc => ?_⟩
  · have hc : (m.pr f).first < 0 := of_decide_eq_true hc
    walk_at "m s"
    refine XS.cutR (r₁.setP hf { (m.new (m.pr f).fn t i).pr f with first := m.nxt }) fun φ₂ r₂ => ?_
    clear hS hR hP
    have hR := r₂.rec_ m.nxt hk
    have hP := r₂.prc f hf
    change φ₂ (fset a.ra m.nxt x m.nxt) = some (recO ((m.new (m.pr f).fn t i).rc m.nxt)) at hR
    rw [hx, hrc] at hR
    unfold prcO at hP
    unfold recO at hR
    walk_at "m s"
    refine XS.cutR (r₂.setP hf { ((m.new (m.pr f).fn t i).setP f { (m.new (m.pr f).fn t i).pr f with first := m.nxt }).pr f with last := m.nxt }) fun φ₃ r₃ => ?_
    walk_at "m s"
    refine ⟨x, rfl, ?_⟩
    unfold Mdl.app
    rw [if_pos hc]
    exact r₃
  · have hc : ¬ (m.pr f).first < 0 := of_decide_eq_false hc
    have hlk : (m.pr f).last ∈ (m.new (m.pr f).fn t i).keys := mem_new (hl hc)
    have hlr := r₁.rec_ _ hlk
    unfold recO at hlr
    obtain ⟨ep, hD⟩ := r₁.rdc
    walk_at "m s"
    refine subt_idict hD (dget_refs hlk) ?_
    walk_at "m s"
    refine XS.cutR (r₁.setR hlk { (m.new (m.pr f).fn t i).rc (m.pr f).last with next := m.nxt }) fun φ₂ r₂ => ?_
    clear hS hR hP hlr hD
    have hR := r₂.rec_ m.nxt hk
    have hP := r₂.prc f hf
    change φ₂ (fset a.ra m.nxt x m.nxt) = some (recO (fset (m.new (m.pr f).fn t i).rc (m.pr f).last { (m.new (m.pr f).fn t i).rc (m.pr f).last with next := m.nxt } m.nxt)) at hR
    rw [hx, fset_ne (show m.nxt ≠ (m.pr f).last from fun z => hn (z ▸ hl hc)), hrc] at hR
    unfold prcO at hP
    unfold recO at hR
    walk_at "m s"
    refine XS.cutR (r₂.setP hf { ((m.new (m.pr f).fn t i).setR (m.pr f).last { (m.new (m.pr f).fn t i).rc (m.pr f).last with next := m.nxt }).pr f with last := m.nxt }) fun φ₃ r₃ => ?_
    walk_at "m s"
    refine ⟨x, rfl, ?_⟩
    unfold Mdl.app
    rw [if_neg hc]
    exact r₃
theorem s_pre (ok : W.Ok) (F : Facts W.K) (r : Rep φ₀ φ a m) {f : Int} (hf : f ∈ m.pks) {t i : AV} (hn : m.nxt ∉ m.keys) (hz : m.keys.length < 1000) : Spec W 4 105 [.ref a.S, .ref (a.pa f), t, i, .int 0] φ
    (fun b φ' => ∃ x, b = .ref x ∧ Rep φ₀ φ' { a with ra := fset a.ra m.nxt x } (m.pre f t i)) := by
  refine spec_def ok (names := ["self", "proc", "term", "index_key", "entry"]) F.aPre (by walk_at "m bind") rfl (fun A l cd G Rk hRk => ?_)
  show XS _ (execs (_ :: _) _) _ _ _
  have hS := r.sto
  unfold stoO at hS
  walk_at "m s"
  refine cal_spec ((s_new ok F r hf hn hz).mono ?_)
  rintro _ φ₁ ⟨x, rfl, r₁⟩
  clear hS
  have hk : m.nxt ∈ (m.new (m.pr f).fn t i).keys := List.mem_append_right _ (List.mem_singleton.mpr rfl)
  have hx : (fset a.ra m.nxt x) m.nxt = x := fset_self ..
  have hR := r₁.rec_ m.nxt hk
  have hrc : (m.new (m.pr f).fn t i).rc m.nxt = ⟨m.nxt, (m.pr f).fn, t, i, m.gen + 1, -1, -1⟩ := fset_self ..
  have hP := r₁.prc f hf
  rw [hrc] at hR
  change φ₁ (fset a.ra m.nxt x m.nxt) = _ at hR
  rw [hx] at hR
  unfold prcO at hP
  unfold recO at hR
  walk_at "m s"
  refine ⟨fun hc => ?_, fun hc => ?_⟩
  · have hc : (m.pr f).first < 0 := of_decide_eq_true hc
    walk_at "m s"
    refine XS.cutR (r₁.setP hf { (m.new (m.pr f).fn t i).pr f with last := m.nxt }) fun φ₂ r₂ => ?_
    clear hR hP
    have hR := r₂.rec_ m.nxt hk
    have hP := r₂.prc f hf
    change φ₂ (fset a.ra m.nxt x m.nxt) = some (recO ((m.new (m.pr f).fn t i).rc m.nxt)) at hR
    rw [hx, hrc] at hR
    unfold prcO at hP
    unfold recO at hR
    walk_at "m s"
    refine XS.cutR (φ₀ := φ₀) (a := { a with ra := fset a.ra m.nxt x }) (m := ((m.new (m.pr f).fn t i).setP f { (m.new (m.pr f).fn t i).pr f with last := m.nxt }).setR m.nxt { (m.new (m.pr f).fn t i).rc m.nxt with next := (((m.new (m.pr f).fn t i).setP f { (m.new (m.pr f).fn t i).pr f with last := m.nxt }).pr f).first }) ?_ fun φ₃ r₃ => ?_
    · have := r₂.setR hk { (m.new (m.pr f).fn t i).rc m.nxt with next := (((m.new (m.pr f).fn t i).setP f { (m.new (m.pr f).fn t i).pr f with last := m.nxt }).pr f).first }
      change Rep φ₀ (upd φ₂ (fset a.ra m.nxt x m.nxt) _) _ _ at this
      rw [hx] at this
      rw [hrc] at this ⊢
      exact this
    clear hR hP
    have hR := r₃.rec_ m.nxt hk
    have hP := r₃.prc f hf
    change φ₃ (fset a.ra m.nxt x m.nxt) = some (recO (fset _ m.nxt _ m.nxt)) at hR
    rw [hx, fset_self, hrc] at hR
    unfold prcO at hP
    unfold recO at hR
    walk_at "m s"
    refine XS.cutR (r₃.setP hf { (((m.new (m.pr f).fn t i).setP f { (m.new (m.pr f).fn t i).pr f with last := m.nxt }).setR m.nxt { (m.new (m.pr f).fn t i).rc m.nxt with next := (((m.new (m.pr f).fn t i).setP f { (m.new (m.pr f).fn t i).pr f with last := m.nxt }).pr f).first }).pr f with first := m.nxt }) fun φ₄ r₄ => ?_
    walk_at "m s"
    refine ⟨x, rfl, ?_⟩
    unfold Mdl.pre
    rw [if_pos hc]
    exact r₄
  · have hc : ¬ (m.pr f).first < 0 := of_decide_eq_false hc
    walk_at "m s"
    refine XS.cutR (φ₀ := φ₀) (a := { a with ra := fset a.ra m.nxt x }) (m := (m.new (m.pr f).fn t i).setR m.nxt { (m.new (m.pr f).fn t i).rc m.nxt with next := ((m.new (m.pr f).fn t i).pr f).first }) ?_ fun φ₃ r₃ => ?_
    · have := r₁.setR hk { (m.new (m.pr f).fn t i).rc m.nxt with next := ((m.new (m.pr f).fn t i).pr f).first }
      change Rep φ₀ (upd φ₁ (fset a.ra m.nxt x m.nxt) _) _ _ at this
      rw [hx] at this
      rw [hrc] at this ⊢
      exact this
    clear hR hP
    have hR := r₃.rec_ m.nxt hk
    have hP := r₃.prc f hf
    change φ₃ (fset a.ra m.nxt x m.nxt) = some (recO (fset _ m.nxt _ m.nxt)) at hR
    rw [hx, fset_self, hrc] at hR
    unfold prcO at hP
    unfold recO at hR
    walk_at "m s"
    refine XS.cutR (r₃.setP hf { ((m.new (m.pr f).fn t i).setR m.nxt { (m.new (m.pr f).fn t i).rc m.nxt with next := ((m.new (m.pr f).fn t i).pr f).first }).pr f with first := m.nxt }) fun φ₄ r₄ => ?_
    walk_at "m s"
    refine ⟨x, rfl, ?_⟩
    unfold Mdl.pre
    rw [if_neg hc]
    exact r₄
end

section
variable {C : FC} {ρ : Loc} {φ : AH} {n : Nat} {Q : AV → AH → Prop}
theorem mth_append {pos : Pos} {a : Addr} {l : List AV} {x : Expr} (e : φ a = some (.list l)) (h : EL C (spliced (backTo pos (starEach [x] C.env))) ρ φ fun vs φ₁ => Cal C ρ (.raw (.builtin "list.append")) (.ref a :: vs) φ₁ Q)
    (he : starEach [x] C.env = (false, eval x C.env) :: starEach [] C.env := by with_unfolding_all rfl) : Mth C ρ pos (.ref a) "append" [x] φ Q :=
  mth_builtin (by unfold Plain; rw [e]) PySem.F.plainAttrs_list PySem.F.slot_list_append rfl h he rfl
theorem mth_get {pos : Pos} {a : Addr} {l : List (Int × AV)} {ep : Nat} {x : Expr} (e : φ a = some (.idict l ep)) (h : EL C (spliced (backTo pos (starEach [x] C.env))) ρ φ fun vs φ₁ => Cal C ρ (.raw (.builtin "dict.get")) (.ref a :: vs) φ₁ Q)
    (he : starEach [x] C.env = (false, eval x C.env) :: starEach [] C.env := by with_unfolding_all rfl) : Mth C ρ pos (.ref a) "get" [x] φ Q :=
  mth_builtin (by unfold Plain; rw [e]) PySem.F.plainAttrs_dict PySem.F.slot_dict_get rfl h he rfl
theorem mth_dpop {pos : Pos} {a : Addr} {l : List (Int × AV)} {ep : Nat} {x : Expr} (e : φ a = some (.idict l ep)) (h : EL C (spliced (backTo pos (starEach [x] C.env))) ρ φ fun vs φ₁ => Cal C ρ (.raw (.builtin "dict.pop")) (.ref a :: vs) φ₁ Q)
    (he : starEach [x] C.env = (false, eval x C.env) :: starEach [] C.env := by with_unfolding_all rfl) : Mth C ρ pos (.ref a) "pop" [x] φ Q :=
  mth_builtin (by unfold Plain; rw [e]) PySem.F.plainAttrs_dict PySem.F.slot_dict_pop rfl h he rfl
end
theorem if_t {P Q : Prop} (h : P) : (true = true → P) ∧ (true = false → Q) := ⟨fun _ => h, fun z => by cases z⟩
theorem if_f {P Q : Prop} (h : Q) : (false = true → P) ∧ (false = false → Q) := ⟨fun z => (by cases z), fun _ => h⟩
theorem WhileK.next {J : Nat → Loc → AH → Prop} {k : Nat} {ρ : Loc} {φ : AH} {R : AF → Loc → AH → Prop} (k' : Nat) (ρ' : Loc) (h : k' < k) (hs : Sub ρ' ρ) (hj : J k' ρ' φ) : WhileK J k R .next ρ φ := ⟨k', h, ρ', hs, hj⟩
theorem LoopK.next {I : Nat → Loc → AH → Prop} {i : Nat} {ρ : Loc} {φ : AH} {R : AF → Loc → AH → Prop} (ρ' : Loc) (hs : Sub ρ' ρ) (hi : I (i + 1) ρ' φ) : LoopK I i R .next ρ φ := ⟨ρ', hs, hi⟩
noncomputable def rlist (ra : Int → Addr) (ks : List Int) : List AV := ks.map fun k => .ref (ra k)

section
variable {W : Wd} {φ₀ φ : AH} {a : Adr} {m : Mdl}
theorem s_cha (ok : W.Ok) (F : Facts W.K) (r : Rep φ₀ φ a m) {f g : Int} (hf : f ∈ m.pks) {c : List Int} (hp : Path m.keys m.nx (m.pr f).first c) (hz : c.length ≤ 1000) : Spec W 2 140 [.ref a.S, .ref (a.pa f), .int g] φ
    (fun b φ' => ∃ d, b = .ref d ∧ φ d = none ∧ φ' = upd φ d (.list (rlist a.ra (c.filter fun k => vis (m.rc k) g)))) := by
  refine spec_def ok (names := ["self", "proc", "g"]) F.aCha (by walk_at "m bind") rfl (fun A l cd G Rk hRk => ?_)
  show XS _ (execs (_ :: _) _) _ _ _
  walk_at "m s"
  refine ev_list ?_
  walk_at "m s"
  refine ⟨Nat.zero_le _, fun d hd => ?_⟩
  have hP := (r.keep (Ext.new (o := .list []) hd)).prc f hf
  unfold prcO at hP
  walk_at "m s"
  refine XS.sub (ρ' := [("place", .int (m.pr f).first), ("found", .ref d), ("self", .ref a.S), ("proc", .ref (a.pa f)), ("g", .int g)]) ?_ (by walk_at "m sub")
  refine x_while (fun k ρ φ' => ∃ c1 c2 p, c = c1 ++ c2 ∧ k = c2.length ∧ Path m.keys m.nx p c2 ∧ ρ = ([("place", .int p), ("found", .ref d), ("self", .ref a.S), ("proc", .ref (a.pa f)), ("g", .int g)] : Loc) ∧ φ' = upd φ d (.list (rlist a.ra (c1.filter fun k => vis (m.rc k) g)))) c.length ⟨[], c, _, rfl, rfl, hp, rfl, rfl⟩ ?_
  clear hP
  rintro _ _ _ ⟨c1, c2, p, hc, rfl, hp2, rfl, rfl⟩
  have r₁ := r.keep (Ext.new (o := .list (rlist a.ra (c1.filter fun k => vis (m.rc k) g))) hd)
  walk_at "m s"
  refine ⟨fun h Rj hRj => ?_, fun h => ?_⟩
  · have h := of_decide_eq_true h
    cases c2 with
    | nil => have : p < 0 := hp2; omega
    | cons k c3 =>
      obtain ⟨rfl, _, hk, hp3⟩ := hp2
      have hS := r₁.sto
      obtain ⟨ep, hD⟩ := r₁.rdc
      have hR := r₁.rec_ p hk
      unfold stoO at hS
      unfold recO at hR
      show XS _ (execs (_ :: _) _) _ _ _
      walk_at "m s"
      refine subt_idict hD (dget_refs hk) ?_
      walk_at "m s"
      refine cal_spec ((s_vis ok F (r₁.rec_ p hk)).mono ?_)
      rintro _ _ ⟨rfl, rfl⟩
      walk_at "m s"
      refine ⟨fun hv => ?_, fun hv => ?_⟩
      · show XS _ (execs (_ :: _) _) _ _ _
        walk_at "m s"
        refine mth_append (upd_self ..) ?_
        walk_at "m s"
        have e2 : rlist a.ra (c1.filter fun k => vis (m.rc k) g) ++ [.ref (a.ra p)] = rlist a.ra ((c1 ++ [p]).filter fun k => vis (m.rc k) g) := by simp [rlist, hv]
        refine cal_append (upd_self ..) ?_ ?_
        · rw [upd_upd, e2]
          have hR₂ := (r.keep (Ext.new (o := .list (rlist a.ra ((c1 ++ [p]).filter fun k => vis (m.rc k) g))) hd)).rec_ p hk
          unfold recO at hR₂
          walk_at "m s"
          exact WhileK.next c3.length [("place", .int (m.rc p).next), ("found", .ref d), ("self", .ref a.S), ("proc", .ref (a.pa f)), ("g", .int g)] (Nat.lt_succ_self _) (by walk_at "m sub") ⟨c1 ++ [p], c3, _, by simp [hc], rfl, hp3, rfl, rfl⟩
        · have h1 := List.length_filter_le (fun k => vis (m.rc k) g) c1
          have h2 : c.length = c1.length + (c3.length + 1) := by rw [hc]; simp
          unfold rlist
          rw [List.length_map]; omega
      · have e2 : rlist a.ra (c1.filter fun k => vis (m.rc k) g) = rlist a.ra ((c1 ++ [p]).filter fun k => vis (m.rc k) g) := by simp [rlist, hv]
        walk_at "m s"
        rw [e2]
        exact WhileK.next c3.length [("place", .int (m.rc p).next), ("found", .ref d), ("self", .ref a.S), ("proc", .ref (a.pa f)), ("g", .int g)] (Nat.lt_succ_self _) (by walk_at "m sub") ⟨c1 ++ [p], c3, _, by simp [hc], rfl, hp3, rfl, rfl⟩
  · have h : ¬ 0 ≤ p := of_decide_eq_false h
    cases c2 with
    | cons k c3 => exact absurd (hp2.1 ▸ hp2.2.1) h
    | nil =>
      rw [List.append_nil] at hc
      subst hc
      walk_at "m s"
      exact ⟨d, rfl, hd, rfl⟩
theorem s_era (ok : W.Ok) (F : Facts W.K) (r : Rep φ₀ φ a m) {k : Int} : Spec W 1 147 [.ref a.S, .int k] φ
    (fun b φ' => (k ∈ m.keys ∧ (m.rc k).death < 0 ∧ b = .bool true ∧ Rep φ₀ φ' a ({ m with gen := m.gen + 1 }.setR k { m.rc k with death := m.gen + 1 })) ∨ (¬ (k ∈ m.keys ∧ (m.rc k).death < 0) ∧ b = .bool false ∧ φ' = φ)) := by
  refine spec_def ok (names := ["self", "record_key"]) F.aEra (by walk_at "m bind") rfl (fun A l cd G Rk hRk => ?_)
  show XS _ (execs (_ :: _) _) _ _ _
  have hS := r.sto
  unfold stoO at hS
  obtain ⟨ep, hD⟩ := r.rdc
  walk_at "m s"
  refine mth_get hD ?_
  walk_at "m s"
  refine cal_get hD ?_
  by_cases hk : k ∈ m.keys
  · rw [dget_refs hk]
    show XS _ _ ((_, AV.ref (a.ra k)) :: _) _ _
    have hR := r.rec_ k hk
    unfold recO at hR
    walk_at "m s"
    refine ⟨fun h => (by cases h), fun _ => ?_⟩
    walk_at "m s"
    refine ⟨fun h => ?_, fun h => ?_⟩
    · refine if_t ?_
      walk_at "m s"
      refine .inr ⟨fun z => ?_, rfl, rfl⟩
      have := of_decide_eq_true h
      omega
    · have h : (m.rc k).death < 0 := by have := of_decide_eq_false h; omega
      walk_at "m s"
      refine if_f ?_
      walk_at "m s"
      refine XS.cutR (r.setS m.nxt (m.gen + 1)) fun φ₁ r₁ => ?_
      clear hS hR
      have hS := r₁.sto
      have hR := r₁.rec_ k hk
      unfold stoO at hS
      unfold recO at hR
      walk_at "m s"
      refine XS.cutR (r₁.setR hk { m.rc k with death := m.gen + 1 }) fun φ₂ r₂ => ?_
      walk_at "m s"
      exact .inl ⟨hk, h, rfl, r₂⟩
  · rw [dget_refs_none hk]
    show XS _ _ ((_, AV.none) :: _) _ _
    walk_at "m s"
    refine ⟨fun _ => ?_, fun h => by cases h⟩
    refine if_t ?_
    walk_at "m s"
    exact .inr ⟨fun z => hk z.1, rfl, rfl⟩
end

theorem if_b {b : Bool} {P Q : Prop} (h1 : b = true → P) (h2 : b = false → Q) : (b = true → P) ∧ (b = false → Q) := ⟨h1, h2⟩
noncomputable def killN (m : Mdl) (ls : List Int) : Mdl := { m with rc := fun k => if k ∈ ls then { m.rc k with death := m.gen } else m.rc k }
theorem killN_nil (m : Mdl) : killN m [] = m := by simp [killN]
theorem killN_next (m : Mdl) (ls : List Int) (k : Int) : killN m (ls ++ [k]) = (killN m ls).setR k { (killN m ls).rc k with death := m.gen } := by
  unfold killN Mdl.setR
  simp only
  congr 1
  funext j
  by_cases z : j = k
  · subst z
    rw [fset_self]
    by_cases y : j ∈ ls <;> simp [y]
  · rw [fset_ne z]
    simp [z]
theorem rlist_get {ra : Int → Addr} {ls : List Int} {i : Nat} {x : AV} (h : (rlist ra ls)[i]? = some x) : ∃ k, ls[i]? = some k ∧ x = .ref (ra k) ∧ ls.take (i + 1) = ls.take i ++ [k] ∧ k ∈ ls := by
  unfold rlist at h
  rw [List.getElem?_map, Option.map_eq_some_iff] at h
  obtain ⟨k, h1, h2⟩ := h
  exact ⟨k, h1, h2.symm, by rw [List.take_add_one, h1]; rfl, List.mem_of_getElem? h1⟩
theorem rlist_len (ra : Int → Addr) (ls : List Int) : (rlist ra ls).length = ls.length := by unfold rlist; simp
section
variable {W : Wd} {φ₀ φ : AH} {a : Adr} {m : Mdl}
theorem s_kil (ok : W.Ok) (F : Facts W.K) (r : Rep φ₀ φ a m) {f : Int} (hf : f ∈ m.pks) {c : List Int} (hp : Path m.keys m.nx (m.pr f).first c) (hz : c.length ≤ 1000) : Spec W 3 154 [.ref a.S, .ref (a.pa f)] φ
    (fun b φ' => b = .none ∧ Rep φ₀ φ' a (killN { m with gen := if (c.filter fun k => vis (m.rc k) m.gen) = [] then m.gen else m.gen + 1 } (c.filter fun k => vis (m.rc k) m.gen))) := by
  refine spec_def ok (names := ["self", "proc"]) F.aKil (by walk_at "m bind") rfl (fun A l cd G Rk hRk => ?_)
  show XS _ (execs (_ :: _) _) _ _ _
  have hS := r.sto
  unfold stoO at hS
  walk_at "m s"
  refine cal_spec ((s_cha ok F r hf hp hz).mono ?_)
  rintro _ _ ⟨d, rfl, hd, rfl⟩
  generalize hls : (c.filter fun k => vis (m.rc k) m.gen) = ls at hRk ⊢
  have hmem : ∀ k ∈ ls, k ∈ m.keys := fun k hk => (hp.mem k (by rw [← hls] at hk; exact (List.mem_filter.mp hk).1)).2
  have hlen : ls.length ≤ 1000 := by rw [← hls]; exact Nat.le_trans (List.length_filter_le _ _) hz
  have r₁ := r.keep (Ext.new (o := .list (rlist a.ra ls)) hd)
  clear hS
  have hS := r₁.sto
  unfold stoO at hS
  walk_at "m s"
  refine cal_len_list (upd_self ..) ?_ (by rw [rlist_len]; omega)
  walk_at "m s"
  -- the loop
  have loop : ∀ g φ₁, Rep φ₀ φ₁ a { m with gen := g } → φ₁ d = some (.list (rlist a.ra ls)) → ∀ (ρ : Loc), Sub ([("living", .ref d), ("self", .ref a.S)] : Loc) ρ →
      XS ⟨W, A, envX "ClauseStore.kill_all" (dScope (m1 4 10)) l 154 cd []⟩ (execs ((dBody (m1 4 10)).drop 2) (envX "ClauseStore.kill_all" (dScope (m1 4 10)) l 154 cd [])) ρ φ₁
        (Post fun v φ' => v = .none ∧ Rep φ₀ φ' a (killN { m with gen := g } ls)) := by
    intro g φ₁ r₁ hd₁ ρ hsub
    refine XS.sub ?_ hsub
    refine x_for_list ?_
    walk_at "m s"
    refine ⟨d, _, rfl, hd₁, fun i ρ φ' => ρ = ([("living", .ref d), ("self", .ref a.S)] : Loc) ∧ φ' d = some (.list (rlist a.ra ls)) ∧ Rep φ₀ φ' a (killN { m with gen := g } (ls.take i)), ⟨rfl, hd₁, by rw [List.take_zero, killN_nil]; exact r₁⟩, ?_, ?_, go_name⟩
    · rintro i x _ φ' hi ⟨rfl, hd', r'⟩
      obtain ⟨k, hk, rfl, ht, hkm⟩ := rlist_get hi
      refine ⟨hd', asn_name fun Rj hRj => ?_⟩
      have hkk : k ∈ (killN { m with gen := g } (ls.take i)).keys := hmem k hkm
      have hS := r'.sto
      have hR := r'.rec_ k hkk
      have hne : d ≠ a.ra k := by intro z; rw [z, hR] at hd'; cases hd'
      unfold stoO at hS
      unfold recO at hR
      show XS _ (execs (_ :: _) _) _ _ _
      walk_at "m s"
      refine XS.cutH (fun φ'' => φ'' d = some (.list (rlist a.ra ls)) ∧ Rep φ₀ φ'' a (killN { m with gen := g } (ls.take (i + 1)))) ⟨by rw [upd_ne hne]; exact hd', ?_⟩ ?_
      · rw [ht, killN_next]; exact r'.setR hkk { (killN { m with gen := g } (ls.take i)).rc k with death := g }
      · rintro φ'' ⟨h1, h2⟩
        walk_at "m s"
        exact LoopK.next [("living", .ref d), ("self", .ref a.S)] (by walk_at "m sub") ⟨rfl, h1, h2⟩
    · rintro _ φ' ⟨rfl, hd', r'⟩
      refine ⟨hd', ?_⟩
      walk_at "m s"
      rw [rlist_len, List.take_length] at r'
      exact ⟨rfl, r'⟩
  rw [rlist_len]
  refine ⟨fun h => ?_, fun h => ?_⟩
  · have h : ls ≠ [] := by
      have := of_decide_eq_true h
      intro z; rw [z] at this; cases this
    rw [if_neg h] at *
    walk_at "m s"
    refine XS.cutH (fun φ' => φ' d = some (.list (rlist a.ra ls)) ∧ Rep φ₀ φ' a { m with gen := m.gen + 1 }) ⟨?_, r₁.setS m.nxt (m.gen + 1)⟩ ?_
    · have hne : d ≠ a.S := by intro z; rw [← z, upd_self] at hS; cases hS
      rw [upd_ne hne]; exact upd_self ..
    · rintro φ' ⟨h1, h2⟩
      walk_at "m s"
      exact (loop (m.gen + 1) φ' h2 h1 _ (by walk_at "m sub")).mono hRk
  · have h : ls = [] := by
      have := of_decide_eq_false h
      cases ls with
      | nil => rfl
      | cons _ _ => exact absurd (by simp) this
    rw [if_pos h] at *
    walk_at "m s"
    exact (loop m.gen _ r₁ (upd_self ..) _ (by walk_at "m sub")).mono hRk
theorem s_snd0 (ok : W.Ok) (F : Facts W.K) {s : Addr} {k f : Int} : Spec W 1 175 [.ref s, .none, .int k, .int f] φ (fun b φ' => φ' = φ ∧ b = .bool false) := by
  refine spec_def ok (names := ["store", "record", "place", "f"]) F.aSnd (by walk_at "m bind") rfl (fun A l cd G Rk hRk => ?_)
  show XS _ (execs (_ :: _) _) _ _ _
  walk_at "m s"
  refine ⟨fun _ => ?_, fun h => (by cases h)⟩
  refine if_t ?_
  walk_at "m s"
  exact ⟨rfl, rfl⟩
theorem s_snd (ok : W.Ok) (F : Facts W.K) (r : Rep φ₀ φ a m) {k f : Int} (hk : k ∈ m.keys) : Spec W 1 175 [.ref a.S, .ref (a.ra k), .int k, .int f] φ (fun b φ' => φ' = φ ∧ ∃ bb, b = .bool bb ∧ (bb = true ↔ snd m k f)) := by
  refine spec_def ok (names := ["store", "record", "place", "f"]) F.aSnd (by walk_at "m bind") rfl (fun A l cd G Rk hRk => ?_)
  show XS _ (execs (_ :: _) _) _ _ _
  have hS := r.sto
  have hR := r.rec_ k hk
  unfold stoO at hS
  unfold recO at hR
  have no : ¬ snd m k f → (false = true ↔ snd m k f) := fun h => ⟨fun z => (by cases z), fun z => absurd z h⟩
  walk_at "m s"
  refine ⟨fun h => (by cases h), fun _ => ?_⟩
  walk_at "m s"
  refine ⟨fun h => if_t ?_, fun h => ?_⟩
  · walk_at "m s"
    refine ⟨rfl, _, rfl, no fun z => ?_⟩
    rw [z.1] at h; simp at h
  have h1 : (m.rc k).key = k := by simpa using h
  walk_at "m s"
  refine ⟨fun h => if_t ?_, fun h => ?_⟩
  · walk_at "m s"
    refine ⟨rfl, _, rfl, no fun z => ?_⟩
    rw [z.2.1] at h; simp at h
  have h2 : (m.rc k).fn = f := by simpa using h
  walk_at "m s"
  refine if_f ?_
  walk_at "m s"
  refine ⟨fun h => if_t ?_, fun h => ?_⟩
  · walk_at "m s"
    refine ⟨rfl, _, rfl, no fun z => ?_⟩
    have := of_decide_eq_true h
    have := z.2.2.1
    omega
  have h3 := of_decide_eq_false h
  walk_at "m s"
  refine ⟨fun h => if_t ?_, fun h => ?_⟩
  · walk_at "m s"
    refine ⟨rfl, _, rfl, no fun z => ?_⟩
    have := of_decide_eq_true h
    have := z.2.2.2.1
    omega
  have h4 := of_decide_eq_false h
  walk_at "m s"
  refine if_f ?_
  walk_at "m s"
  refine ⟨fun h => ?_, fun h => ?_⟩
  · walk_at "m s"
    exact ⟨rfl, _, rfl, ⟨fun _ => ⟨h1, h2, by omega, by omega, .inl (of_decide_eq_true h)⟩, fun _ => rfl⟩⟩
  have h5 := of_decide_eq_false h
  walk_at "m s"
  refine ⟨fun h => ?_, fun h => ?_⟩
  · have h6 := of_decide_eq_true h
    walk_at "m s"
    refine ⟨rfl, _, rfl, ⟨fun h => ⟨h1, h2, by omega, by omega, .inr ⟨h6, of_decide_eq_true h⟩⟩, fun h => ?_⟩⟩
    rcases h.2.2.2.2 with z | z
    · exact absurd z h5
    · exact decide_eq_true z.2
  · have h6 := of_decide_eq_false h
    refine hRk _ _ _ ?_
    refine ⟨rfl, _, rfl, ⟨fun h' => (by rw [h] at h'; cases h'), fun z => ?_⟩⟩
    rcases z.2.2.2.2 with z | z
    · exact absurd z h5
    · exact absurd z.1 h6
end

noncomputable def tdict (L : List Int) : List (Int × AV) := L.map fun k => (k, .bool true)
theorem tdict_len (L : List Int) : (tdict L).length = L.length := by unfold tdict; simp
theorem dget_tdict {k : Int} : ∀ {L : List Int}, (dget k (tdict L)).isSome = decide (k ∈ L)
  | [] => rfl
  | j :: L => by
    unfold dget tdict
    rw [List.map_cons, List.find?_cons]
    by_cases z : j = k
    · subst z; simp
    · rw [decide_eq_false z]
      have := dget_tdict (k := k) (L := L)
      unfold dget tdict at this
      rw [this]
      have z' : ¬ k = j := fun q => z q.symm
      simp [z']
theorem any_tdict {k : Int} (L : List Int) : ((tdict L).any fun p => decide (p.1 = k)) = decide (k ∈ L) := by
  induction L with
  | nil => rfl
  | cons j L ih =>
    show (decide (j = k) || (tdict L).any fun p => decide (p.1 = k)) = _
    rw [ih]
    by_cases z : j = k
    · simp [z]
    · have : ¬ k = j := fun q => z q.symm
      simp [z, this]
theorem dset_tdict {k : Int} {L : List Int} (h : k ∉ L) : dset k (.bool true) (tdict L) = tdict (L ++ [k]) := by
  unfold dset
  rw [any_tdict, decide_eq_false h]
  simp [tdict]
theorem nodup_le : ∀ {l k : List Int}, l.Nodup → (∀ x ∈ l, x ∈ k) → l.length ≤ k.length
  | [], _, _, _ => Nat.zero_le _
  | x :: l, k, h, hs => by
    have hx := hs x (List.mem_cons_self ..)
    obtain ⟨h1, h2⟩ := List.nodup_cons.mp h
    have h3 := nodup_le (l := l) (k := k.erase x) h2 fun y hy => (List.mem_erase_of_ne (show y ≠ x from fun z => h1 (z ▸ hy))).mpr (hs y (List.mem_cons_of_mem _ hy))
    rw [List.length_erase_of_mem hx] at h3
    have := List.length_pos_of_mem hx
    rw [List.length_cons]; omega
section
variable {W : Wd} {φ₀ φ : AH} {a : Adr} {m : Mdl}
theorem getLastD_snoc (c : List Int) (p d : Int) : (c ++ [p]).getLastD d = p := by simp [List.getLastD_eq_getLast?]
theorem s_chk (ok : W.Ok) (F : Facts W.K) (r : Rep φ₀ φ a m) : Spec W 2 182 [.ref a.S, .ref a.P] φ
    (fun b φ' => ∃ bb, b = .bool bb ∧ Ext φ φ' ∧ (bb = true → Snd m) ∧ (∀ ch, Good m ch → bb = true)) := by
  refine spec_def ok (names := ["store", "procs"]) F.aChk (by walk_at "m bind") rfl (fun A l cd G Rk hRk => ?_)
  show XS _ (execs (_ :: _) _) _ _ _
  walk_at "m s"
  refine ev_dict0 fun d ep hd => ?_
  refine XS.sub (ρ' := [("met", .ref d), ("store", .ref a.S), ("procs", .ref a.P)]) ?_ (by walk_at "m sub")
  have keep : ∀ o, Rep φ₀ (upd φ d o) a m := fun o => r.keep (Ext.new hd)
  have hdP : a.P ≠ d := by intro z; obtain ⟨ep, e⟩ := r.pdc; rw [z, hd] at e; cases e
  have hpd : ∃ ep, ∀ o, upd φ d o a.P = some (.idict (refs m.pks a.pa) ep) := by
    obtain ⟨ep, e⟩ := r.pdc; exact ⟨ep, fun o => by rw [upd_ne hdP]; exact e⟩
  obtain ⟨epP, hpd⟩ := hpd
  have no : ∀ φ', Ext φ φ' → (∀ ch, Good m ch → False) → ∃ bb, AV.bool false = .bool bb ∧ Ext φ φ' ∧ (bb = true → Snd m) ∧ (∀ ch, Good m ch → bb = true) :=
    fun φ' x h => ⟨false, rfl, x, fun z => (by cases z), fun ch g => (h ch g).elim⟩
  refine x_for_dict ?_
  walk_at "m s"
  refine ⟨a.P, refs m.pks a.pa, epP, rfl, hpd _, fun i ρ φ' => ρ = ([("met", .ref d), ("store", .ref a.S), ("procs", .ref a.P)] : Loc) ∧ ∃ L ep, φ' = upd φ d (.idict (tdict L) ep) ∧ L.Nodup ∧ (∀ k ∈ L, k ∈ m.keys ∧ (m.rc k).fn ∈ m.pks.take i) ∧
    ∀ f ∈ m.pks.take i, ∃ c, Path m.keys m.nx (m.pr f).first c ∧ c.Nodup ∧ (∀ k ∈ c, snd m k f) ∧ (m.pr f).last = c.getLastD (-1) ∧ ((m.pr f).kind ≠ "dynamic" → c = []), ⟨rfl, [], ep, rfl, .nil, fun k hk => (by cases hk), fun f hf => (by simp at hf)⟩, ?_, ?_⟩
  · rintro i ⟨f, v⟩ _ _ hi ⟨rfl, L, ep, rfl, hL1, hL2, hdone⟩
    refine ⟨⟨refs m.pks a.pa, rfl, hpd _⟩, asn_name fun Rj hRj => ?_⟩
    have hfi : m.pks[i]? = some f := by
      unfold refs at hi
      rw [List.getElem?_map, Option.map_eq_some_iff] at hi
      obtain ⟨j, h1, h2⟩ := hi
      cases h2; exact h1
    have hf : f ∈ m.pks := List.mem_of_getElem? hfi
    have htk : m.pks.take (i + 1) = m.pks.take i ++ [f] := by rw [List.take_add_one, hfi]; rfl
    have hP := (keep (.idict (tdict L) ep)).prc f hf
    unfold prcO at hP
    show XS _ (execs (_ :: _) _) _ _ _
    walk_at "m s"
    refine subt_idict (hpd _) (dget_refs hf) ?_
    walk_at "m s"
    refine XS.sub (ρ' := [("place", .int (m.pr f).first), ("last", .int (-1)), ("proc", .ref (a.pa f)), ("f", .int f), ("met", .ref d), ("store", .ref a.S), ("procs", .ref a.P)]) ?_ (by walk_at "m sub")
    refine x_while (fun n ρ φ' => ∃ c p ep, ρ = ([("place", .int p), ("last", .int (c.getLastD (-1))), ("proc", .ref (a.pa f)), ("f", .int f), ("met", .ref d), ("store", .ref a.S), ("procs", .ref a.P)] : Loc) ∧ φ' = upd φ d (.idict (tdict (L ++ c)) ep) ∧ Seg m.nx (m.pr f).first c p ∧
      (∀ k ∈ c, 0 ≤ k ∧ k ∈ m.keys ∧ snd m k f) ∧ (L ++ c).Nodup ∧ n = m.keys.length - (L ++ c).length) (m.keys.length - L.length) ⟨[], _, ep, rfl, by rw [List.append_nil], rfl, fun k hk => (by cases hk), by rw [List.append_nil]; exact hL1, by rw [List.append_nil]⟩ ?_
    clear hP
    rintro _ _ _ ⟨c, p, ep, rfl, rfl, hseg, hc, hnd, rfl⟩
    have r₁ := keep (.idict (tdict (L ++ c)) ep)
    have hP := r₁.prc f hf
    have hS := r₁.sto
    unfold prcO at hP
    unfold stoO at hS
    have hsub : ∀ x ∈ L ++ c, x ∈ m.keys := fun x hx => by
      rcases List.mem_append.mp hx with h | h
      · exact (hL2 x h).1
      · exact (hc x h).2.1
    have hle := nodup_le hnd hsub
    have goodp : ∀ ch, Good m ch → ∃ c', ch f = c ++ c' ∧ Path m.keys m.nx p c' := fun ch g => Seg.split hseg (g.path f hf) fun k hk => (hc k hk).1
    have E : ∀ o, Ext φ (upd φ d o) := fun o => Ext.new hd
    walk_at "m s"
    refine ⟨fun h Rj hRj => ?_, fun h => ?_⟩
    · have h0 : 0 ≤ p := of_decide_eq_true h
      have goodk : ∀ ch, Good m ch → p ∈ m.keys ∧ snd m p f ∧ p ∉ L ++ c := fun ch g => by
        obtain ⟨c', e, hp⟩ := goodp ch g
        cases c' with
        | nil => have : p < 0 := hp; omega
        | cons k c' =>
          obtain ⟨rfl, _, hk, _⟩ := hp
          have hm : p ∈ ch f := by rw [e]; simp
          refine ⟨hk, (g.sound hf hm).2, fun z => ?_⟩
          rcases List.mem_append.mp z with z | z
          · have h1 := (hL2 p z).2
            rw [g.fn f hf p hm] at h1
            have h2 := g.pnd
            rw [← List.take_append_drop (i + 1) m.pks, htk] at h2
            have h3 := (List.nodup_append.mp h2).1
            exact (List.nodup_append.mp h3).2.2 f h1 f (by simp) rfl
          · have h1 := g.nodup f hf
            rw [e] at h1
            exact (List.nodup_append.mp h1).2.2 p z p (by simp) rfl
      obtain ⟨epD, hD⟩ := r₁.rdc
      show XS _ (execs (_ :: _) _) _ _ _
      walk_at "m s"
      refine mth_get hD ?_
      walk_at "m s"
      refine cal_get hD ?_
      walk_at "m s"
      refine cmp_in (upd_self ..) ?_
      rw [dget_tdict]
      walk_at "m s"
      refine ⟨fun h => if_t ?_, fun h => ?_⟩
      · have hin := of_decide_eq_true h
        walk_at "m s"
        exact no _ (E _) fun ch g => (goodk ch g).2.2 hin
      have hnin : p ∉ L ++ c := of_decide_eq_false h
      walk_at "m s"
      by_cases hk : p ∈ m.keys
      · rw [dget_refs hk]
        refine cal_spec ((s_snd ok F r₁ hk).mono ?_)
        rintro _ _ ⟨rfl, bb, rfl, hbb⟩
        walk_at "m s"
        refine ⟨fun h => if_t ?_, fun h => ?_⟩
        · walk_at "m s"
          refine no _ (E _) fun ch g => ?_
          have := hbb.mpr (goodk ch g).2.1
          rw [this] at h; cases h
        have hs : snd m p f := hbb.mp (by simpa using h)
        have hR := r₁.rec_ p hk
        walk_at "m s"
        refine if_f ?_
        walk_at "m s"
        refine seti_idict (upd_self ..) (fun ep' => ?_) (by rw [tdict_len]; have := r.sml; omega)
        rw [dset_tdict hnin, upd_upd]
        clear hR hP hS
        have hR := (keep (.idict (tdict (L ++ c ++ [p])) ep')).rec_ p hk
        unfold recO at hR
        show XS _ _ ((_, AV.ref (a.ra p)) :: _) _ _
        walk_at "m s"
        have hnd' : (L ++ (c ++ [p])).Nodup := by
          rw [← List.append_assoc]
          exact List.nodup_append.mpr ⟨hnd, by simp, fun x hx y hy z => hnin (by rw [List.mem_singleton.mp hy] at z; exact z ▸ hx)⟩
        have hle' := nodup_le hnd' (fun x hx => by
          rw [← List.append_assoc] at hx
          rcases List.mem_append.mp hx with h | h
          · exact hsub x h
          · rw [List.mem_singleton.mp h]; exact hk)
        refine WhileK.next (m.keys.length - (L ++ (c ++ [p])).length) [("place", .int (m.rc p).next), ("last", .int p), ("proc", .ref (a.pa f)), ("f", .int f), ("met", .ref d), ("store", .ref a.S), ("procs", .ref a.P)] ?_ (by walk_at "m sub")
          ⟨c ++ [p], _, ep', by rw [getLastD_snoc]; rfl, by rw [List.append_assoc], Seg.snoc hseg, fun k hk' => ?_, hnd', rfl⟩
        · simp only [List.length_append, List.length_singleton] at hle' ⊢
          omega
        · rcases List.mem_append.mp hk' with h | h
          · exact hc k h
          · rw [List.mem_singleton.mp h]; exact ⟨h0, hk, hs⟩
      · rw [dget_refs_none hk]
        refine cal_spec (s_snd0 ok F |>.mono ?_)
        rintro _ _ ⟨rfl, rfl⟩
        walk_at "m s"
        refine ⟨fun _ => if_t ?_, fun h => (by cases h)⟩
        walk_at "m s"
        exact no _ (E _) fun ch g => hk (goodk ch g).1
    · have h0 : ¬ 0 ≤ p := of_decide_eq_false h
      have h0' : p < 0 := by omega
      have hpath : Path m.keys m.nx (m.pr f).first c := Seg.path hseg h0' fun k hk => ⟨(hc k hk).1, (hc k hk).2.1⟩
      have gc : ∀ ch, Good m ch → ch f = c := fun ch g => by
        obtain ⟨c', e, hp⟩ := goodp ch g
        cases c' with
        | nil => rw [e, List.append_nil]
        | cons k c' => exact absurd (hp.1 ▸ hp.2.1) h0
      walk_at "m s"
      refine ⟨fun h => ?_, fun h => ?_⟩
      · walk_at "m s"
        refine no _ (E _) fun ch g => ?_
        have := g.last f hf
        rw [gc ch g] at this
        rw [this] at h; simp at h
      have hlast : (m.pr f).last = c.getLastD (-1) := by
        have : c.getLastD (-1) = (m.pr f).last := by simpa using h
        exact this.symm
      walk_at "m s"
      have fin : ((m.pr f).kind ≠ "dynamic" → c = []) → ∀ ρ : Loc, Sub ([("met", .ref d), ("store", .ref a.S), ("procs", .ref a.P)] : Loc) ρ → ∃ ρ', Sub ρ' ρ ∧ (ρ' = ([("met", .ref d), ("store", .ref a.S), ("procs", .ref a.P)] : Loc) ∧ ∃ L' ep', upd φ d (.idict (tdict (L ++ c)) ep) = upd φ d (.idict (tdict L') ep') ∧ L'.Nodup ∧ (∀ k ∈ L', k ∈ m.keys ∧ (m.rc k).fn ∈ m.pks.take (i + 1)) ∧
          ∀ f ∈ m.pks.take (i + 1), ∃ c, Path m.keys m.nx (m.pr f).first c ∧ c.Nodup ∧ (∀ k ∈ c, snd m k f) ∧ (m.pr f).last = c.getLastD (-1) ∧ ((m.pr f).kind ≠ "dynamic" → c = [])) := fun hkd ρ hsub' => by
        refine ⟨_, hsub', rfl, L ++ c, ep, rfl, hnd, fun k hk => ?_, fun f' hf' => ?_⟩
        · rw [htk]
          rcases List.mem_append.mp hk with h | h
          · exact ⟨(hL2 k h).1, List.mem_append_left _ (hL2 k h).2⟩
          · exact ⟨(hc k h).2.1, List.mem_append_right _ (by rw [(hc k h).2.2.2.1]; simp)⟩
        · rw [htk] at hf'
          rcases List.mem_append.mp hf' with h | h
          · exact hdone f' h
          · rw [List.mem_singleton.mp h]
            exact ⟨c, hpath, (List.nodup_append.mp hnd).2.1, fun k hk => (hc k hk).2.2, hlast, hkd⟩
      refine ⟨fun h => ?_, fun h => ?_⟩
      · walk_at "m s"
        refine ⟨fun h' => ?_, fun h' => ?_⟩
        · walk_at "m s"
          refine if_t ?_
          walk_at "m s"
          refine no _ (E _) fun ch g => ?_
          have h1 : (m.pr f).kind ≠ "dynamic" := by simpa using h
          have h2 := g.kind f hf h1
          rw [gc ch g] at h2
          have h3 := of_decide_eq_true h'
          rw [h2] at h3
          have h4 : (0 : Int) ≤ -1 := h3
          omega
        · refine if_f ?_
          walk_at "m s"
          refine fin (fun _ => ?_) _ (by walk_at "m sub")
          have h3 := of_decide_eq_false h'
          cases hcc : c with
          | nil => rfl
          | cons k c' =>
            have := (hc _ (getLastD_mem (c := c) (by rw [hcc]; simp) (-1))).1
            exact absurd this h3
      · refine if_f ?_
        walk_at "m s"
        refine fin (fun z => ?_) _ (by walk_at "m sub")
        have h1 : (m.pr f).kind = "dynamic" := by simpa using h
        exact absurd h1 z
  · rintro _ _ ⟨rfl, L, ep, rfl, hL1, hL2, hdone⟩
    refine ⟨⟨refs m.pks a.pa, rfl, hpd _⟩, ?_⟩
    walk_at "m s"
    refine ⟨true, rfl, Ext.new hd, fun _ f hf => ?_, fun _ _ => rfl⟩
    rw [refs_len, List.take_length] at hdone
    exact hdone f hf
end

theorem path_snoc {keys : List Int} {nx nx' : Int → Int} {p q k : Int} {l : List Int} (h : Path keys nx p (l ++ [q])) (h0 : 0 ≤ k) (hk : k ∈ keys) (e1 : nx' q = k) (e2 : nx' k < 0) (e3 : ∀ j ∈ l, nx' j = nx j) : Path keys nx' p (l ++ [q] ++ [k]) := by
  obtain ⟨x, h1, h2⟩ := Path.seg h
  obtain ⟨rfl, h3, h4, _⟩ := h2
  rw [List.append_assoc]
  exact Path.join (Seg.frame h1 e3) (fun j hj => h.mem j (List.mem_append_left _ hj)) ⟨rfl, h3, h4, by rw [e1]; exact ⟨rfl, h0, hk, e2⟩⟩
section
variable {W : Wd} {φ₀ φ : AH} {a : Adr} {m : Mdl}
theorem Rep.other (r : Rep φ₀ φ a m) {d : Addr} {l : List (Int × AV)} {ep : Nat} {o : AO} (e : φ d = some (.idict l ep)) (hR : d ≠ a.R) (hP : d ≠ a.P) (h0 : φ₀ d = none) : Rep φ₀ (upd φ d o) a m := by
  have ne : ∀ {b o'}, φ b = some o' → (∀ l ep, o' ≠ .idict l ep) → upd φ d o b = some o' := fun {b o'} h1 h2 => by
    rw [upd_ne]
    · exact h1
    · intro z; rw [z, e] at h1; cases h1; exact h2 _ _ rfl
  exact ⟨r.ext.put h0, ne r.sto (fun _ _ z => by cases z), let ⟨ep, e⟩ := r.rdc; ⟨ep, by rw [upd_ne (Ne.symm hR)]; exact e⟩, let ⟨ep, e⟩ := r.pdc; ⟨ep, by rw [upd_ne (Ne.symm hP)]; exact e⟩,
    fun k h => ne (r.rec_ k h) (fun _ _ z => by cases z), fun f h => ne (r.prc f h) (fun _ _ z => by cases z), r.nS, r.nR, r.nP, r.nrc, r.npr, r.hRP, r.rin, r.pin, r.sml⟩
theorem Rep.swap (r : Rep φ₀ φ a m) {d : Addr} {K : List Int} {ep : Nat} (e : φ d = some (.idict (refs K a.ra) ep)) (hP : d ≠ a.P) (h0 : φ₀ d = none) (hK : ∀ k ∈ K, k ∈ m.keys) (hz : K.length ≤ 1000) :
    Rep φ₀ (upd φ a.S (stoO d m.nxt m.gen)) { a with R := d } { m with keys := K } := by
  have eS := r.sto
  have ne : ∀ {b o'}, φ b = some o' → (∀ R n g, o' ≠ stoO R n g) → upd φ a.S (stoO d m.nxt m.gen) b = some o' := fun {b o'} h1 h2 => by
    rw [upd_ne]
    · exact h1
    · intro z; rw [z, eS] at h1; cases h1; exact h2 _ _ _ rfl
  exact ⟨r.ext.put r.nS, upd_self .., ⟨ep, ne e (fun _ _ _ z => by cases z)⟩, let ⟨ep, e⟩ := r.pdc; ⟨ep, ne e (fun _ _ _ z => by cases z)⟩,
    fun j hj => ne (r.rec_ j (hK j hj)) (fun _ _ _ z => by unfold stoO recO at z; injection z with z1 z2; cases z1), fun j hj => ne (r.prc j hj) (fun _ _ _ z => by unfold stoO prcO at z; injection z with z1 z2; cases z1), r.nS, h0, r.nP, fun j hj => r.nrc j (hK j hj), r.npr, hP, fun i hi j hj => r.rin i (hK i hi) j (hK j hj), r.pin, hz⟩

noncomputable def al (m : Mdl) (ch : Int → List Int) (f : Int) : List Int := (ch f).filter fun k => liv (m.rc k)
def Same (r r' : Rec) : Prop := r'.key = r.key ∧ r'.fn = r.fn ∧ r'.birth = r.birth ∧ r'.death = r.death
/-- the store in the midst of a sweep -/
structure Sw (m : Mdl) (ch : Int → List Int) (μ : Mdl) (ds us : List Int) : Prop where
  keys : μ.keys = m.keys
  nxt : μ.nxt = m.nxt
  gen : μ.gen = m.gen
  pks : μ.pks = m.pks
  rc : ∀ k, Same (m.rc k) (μ.rc k)
  pr : ∀ f, (μ.pr f).fn = (m.pr f).fn ∧ (μ.pr f).kind = (m.pr f).kind
  un : ∀ f ∈ us, μ.pr f = m.pr f ∧ ∀ k ∈ ch f, μ.rc k = m.rc k
  dn : ∀ f ∈ ds, Path m.keys μ.nx (μ.pr f).first (al m ch f) ∧ (μ.pr f).last = (al m ch f).getLastD (-1)
theorem Same.refl (r : Rec) : Same r r := ⟨rfl, rfl, rfl, rfl⟩
theorem Sw.next {ch : Int → List Int} {μ : Mdl} {ds us : List Int} (s : Sw m ch μ ds us) {k v : Int} (h : ∀ f ∈ ds ++ us, k ∉ ch f) : Sw m ch (μ.setNext k v) ds us := by
  have hne : ∀ f ∈ ds ++ us, ∀ j ∈ ch f, (fset μ.rc k { μ.rc k with next := v }) j = μ.rc j := fun f hf j hj => fset_ne fun z => h f hf (z ▸ hj)
  refine ⟨s.keys, s.nxt, s.gen, s.pks, fun j => ?_, s.pr, fun f hf => ⟨(s.un f hf).1, fun j hj => (hne f (List.mem_append_right _ hf) j hj).trans ((s.un f hf).2 j hj)⟩, fun f hf => ⟨(s.dn f hf).1.frame fun j hj => ⟨?_, ((s.dn f hf).1.mem j hj).2⟩, (s.dn f hf).2⟩⟩
  · show Same (m.rc j) (fset μ.rc k { μ.rc k with next := v } j)
    by_cases z : j = k
    · subst z; rw [fset_self]; exact s.rc j
    · rw [fset_ne z]; exact s.rc j
  · show ((fset μ.rc k { μ.rc k with next := v }) j).next = (μ.rc j).next
    rw [hne f (List.mem_append_left _ hf) j (List.mem_filter.mp hj).1]
theorem Sw.proc {ch : Int → List Int} {μ : Mdl} {ds us : List Int} (s : Sw m ch μ ds us) {f : Int} {p : Prc} (h : f ∉ ds ++ us) (h1 : p.fn = (μ.pr f).fn) (h2 : p.kind = (μ.pr f).kind) : Sw m ch (μ.setP f p) ds us := by
  have hne : ∀ g ∈ ds ++ us, (fset μ.pr f p) g = μ.pr g := fun g hg => fset_ne fun z => h (z ▸ hg)
  refine ⟨s.keys, s.nxt, s.gen, s.pks, s.rc, fun g => ?_, fun g hg => ⟨(hne g (List.mem_append_right _ hg)).trans (s.un g hg).1, (s.un g hg).2⟩, fun g hg => ?_⟩
  · show ((fset μ.pr f p) g).fn = _ ∧ ((fset μ.pr f p) g).kind = _
    by_cases z : g = f
    · subst z; rw [fset_self, h1, h2]; exact s.pr g
    · rw [fset_ne z]; exact s.pr g
  · show Path m.keys μ.nx ((fset μ.pr f p) g).first _ ∧ ((fset μ.pr f p) g).last = _
    rw [hne g (List.mem_append_left _ hg)]
    exact s.dn g hg
end

section
variable {W : Wd} {φ₀ φ : AH} {a : Adr} {m : Mdl}
theorem Sw.good {ch : Int → List Int} {μ : Mdl} (g : Good m ch) (s : Sw m ch μ m.pks []) {K : List Int} (hK : K = (m.pks.map (al m ch)).flatten) (hn : K.Nodup) : Good { μ with keys := K } (al m ch) := by
  have mem : ∀ k, k ∈ K ↔ ∃ f ∈ m.pks, k ∈ al m ch f := fun k => by
    rw [hK, List.mem_flatten]
    constructor
    · rintro ⟨l, hl, hk⟩; obtain ⟨f, hf, rfl⟩ := List.mem_map.mp hl; exact ⟨f, hf, hk⟩
    · rintro ⟨f, hf, hk⟩; exact ⟨_, List.mem_map_of_mem hf, hk⟩
  have sub : ∀ k ∈ K, k ∈ m.keys := fun k hk => by
    obtain ⟨f, hf, h⟩ := (mem k).mp hk
    exact (g.kin k).mpr ⟨f, hf, (List.mem_filter.mp h).1⟩
  refine ⟨hn, fun k => by rw [mem k]; show _ ↔ ∃ f ∈ μ.pks, _; rw [s.pks], ?_, ?_, ?_, ?_, ?_, ?_, ?_, ?_, ?_, ?_, ?_, ?_, ?_⟩
  · intro f hf
    have hf : f ∈ m.pks := s.pks ▸ hf
    exact (s.dn f hf).1.frame fun k hk => ⟨rfl, (mem k).mpr ⟨f, hf, hk⟩⟩
  · intro f hf
    exact (s.dn f (s.pks ▸ hf)).2
  · intro f hf
    exact List.Pairwise.filter _ (g.nodup f (s.pks ▸ hf))
  · intro f hf k hk
    exact (s.rc k).2.1.trans (g.fn f (s.pks ▸ hf) k (List.mem_filter.mp hk).1)
  · intro k hk
    exact (s.rc k).1.trans (g.key k (sub k hk))
  · intro k hk
    have h1 := g.born k (sub k hk)
    have h2 := (s.rc k).2.2.1
    show 1 ≤ (μ.rc k).birth ∧ (μ.rc k).birth ≤ μ.gen
    rw [h2, s.gen]; exact h1
  · intro k hk
    have h1 := g.died k (sub k hk)
    show (μ.rc k).death < 0 ∨ ((μ.rc k).birth < (μ.rc k).death ∧ (μ.rc k).death ≤ μ.gen)
    rw [(s.rc k).2.2.1, (s.rc k).2.2.2, s.gen]; exact h1
  · intro k hk
    show 0 ≤ k ∧ k < μ.nxt
    rw [s.nxt]; exact g.rng k (sub k hk)
  · intro f hf
    exact (s.pr f).1.trans (g.pfn f (s.pks ▸ hf))
  · intro f hf h
    have : (m.pr f).kind ≠ "dynamic" := (s.pr f).2 ▸ h
    unfold al
    rw [g.kind f (s.pks ▸ hf) this]; rfl
  · show μ.pks.Nodup
    rw [s.pks]; exact g.pnd
  · show 0 ≤ μ.gen
    rw [s.gen]; exact g.gen0
  · show 0 ≤ μ.nxt
    rw [s.nxt]; exact g.nxt0
theorem Sw.less {ch : Int → List Int} {μ : Mdl} {ds us us' : List Int} (s : Sw m ch μ ds us) (h : ∀ f ∈ us', f ∈ us) : Sw m ch μ ds us' := ⟨s.keys, s.nxt, s.gen, s.pks, s.rc, s.pr, fun f hf => s.un f (h f hf), s.dn⟩
theorem Sw.more {ch : Int → List Int} {μ : Mdl} {ds us : List Int} (s : Sw m ch μ ds us) {f : Int} (h : Path m.keys μ.nx (μ.pr f).first (al m ch f) ∧ (μ.pr f).last = (al m ch f).getLastD (-1)) : Sw m ch μ (ds ++ [f]) us :=
  ⟨s.keys, s.nxt, s.gen, s.pks, s.rc, s.pr, s.un, fun g hg => by
    rcases List.mem_append.mp hg with hg | hg
    · exact s.dn g hg
    · rw [List.mem_singleton.mp hg]; exact h⟩
theorem Sw.setFirst {ch : Int → List Int} {μ : Mdl} {ds us : List Int} (s : Sw m ch μ ds us) {f v : Int} (h : f ∉ ds ++ us) : Sw m ch (μ.setFirst f v) ds us := s.proc (p := { μ.pr f with first := v }) h rfl rfl
theorem Sw.setLast {ch : Int → List Int} {μ : Mdl} {ds us : List Int} (s : Sw m ch μ ds us) {f v : Int} (h : f ∉ ds ++ us) : Sw m ch (μ.setLast f v) ds us := s.proc (p := { μ.pr f with last := v }) h rfl rfl
/-- what a turn of the inner loop makes -/
noncomputable def swS (μ : Mdl) (f k : Int) : Mdl := (if (μ.pr f).first < 0 then μ.setFirst f k else μ.setNext (μ.pr f).last k)
noncomputable def swE (μ : Mdl) (f k : Int) : Mdl := (μ.setNext k (-1)).setLast f k
theorem sw_turn {ch : Int → List Int} (g : Good m ch) {μ : Mdl} {ds us l : List Int} {f k : Int} (s : Sw m ch μ ds us) (hf : f ∉ ds ++ us) (hp : f ∈ m.pks) (hds : ∀ f' ∈ ds ++ us, f' ∈ m.pks) (hl : ∀ j ∈ l, j ∈ ch f) (hk : k ∈ ch f) (hn : k ∉ l)
    (h1 : Path m.keys μ.nx (μ.pr f).first l) (h2 : (μ.pr f).last = l.getLastD (-1)) (hnd : l.Nodup) :
    Sw m ch (swE (swS μ f k) f k) ds us ∧ Path m.keys (swE (swS μ f k) f k).nx ((swE (swS μ f k) f k).pr f).first (l ++ [k]) ∧ ((swE (swS μ f k) f k).pr f).last = (l ++ [k]).getLastD (-1) := by
  have hkk := (g.kin k).mpr ⟨f, hp, hk⟩
  have h0 := (g.rng k hkk).1
  have hother : ∀ j ∈ ch f, ∀ f' ∈ ds ++ us, j ∉ ch f' := fun j hj f' hf' z => hf ((g.fn f hp j hj).symm.trans (g.fn f' (hds f' hf') j z) ▸ hf')
  by_cases hc : (μ.pr f).first < 0
  · have hl0 : l = [] := by
      cases l with
      | nil => rfl
      | cons j l => have := h1.1; have := h1.2.1; omega
    subst hl0
    have e : swS μ f k = μ.setFirst f k := if_pos hc
    rw [e]
    refine ⟨((s.setFirst hf).next (hother k hk)).setLast hf, ?_, ?_⟩
    · refine ⟨?_, h0, hkk, ?_⟩
      · show ((fset (fset μ.pr f _) f _) f).first = k
        rw [fset_self]
        show ((fset μ.pr f _) f).first = k
        rw [fset_self]
      · show ((fset μ.rc k _) k).next < 0
        rw [fset_self]; exact (show (-1 : Int) < 0 by decide)
    · show ((fset (fset μ.pr f _) f _) f).last = k
      rw [fset_self]
  · have hl0 : l ≠ [] := by intro z; subst z; exact hc h1
    obtain ⟨l', e'⟩ := split_last hl0 (-1)
    rw [← h2] at e'
    generalize hq : (μ.pr f).last = q at *
    have hqm : q ∈ l := by rw [e']; simp
    have hqk : k ≠ q := fun z => hn (z ▸ hqm)
    have e : swS μ f k = μ.setNext q k := by unfold swS; rw [if_neg hc, hq]
    rw [e]
    refine ⟨((s.next (hother q (hl q hqm))).next (hother k hk)).setLast hf, ?_, ?_⟩
    · show Path m.keys _ ((fset μ.pr f _) f).first _
      rw [fset_self, e']
      rw [e'] at h1 hnd
      refine path_snoc (nx := μ.nx) h1 h0 hkk ?_ ?_ fun j hj => ?_
      · show (fset (fset μ.rc q _) k _ q).next = k
        rw [fset_ne (Ne.symm hqk), fset_self]
      · show (fset (fset μ.rc q _) k _ k).next < 0
        rw [fset_self]; exact (show (-1 : Int) < 0 by decide)
      · show (fset (fset μ.rc q _) k _ j).next = (μ.rc j).next
        have hjk : j ≠ k := fun z => hn (by rw [e', ← z]; exact List.mem_append_left _ hj)
        have hjq : j ≠ q := fun z => (List.nodup_append.mp hnd).2.2 j hj q (by simp) z
        rw [fset_ne hjk, fset_ne hjq]
    · show ((fset μ.pr f _) f).last = _
      rw [fset_self, getLastD_snoc]
structure R2 (φ₀ φ : AH) (a : Adr) (m : Mdl) (d : Addr) (D : List (Int × AV)) (l : Addr) (ys : List AV) (pv : List (Int × AV)) (pe : Nat) : Prop where
  rep : Rep φ₀ φ a m
  hd : ∃ ep, φ d = some (.idict D ep)
  hl : φ l = some (.list ys)
  hp : φ a.P = some (.idict pv pe)
theorem R2.setP {d : Addr} {D : List (Int × AV)} {l : Addr} {ys : List AV} {pv : List (Int × AV)} {pe : Nat} (r : R2 φ₀ φ a m d D l ys pv pe) {f : Int} (hf : f ∈ m.pks) (v : Prc) : R2 φ₀ (upd φ (a.pa f) (prcO v)) a (m.setP f v) d D l ys pv pe := by
  have e := r.rep.prc f hf
  obtain ⟨ep, h1⟩ := r.hd
  have h2 := r.hl
  have h3 := r.hp
  refine ⟨r.rep.setP hf v, ⟨ep, ?_⟩, ?_, ?_⟩
  · rw [upd_ne (fun z => by rw [z, e] at h1; cases h1)]; exact h1
  · rw [upd_ne (fun z => by rw [z, e] at h2; cases h2)]; exact h2
  · rw [upd_ne (fun z => by rw [z, e] at h3; cases h3)]; exact h3
theorem R2.setR {d : Addr} {D : List (Int × AV)} {l : Addr} {ys : List AV} {pv : List (Int × AV)} {pe : Nat} (r : R2 φ₀ φ a m d D l ys pv pe) {k : Int} (hk : k ∈ m.keys) (v : Rec) : R2 φ₀ (upd φ (a.ra k) (recO v)) a (m.setR k v) d D l ys pv pe := by
  have e := r.rep.rec_ k hk
  obtain ⟨ep, h1⟩ := r.hd
  have h2 := r.hl
  have h3 := r.hp
  refine ⟨r.rep.setR hk v, ⟨ep, ?_⟩, ?_, ?_⟩
  · rw [upd_ne (fun z => by rw [z, e] at h1; cases h1)]; exact h1
  · rw [upd_ne (fun z => by rw [z, e] at h2; cases h2)]; exact h2
  · rw [upd_ne (fun z => by rw [z, e] at h3; cases h3)]; exact h3
theorem R2.dict {d : Addr} {D D' : List (Int × AV)} {l : Addr} {ys : List AV} {pv : List (Int × AV)} {pe : Nat} {ep : Nat} (r : R2 φ₀ φ a m d D l ys pv pe) (hR : d ≠ a.R) (hP : d ≠ a.P) (h0 : φ₀ d = none) : R2 φ₀ (upd φ d (.idict D' ep)) a m d D' l ys pv pe := by
  obtain ⟨ep₀, h1⟩ := r.hd
  have h2 := r.hl
  refine ⟨r.rep.other h1 hR hP h0, ⟨ep, upd_self ..⟩, ?_, ?_⟩
  · rw [upd_ne (fun z => by rw [z, h1] at h2; cases h2)]; exact h2
  · rw [upd_ne (Ne.symm hP)]; exact r.hp
theorem XS.cut2 {C : FC} {t : Sem Flow} {ρ : Loc} {d l : Addr} {D : List (Int × AV)} {ys : List AV} {pv : List (Int × AV)} {pe : Nat} {R : AF → Loc → AH → Prop} (h : R2 φ₀ φ a m d D l ys pv pe) (k : ∀ φ', R2 φ₀ φ' a m d D l ys pv pe → XS C t ρ φ' R) : Halt (XS C t ρ φ R) := k φ h
theorem fset_id {β : Type} (f : Int → β) (k : Int) : fset f k (f k) = f := by
  funext j
  by_cases z : j = k
  · subst z; rw [fset_self]
  · rw [fset_ne z]
theorem swS_keys (μ : Mdl) (f k : Int) : (swS μ f k).keys = μ.keys ∧ (swS μ f k).pks = μ.pks := by unfold swS; split <;> exact ⟨rfl, rfl⟩
theorem swS_key (μ : Mdl) (f k : Int) : ((swS μ f k).rc k).key = (μ.rc k).key := by
  unfold swS
  split
  · rfl
  · show ((fset μ.rc _ _) k).key = _
    by_cases z : k = (μ.pr f).last
    · rw [← z, fset_self]
    · rw [fset_ne z]
end

section
variable {W : Wd} {φ₀ φ : AH} {a : Adr} {m : Mdl}
theorem s_swe (ok : W.Ok) (F : Facts W.K) (r : Rep φ₀ φ a m) {ch : Int → List Int} (g : Good m ch) : Spec W 3 168 [.ref a.S, .ref a.P] φ
    (fun b φ' => ∃ (a' : Adr) (m' : Mdl), b = .int (m.keys.length - m'.keys.length) ∧ Rep φ₀ φ' a' m' ∧ a'.S = a.S ∧ a'.P = a.P ∧ a'.pa = a.pa ∧ Good m' (al m ch) ∧ m'.gen = m.gen ∧ m'.pks = m.pks ∧ m'.keys = (m.pks.map (al m ch)).flatten ∧ (∀ k, (m'.rc k).death = (m.rc k).death)) := by
  refine spec_def ok (names := ["store", "procs"]) F.aSwe (by walk_at "m bind") rfl (fun A l cd G Rk hRk => ?_)
  show XS _ (execs (_ :: _) _) _ _ _
  walk_at "m s"
  refine ev_dict0 fun d ep hd => ?_
  refine XS.sub (ρ' := [("kept", .ref d), ("store", .ref a.S), ("procs", .ref a.P)]) ?_ (by walk_at "m sub")
  have hdP : d ≠ a.P := by intro z; obtain ⟨ep, e⟩ := r.pdc; rw [← z, hd] at e; cases e
  have hdR : d ≠ a.R := by intro z; obtain ⟨ep, e⟩ := r.rdc; rw [← z, hd] at e; cases e
  have hd0 : φ₀ d = none := r.ext.none hd
  have rI := r.keep (Ext.new (o := .idict [] ep) hd)
  obtain ⟨epP, hpd⟩ := rI.pdc
  have alsub : ∀ f ∈ m.pks, ∀ k ∈ al m ch f, k ∈ ch f ∧ k ∈ m.keys := fun f hf k hk => ⟨(List.mem_filter.mp hk).1, (g.kin k).mpr ⟨f, hf, (List.mem_filter.mp hk).1⟩⟩
  have alnd : ∀ f ∈ m.pks, (al m ch f).Nodup := fun f hf => List.Pairwise.filter _ (g.nodup f hf)
  refine x_for_dict ?_
  walk_at "m s"
  refine ⟨a.P, refs m.pks a.pa, epP, rfl, hpd, fun i ρ φ' => ρ = ([("kept", .ref d), ("store", .ref a.S), ("procs", .ref a.P)] : Loc) ∧ φ' a.P = some (.idict (refs m.pks a.pa) epP) ∧ ∃ (μ : Mdl) (K : List Int), Rep φ₀ φ' a μ ∧ (∃ ep, φ' d = some (.idict (refs K a.ra) ep)) ∧ K = ((m.pks.take i).map (al m ch)).flatten ∧ K.Nodup ∧
    Sw m ch μ (m.pks.take i) (m.pks.drop i), ⟨rfl, hpd, m, [], rI, ⟨ep, upd_self ..⟩, rfl, .nil, ⟨rfl, rfl, rfl, rfl, fun k => Same.refl _, fun f => ⟨rfl, rfl⟩, fun f _ => ⟨rfl, fun k _ => rfl⟩, fun f hf => (by simp at hf)⟩⟩, ?_, ?_⟩
  · rintro i ⟨f, v⟩ _ φ₁ hi ⟨rfl, hP₁, μ, K, r₁, hdd, hK, hKn, sw⟩
    refine ⟨⟨refs m.pks a.pa, rfl, hP₁⟩, asn_name fun Rj hRj => ?_⟩
    have hfi : m.pks[i]? = some f := by
      unfold refs at hi
      rw [List.getElem?_map, Option.map_eq_some_iff] at hi
      obtain ⟨j, h1, h2⟩ := hi
      cases h2; exact h1
    have hf : f ∈ m.pks := List.mem_of_getElem? hfi
    have hfμ : f ∈ μ.pks := sw.pks ▸ hf
    have htk : m.pks.take (i + 1) = m.pks.take i ++ [f] := by rw [List.take_add_one, hfi]; rfl
    have hdr : m.pks.drop i = f :: m.pks.drop (i + 1) := List.drop_eq_getElem?_toList_append.trans (by rw [hfi]; rfl)
    have hfu := sw.un f (by rw [hdr]; simp)
    have hnot : f ∉ m.pks.take i ++ m.pks.drop (i + 1) := by
      have h2 := g.pnd
      rw [← List.take_append_drop i m.pks, hdr] at h2
      obtain ⟨h3, h4, h5⟩ := List.nodup_append.mp h2
      intro z
      rcases List.mem_append.mp z with z | z
      · exact h5 f z f (by simp) rfl
      · exact (List.nodup_cons.mp h4).1 z
    have hall : ∀ f' ∈ m.pks.take i ++ m.pks.drop (i + 1), f' ∈ m.pks := fun f' h => by
      rcases List.mem_append.mp h with h | h
      · exact List.mem_of_mem_take h
      · exact List.mem_of_mem_drop h
    have hS := r₁.sto
    unfold stoO at hS
    show XS _ (execs (_ :: _) _) _ _ _
    walk_at "m s"
    refine subt_idict hP₁ (dget_refs hf) ?_
    walk_at "m s"
    have hpath : Path μ.keys μ.nx (μ.pr f).first (ch f) := by
      rw [hfu.1]
      exact (g.path f hf).frame fun k hk => ⟨by show (μ.rc k).next = (m.rc k).next; rw [hfu.2 k hk], by rw [sw.keys]; exact (g.kin k).mpr ⟨f, hf, hk⟩⟩
    have hlen : (ch f).length ≤ 1000 := Nat.le_trans (nodup_le (g.nodup f hf) fun k hk => (g.kin k).mpr ⟨f, hf, hk⟩) r.sml
    refine cal_spec ((s_cha ok F r₁ hfμ hpath hlen).mono ?_)
    rintro _ _ ⟨ld, rfl, hld, rfl⟩
    have hal : ((ch f).filter fun k => vis (μ.rc k) μ.gen) = al m ch f := by
      unfold al
      refine List.filter_congr fun k hk => ?_
      rw [hfu.2 k hk, sw.gen]
      exact g.vis ((g.kin k).mpr ⟨f, hf, hk⟩)
    rw [hal]
    have hdl : d ≠ ld := by intro z; obtain ⟨ep, e⟩ := hdd; rw [z, hld] at e; cases e
    have r₂ : R2 φ₀ (upd φ₁ ld (.list (rlist a.ra (al m ch f)))) a μ d (refs K a.ra) ld (rlist a.ra (al m ch f)) (refs m.pks a.pa) epP := ⟨r₁.keep (Ext.new hld), (by obtain ⟨ep, e⟩ := hdd; exact ⟨ep, by rw [upd_ne hdl]; exact e⟩), upd_self .., Ext.new hld _ _ hP₁⟩
    have hP := r₂.rep.prc f hfμ
    unfold prcO at hP
    walk_at "m s"
    refine XS.cut2 (r₂.setP hfμ { μ.pr f with first := -1 }) fun φ₂ r₂' => ?_
    clear hP
    have hP := r₂'.rep.prc f hfμ
    unfold prcO at hP
    walk_at "m s"
    refine XS.cut2 (r₂'.setP hfμ { (μ.setFirst f (-1)).pr f with last := -1 }) fun φ₃ r₃ => ?_
    clear hP r₂ r₂'
    have sw₃ : Sw m ch ((μ.setFirst f (-1)).setLast f (-1)) (m.pks.take i) (m.pks.drop (i + 1)) := ((sw.less (fun f' h => by rw [hdr]; exact List.mem_cons_of_mem _ h)).setFirst hnot).setLast hnot
    have hKf : ∀ k ∈ K, ∀ k' ∈ ch f, k ≠ k' := fun k hk k' hk' z => by
      subst z
      rw [hK] at hk
      obtain ⟨l, hl, hk⟩ := List.mem_flatten.mp hk
      obtain ⟨f', hf', rfl⟩ := List.mem_map.mp hl
      have h1 := g.fn f' (List.mem_of_mem_take hf') k (List.mem_filter.mp hk).1
      rw [g.fn f hf k hk'] at h1
      exact hnot (List.mem_append_left _ (h1 ▸ hf'))
    have hKs : ∀ k ∈ K, k ∈ m.keys := fun k hk => by
      rw [hK] at hk
      obtain ⟨l, hl, hk⟩ := List.mem_flatten.mp hk
      obtain ⟨f', hf', rfl⟩ := List.mem_map.mp hl
      exact (alsub f' (List.mem_of_mem_take hf') k hk).2
    have hKal : (K ++ al m ch f).Nodup := List.nodup_append.mpr ⟨hKn, alnd f hf, fun x hx y hy => hKf x hx y (alsub f hf y hy).1⟩
    have hKlen : (K ++ al m ch f).length ≤ 1000 := Nat.le_trans (nodup_le hKal fun k hk => by
      rcases List.mem_append.mp hk with h | h
      · exact hKs k h
      · exact (alsub f hf k h).2) r.sml
    refine XS.sub (ρ' := [("living", .ref ld), ("proc", .ref (a.pa f)), ("kept", .ref d), ("store", .ref a.S), ("procs", .ref a.P)]) ?_ (by walk_at "m sub")
    refine x_for_list ?_
    walk_at "m s"
    refine ⟨ld, _, rfl, r₃.hl, fun j ρ φ' => ρ = ([("living", .ref ld), ("proc", .ref (a.pa f)), ("kept", .ref d), ("store", .ref a.S), ("procs", .ref a.P)] : Loc) ∧ ∃ μ' : Mdl, R2 φ₀ φ' a μ' d (refs (K ++ (al m ch f).take j) a.ra) ld (rlist a.ra (al m ch f)) (refs m.pks a.pa) epP ∧
      Sw m ch μ' (m.pks.take i) (m.pks.drop (i + 1)) ∧ Path m.keys μ'.nx (μ'.pr f).first ((al m ch f).take j) ∧ (μ'.pr f).last = ((al m ch f).take j).getLastD (-1), ⟨rfl, _, by rw [List.take_zero, List.append_nil]; exact r₃, sw₃, ?_, ?_⟩, ?_, ?_, go_name⟩
    · show ((fset (fset μ.pr f _) f _) f).first < 0
      rw [fset_self]
      show ((fset μ.pr f _) f).first < 0
      rw [fset_self]; exact (show (-1 : Int) < 0 by decide)
    · show ((fset (fset μ.pr f _) f _) f).last = -1
      rw [fset_self]
    · rintro j x _ φ' hj ⟨rfl, μ', r', sw', hp', hl'⟩
      obtain ⟨k, hk, rfl, ht, hkm⟩ := rlist_get hj
      refine ⟨r'.hl, asn_name fun Rj hRj => ?_⟩
      have hkc := alsub f hf k hkm
      have hkμ : k ∈ μ'.keys := by rw [sw'.keys]; exact hkc.2
      have hfμ' : f ∈ μ'.pks := by rw [sw'.pks]; exact hf
      have hndj : ((al m ch f).take j ++ [k]).Nodup := by rw [← ht]; exact (List.take_sublist _ _).nodup (alnd f hf)
      have hkt : k ∉ (al m ch f).take j := fun z => (List.nodup_append.mp hndj).2.2 k z k (by simp) rfl
      have hkK : k ∉ K ++ (al m ch f).take j := fun z => by
        rcases List.mem_append.mp z with z | z
        · exact hKf k z k hkc.1 rfl
        · exact hkt z
      have htsub : ∀ x ∈ (al m ch f).take j, x ∈ ch f := fun x hx => (alsub f hf x (List.mem_of_mem_take hx)).1
      have turn := sw_turn g sw' hnot hf hall htsub hkc.1 hkt hp' hl' (List.nodup_append.mp hndj).1
      have hkey : (μ'.rc k).key = k := ((sw'.rc k).1).trans (g.key k hkc.2)
      have hPr := r'.rep.prc f hfμ'
      have hRc := r'.rep.rec_ k hkμ
      unfold prcO at hPr
      unfold recO at hRc
      rw [hkey] at hRc
      show XS _ (execs (_ :: _) _) _ _ _
      walk_at "m s"
      refine ⟨fun h => ?g1, fun h => ?g2⟩
      case' g1 =>
        have h := of_decide_eq_true h
        show XS _ (execs (_ :: _) _) _ _ _
        walk_at "m s"
        refine XS.cut2 (r'.setP hfμ' { μ'.pr f with first := k }) fun φ₄ r₄' => ?_
        have r₄ : R2 φ₀ φ₄ a (swS μ' f k) d (refs (K ++ (al m ch f).take j) a.ra) ld (rlist a.ra (al m ch f)) (refs m.pks a.pa) epP := by unfold swS; rw [if_pos h]; exact r₄'
        clear r₄' h
      case' g2 =>
        have h := of_decide_eq_false h
        have hne : (al m ch f).take j ≠ [] := by intro z; rw [z] at hp'; exact h hp'
        have hlm : (μ'.pr f).last ∈ (al m ch f).take j := by rw [hl']; exact getLastD_mem hne _
        have hlk : (μ'.pr f).last ∈ μ'.keys := by rw [sw'.keys]; exact (alsub f hf _ (List.mem_of_mem_take hlm)).2
        obtain ⟨epk, hkd⟩ := r'.hd
        have hRl := r'.rep.rec_ _ hlk
        unfold recO at hRl
        show XS _ (execs (_ :: _) _) _ _ _
        walk_at "m s"
        refine subt_idict hkd (dget_refs (List.mem_append_right _ hlm)) ?_
        walk_at "m s"
        refine XS.cut2 (r'.setR hlk { μ'.rc (μ'.pr f).last with next := k }) fun φ₄ r₄' => ?_
        have r₄ : R2 φ₀ φ₄ a (swS μ' f k) d (refs (K ++ (al m ch f).take j) a.ra) ld (rlist a.ra (al m ch f)) (refs m.pks a.pa) epP := by unfold swS; rw [if_neg h]; exact r₄'
        clear r₄' h
      all_goals
        clear hPr hRc
        have hk₄ : k ∈ (swS μ' f k).keys := by rw [(swS_keys μ' f k).1]; exact hkμ
        have hf₄ : f ∈ (swS μ' f k).pks := by rw [(swS_keys μ' f k).2]; exact hfμ'
        have hRc := r₄.rep.rec_ k hk₄
        unfold recO at hRc
        walk_at "m s"
        refine XS.cut2 (r₄.setR hk₄ { (swS μ' f k).rc k with next := -1 }) fun φ₅ r₅ => ?_
        clear hRc
        have hRc := r₅.rep.rec_ k hk₄
        have hPr := r₅.rep.prc f hf₄
        have hkey₅ : (((swS μ' f k).setR k { (swS μ' f k).rc k with next := -1 }).rc k).key = k := by
          show (fset (swS μ' f k).rc k { (swS μ' f k).rc k with next := -1 } k).key = k
          rw [fset_self]
          exact (swS_key μ' f k).trans hkey
        unfold recO at hRc
        unfold prcO at hPr
        rw [hkey₅] at hRc
        walk_at "m s"
        refine XS.cut2 (r₅.setP hf₄ { ((swS μ' f k).setNext k (-1)).pr f with last := k }) fun φ₆ r₆ => ?_
        clear hRc hPr
        have hRc := r₆.rep.rec_ k hk₄
        unfold recO at hRc
        change _ = some (AO.inst REC [(_, AV.int (((swS μ' f k).setR k { (swS μ' f k).rc k with next := -1 }).rc k).key), _, _, _, _, _, _, _]) at hRc
        rw [hkey₅] at hRc
        obtain ⟨epk, hk6⟩ := r₆.hd
        walk_at "m s"
        refine seti_idict hk6 (fun ep' => ?_) (by rw [refs_len]; have : (K ++ (al m ch f).take j).length ≤ (K ++ al m ch f).length := by simp [List.length_take, Nat.min_le_right]
                                                  omega)
        rw [dset_refs hkK, fset_id]
        walk_at "m s"
        refine LoopK.next [("living", .ref ld), ("proc", .ref (a.pa f)), ("kept", .ref d), ("store", .ref a.S), ("procs", .ref a.P)] (by walk_at "m sub") ⟨rfl, swE (swS μ' f k) f k, ?_, turn.1, by rw [ht]; exact turn.2.1, by rw [ht]; exact turn.2.2⟩
        rw [ht, ← List.append_assoc]
        exact r₆.dict hdR hdP hd0
    · rintro _ φ' ⟨rfl, μ', r', sw', hp', hl'⟩
      refine ⟨r'.hl, ?_⟩
      rw [rlist_len, List.take_length] at hp' hl' r'
      walk_at "m s"
      refine LoopK.next [("kept", .ref d), ("store", .ref a.S), ("procs", .ref a.P)] (by walk_at "m sub") ⟨rfl, r'.hp, μ', K ++ al m ch f, r'.rep, r'.hd, ?_, hKal, ?_⟩
      · rw [htk, List.map_append, List.flatten_append, ← hK]; simp
      · rw [htk]; exact sw'.more ⟨hp', hl'⟩
  · rintro _ φ₁ ⟨rfl, hP₁, μ, K, r₁, ⟨epD, hdd⟩, hK, hKn, sw⟩
    refine ⟨⟨refs m.pks a.pa, rfl, hP₁⟩, ?_⟩
    rw [refs_len, List.take_length] at hK
    rw [refs_len, List.take_length, List.drop_length] at sw
    have hKs : ∀ k ∈ K, k ∈ m.keys := fun k hk => by
      rw [hK] at hk
      obtain ⟨l, hl, hk⟩ := List.mem_flatten.mp hk
      obtain ⟨f, hf, rfl⟩ := List.mem_map.mp hl
      exact (alsub f hf k hk).2
    have hKl : K.length ≤ 1000 := Nat.le_trans (nodup_le hKn hKs) r.sml
    have hS := r₁.sto
    obtain ⟨epR, hR⟩ := r₁.rdc
    unfold stoO at hS
    walk_at "m s"
    refine cal_len_idict hR ?_ (by rw [refs_len, sw.keys]; have := r.sml; omega)
    walk_at "m s"
    refine cal_len_idict hdd ?_ (by rw [refs_len]; omega)
    walk_at "m s"
    refine XS.cutR (r₁.swap hdd hdP hd0 (fun k hk => by rw [sw.keys]; exact hKs k hk) hKl) fun φ₂ r₂ => ?_
    walk_at "m s"
    refine ⟨_, { μ with keys := K }, ?_, r₂, rfl, rfl, rfl, sw.good g hK hKn, sw.gen, sw.pks, hK, fun k => (sw.rc k).2.2.2⟩
    rw [refs_len, refs_len, sw.keys]
end

theorem ep_some {C : FC} {ρ : Loc} {φ : AH} {Q : AV → AH → Prop} {e : Expr} (h : EV C (eval e C.env) ρ φ Q) : EV C (evalPart (some e) C.env) ρ φ Q := h
theorem upd_same {φ : AH} {a : Addr} {o : AO} (h : φ a = some o) : upd φ a o = φ := by
  funext b
  by_cases z : b = a
  · subst z; rw [upd_self, h]
  · rw [upd_ne z]
theorem fmod_rng {a b : Int} (h : 0 < b) : 0 ≤ a.fmod b ∧ a.fmod b < b := ⟨Int.fmod_nonneg_of_pos a h, Int.fmod_lt_of_pos a h⟩
section
variable {W : Wd} {φ₀ φ : AH} {a : Adr} {m : Mdl}
theorem s_tur (ok : W.Ok) (F : Facts W.K) {w L : Addr} {i sides : Int} {ns : List Int} (hw : φ w = some (.list [.ref L, .int i])) (hL : φ L = some (.list (ns.map .int))) (h0 : 0 ≤ i) (h1 : i ≤ ns.length) (hz : ns.length ≤ 1000) (hs : 0 < sides) :
    Spec W 1 189 [.ref w, .int sides] φ (fun b φ' => ∃ v j : Int, b = .int v ∧ 0 ≤ v ∧ v < sides ∧ 0 ≤ j ∧ j ≤ ns.length ∧ φ' = upd φ w (.list [.ref L, .int j])) := by
  refine spec_def ok (names := ["wheel", "sides"]) F.aTur (by walk_at "m bind") rfl (fun A l cd G Rk hRk => ?_)
  show XS _ (execs (_ :: _) _) _ _ _
  walk_at "m s"
  refine subt_list hw (by decide) (by decide) rfl ?_
  walk_at "m s"
  refine subt_list hw (by decide) (by decide) rfl ?_
  walk_at "m s"
  refine cal_len_list hL ?_ (by rw [List.length_map]; omega)
  rw [List.length_map]
  walk_at "m s"
  refine ⟨fun h => ?_, fun h => ?_⟩
  · walk_at "m s"
    exact ⟨0, i, rfl, by omega, hs, h0, h1, (upd_same hw).symm⟩
  · have hne : i ≠ ns.length := by simpa using h
    have hlt : i.toNat < ns.length := by omega
    walk_at "m s"
    refine subt_list hw (by decide) (by decide) rfl ?_
    walk_at "m s"
    refine subt_list hw (by decide) (by decide) rfl ?_
    walk_at "m s"
    refine subt_list (v := .int ns[i.toNat]) hL h0 (by omega) (by rw [List.getElem?_map, List.getElem?_eq_getElem hlt]; rfl) ?_
    walk_at "m s"
    refine itm_list hw (by decide) (by decide) rfl ?_
    walk_at "m s"
    refine seti_list hw (by decide) (by show (1 : Int) < 2; decide) ?_ (by show 2 ≤ 1000000; decide)
    show XS _ _ _ (upd φ w (.list [.ref L, .int (i + 1)])) _
    walk_at "m s"
    refine cal_abs ?_
    walk_at "m s"
    refine bin_mod (by omega) ?_
    refine hRk _ _ _ ?_
    exact ⟨_, i + 1, rfl, (fmod_rng hs).1, (fmod_rng hs).2, by omega, by omega, rfl⟩
def Deeds (φ : AH) (d : Addr) : Prop := ∃ ts : List Addr, φ d = some (.list (ts.map .ref)) ∧ ts.length ≤ 10 ∧ ∀ t ∈ ts, ∃ w s x : Int, φ t = some (.tup [.int w, .int s, .int x]) ∧ 0 ≤ s ∧ s < 2
theorem s_his (ok : W.Ok) (F : Facts W.K) {sc : Addr} {vs : List Value} {ns : List Int} (hl : W.g.IsList sc vs.toArray) (hi : IntsAre vs ns) (hz : ns.length ≤ 1000) :
    Spec W 2 196 [.ref sc] φ (fun b φ' => ∃ d, b = .ref d ∧ Ext φ φ' ∧ Deeds φ' d) := by
  refine spec_def ok (names := ["script"]) F.aHis (by walk_at "m bind") rfl (fun A l cd G Rk hRk => ?_)
  show XS _ (execs (_ :: _) _) _ _ _
  walk_at "m s"
  refine ev_list ?_
  walk_at "m s"
  refine ep_none ?_
  refine ep_some ?_
  walk_at "m s"
  refine slc_base (b := 40) hl hi (fun L hL => ?_) (by omega)
  walk_at "m s"
  refine ⟨by show 2 ≤ 1000000; decide, fun w hw => ?_⟩
  have hwL : w ≠ L := by intro z; rw [z, upd_self] at hw; cases hw
  have hw0 : φ w = none := by rw [upd_ne hwL] at hw; exact hw
  have E1 : Ext φ (upd (upd φ L (.list ((ns.take 40).map .int))) w (.list [.ref L, .int 0])) := ((Ext.refl φ).put hL).put hw0
  walk_at "m s"
  refine ev_list ?_
  walk_at "m s"
  refine ⟨by decide, fun d hd => ?_⟩
  have hd0 : φ d = none := E1.none hd
  have hdw : d ≠ w := by intro z; rw [z, upd_self] at hd; cases hd
  have hdL : d ≠ L := by intro z; rw [z, upd_ne (Ne.symm hwL), upd_self] at hd; cases hd
  refine XS.sub (ρ' := [("deeds", .ref d), ("wheel", .ref w)]) ?_ (by walk_at "m sub")
  have len40 : (ns.take 40).length ≤ 1000 := by rw [List.length_take]; omega
  generalize ns.take 40 = ks at *
  refine x_for_range ?_
  walk_at "m s"
  have hw1 : upd (upd (upd φ L (.list (ks.map .int))) w (.list [.ref L, .int 0])) d (.list []) w = some (.list [.ref L, .int 0]) := by rw [upd_ne (Ne.symm hdw), upd_self]
  have hL1 : upd (upd (upd φ L (.list (ks.map .int))) w (.list [.ref L, .int 0])) d (.list []) L = some (.list (ks.map .int)) := by rw [upd_ne (Ne.symm hdL), upd_ne (Ne.symm hwL), upd_self]
  refine cal_spec ((s_tur ok F (sides := 11) hw1 hL1 (by decide) (by omega) len40 (by decide)).mono ?_)
  rintro _ _ ⟨v, j, rfl, hv0, hv1, hj0, hj1, rfl⟩
  walk_at "m s"
  refine cal_range fun rg hrg => ?_
  have hE : Ext φ (upd (upd (upd (upd φ L (.list (ks.map .int))) w (.list [.ref L, .int 0])) d (.list [])) w (.list [.ref L, .int j])) := (E1.put hd0).put hw0
  have hrw : w ≠ rg := by intro z; rw [← z, upd_self] at hrg; cases hrg
  have hrL : L ≠ rg := by intro z; rw [← z, upd_ne (Ne.symm hwL), hL1] at hrg; cases hrg
  have hrd : d ≠ rg := by intro z; rw [← z, upd_ne hdw, upd_self] at hrg; cases hrg
  refine ⟨rg, v.toNat, rfl, ?_, by omega, fun i ρ φ' => ρ = ([("deeds", .ref d), ("wheel", .ref w)] : Loc) ∧ Ext φ φ' ∧ (∃ j : Int, φ' w = some (.list [.ref L, .int j]) ∧ 0 ≤ j ∧ j ≤ ks.length) ∧ φ' L = some (.list (ks.map .int)) ∧
    ∃ ts : List Addr, φ' d = some (.list (ts.map .ref)) ∧ ts.length = i ∧ ∀ t ∈ ts, ∃ w s x : Int, φ' t = some (.tup [.int w, .int s, .int x]) ∧ 0 ≤ s ∧ s < 2, ⟨rfl, hE.put (hE.none hrg), ⟨j, ?_, hj0, hj1⟩, ?_, [], ?_, rfl, fun t ht => (by cases ht)⟩, ?_, ?_⟩
  · rw [upd_self]
    congr 2
    omega
  · rw [upd_ne hrw, upd_self]
  · rw [upd_ne hrL, upd_ne (Ne.symm hwL)]; exact hL1
  · rw [upd_ne hrd, upd_ne hdw, upd_self]; rfl
  · rintro i _ φ' hi ⟨rfl, hE', ⟨j', hw', hj0', hj1'⟩, hL', ts, hd', hts, htup⟩
    refine asn_name fun Rj hRj => ?_
    show XS _ (execs (_ :: _) _) _ _ _
    walk_at "m s"
    refine mth_append hd' ?_
    walk_at "m s"
    refine ev_tuple ?_
    walk_at "m s"
    refine cal_spec ((s_tur ok F (sides := 6) hw' hL' hj0' hj1' len40 (by decide)).mono ?_)
    rintro _ _ ⟨v₁, j₁, rfl, _, _, h10, h11, rfl⟩
    walk_at "m s"
    refine cal_spec ((s_tur ok F (sides := 2) (upd_self ..) (by rw [upd_ne (Ne.symm hwL)]; exact hL') h10 h11 len40 (by decide)).mono ?_)
    rintro _ _ ⟨v₂, j₂, rfl, hs0, hs1, h20, h21, rfl⟩
    walk_at "m s"
    refine cal_spec ((s_tur ok F (sides := 9) (upd_self ..) (by rw [upd_ne (Ne.symm hwL), upd_ne (Ne.symm hwL)]; exact hL') h20 h21 len40 (by decide)).mono ?_)
    rintro _ _ ⟨v₃, j₃, rfl, _, _, h30, h31, rfl⟩
    rw [upd_upd, upd_upd]
    walk_at "m s"
    refine ⟨by show 3 ≤ 1000000; decide, fun t ht => ?_⟩
    have htw : t ≠ w := by intro z; rw [z, upd_self] at ht; cases ht
    have htd : t ≠ d := by intro z; rw [z, upd_ne hdw, hd'] at ht; cases ht
    have htL : t ≠ L := by intro z; rw [z, upd_ne (Ne.symm hwL), hL'] at ht; cases ht
    have hd'' : upd (upd φ' w (.list [.ref L, .int j₃])) t (.tup [.int v₁, .int v₂, .int v₃]) d = some (.list (ts.map .ref)) := by rw [upd_ne (Ne.symm htd), upd_ne hdw]; exact hd'
    walk_at "m s"
    refine cal_append hd'' ?_ (by rw [List.length_map]; omega)
    walk_at "m s"
    have hE2 : Ext φ (upd φ' w (.list [.ref L, .int j₃])) := hE'.put hw0
    refine LoopK.next [("deeds", .ref d), ("wheel", .ref w)] (by walk_at "m sub") ⟨rfl, (hE2.put (hE2.none ht)).put hd0, ⟨j₃, ?_, h30, h31⟩, ?_, ts ++ [t], ?_, by simp [hts], ?_⟩
    · rw [upd_ne (Ne.symm hdw), upd_ne (Ne.symm htw), upd_self]
    · rw [upd_ne (Ne.symm hdL), upd_ne (Ne.symm htL), upd_ne (Ne.symm hwL)]; exact hL'
    · rw [upd_self]; simp
    · intro t' ht'
      rcases List.mem_append.mp ht' with h | h
      · obtain ⟨w', s', x', h1, h2, h3⟩ := htup t' h
        have n1 : t' ≠ d := by intro z; rw [z, hd'] at h1; cases h1
        have n2 : t' ≠ t := by
          intro z
          rw [← z, upd_ne (by intro y; rw [y, hw'] at h1; cases h1), h1] at ht; cases ht
        have n3 : t' ≠ w := by intro z; rw [z, hw'] at h1; cases h1
        exact ⟨w', s', x', by rw [upd_ne n1, upd_ne n2, upd_ne n3]; exact h1, h2, h3⟩
      · rw [List.mem_singleton.mp h]
        exact ⟨v₁, v₂, v₃, by rw [upd_ne htd, upd_self], hs0, hs1⟩
  · rintro _ φ' ⟨rfl, hE', _, _, ts, hd', hts, htup⟩
    walk_at "m s"
    exact ⟨d, rfl, hE', ts, hd', by omega, htup⟩
theorem s_lch (ok : W.Ok) (F : Facts W.K) (r : Rep φ₀ φ a m) {f : Int} (hf : f ∈ m.pks) {c : List Int} (hp : Path m.keys m.nx (m.pr f).first c) (hz : c.length ≤ 1000) : Spec W 1 215 [.ref a.S, .ref (a.pa f)] φ
    (fun b φ' => ∃ d, b = .ref d ∧ φ d = none ∧ φ' = upd φ d (.list (c.map .int))) := by
  refine spec_def ok (names := ["held", "proc"]) F.aLch (by walk_at "m bind") rfl (fun A l cd G Rk hRk => ?_)
  show XS _ (execs (_ :: _) _) _ _ _
  walk_at "m s"
  refine ev_list ?_
  walk_at "m s"
  refine ⟨Nat.zero_le _, fun d hd => ?_⟩
  have hP := (r.keep (Ext.new (o := .list []) hd)).prc f hf
  unfold prcO at hP
  walk_at "m s"
  refine XS.sub (ρ' := [("place", .int (m.pr f).first), ("found", .ref d), ("held", .ref a.S), ("proc", .ref (a.pa f))]) ?_ (by walk_at "m sub")
  refine x_while (fun k ρ φ' => ∃ c1 c2 p, c = c1 ++ c2 ∧ k = c2.length ∧ Path m.keys m.nx p c2 ∧ ρ = ([("place", .int p), ("found", .ref d), ("held", .ref a.S), ("proc", .ref (a.pa f))] : Loc) ∧ φ' = upd φ d (.list (c1.map .int))) c.length ⟨[], c, _, rfl, rfl, hp, rfl, rfl⟩ ?_
  clear hP
  rintro _ _ _ ⟨c1, c2, p, hc, rfl, hp2, rfl, rfl⟩
  walk_at "m s"
  refine ⟨fun h Rj hRj => ?_, fun h => ?_⟩
  · have h := of_decide_eq_true h
    cases c2 with
    | nil => have : p < 0 := hp2; omega
    | cons k c3 =>
      obtain ⟨rfl, _, hk, hp3⟩ := hp2
      show XS _ (execs (_ :: _) _) _ _ _
      walk_at "m s"
      refine mth_append (upd_self ..) ?_
      walk_at "m s"
      have h2 : c.length = c1.length + (c3.length + 1) := by rw [hc]; simp
      refine cal_append (upd_self ..) ?_ (by rw [List.length_map]; omega)
      rw [upd_upd, show c1.map AV.int ++ [.int p] = (c1 ++ [p]).map AV.int by simp]
      have r₁ := r.keep (Ext.new (o := .list ((c1 ++ [p]).map .int)) hd)
      have hS := r₁.sto
      obtain ⟨ep, hD⟩ := r₁.rdc
      have hR := r₁.rec_ p hk
      unfold stoO at hS
      unfold recO at hR
      walk_at "m s"
      refine subt_idict hD (dget_refs hk) ?_
      walk_at "m s"
      exact WhileK.next c3.length [("place", .int (m.rc p).next), ("found", .ref d), ("held", .ref a.S), ("proc", .ref (a.pa f))] (Nat.lt_succ_self _) (by walk_at "m sub") ⟨c1 ++ [p], c3, _, by simp [hc], rfl, hp3, rfl, rfl⟩
  · have h : ¬ 0 ≤ p := of_decide_eq_false h
    cases c2 with
    | cons k c3 => exact absurd (hp2.1 ▸ hp2.2.1) h
    | nil =>
      rw [List.append_nil] at hc
      subst hc
      walk_at "m s"
      exact ⟨d, rfl, hd, rfl⟩
end

section
variable {m : Mdl} {ch : Int → List Int}
theorem Good.rc_new (g : Good m ch) {fn : Int} {t i : AV} {k : Int} (h : k ∈ m.keys) : (m.new fn t i).rc k = m.rc k := fset_ne fun z => g.fresh (z ▸ h)
theorem chmem (g : Good m ch) {f : Int} (hf : f ∈ m.pks) {k : Int} (h : k ∈ ch f) : k ∈ m.keys := (g.kin k).mpr ⟨f, hf, h⟩
/-- an entered clause leaves the store good -/
theorem Good.enter (g : Good m ch) {f : Int} (hf : f ∈ m.pks) (hd : (m.pr f).kind = "dynamic") {μ : Mdl} {c : List Int}
    (e1 : μ.keys = m.keys ++ [m.nxt]) (e2 : μ.nxt = m.nxt + 1) (e3 : μ.gen = m.gen + 1) (e4 : μ.pks = m.pks)
    (e5 : ∀ k ∈ m.keys, Same (m.rc k) (μ.rc k)) (e6 : ∀ k ∈ m.keys, k ∉ ch f → (μ.rc k).next = (m.rc k).next)
    (e7 : (μ.rc m.nxt).key = m.nxt ∧ (μ.rc m.nxt).fn = f ∧ (μ.rc m.nxt).birth = m.gen + 1 ∧ (μ.rc m.nxt).death = -1)
    (e8 : ∀ f', f' ≠ f → μ.pr f' = m.pr f') (e9 : (μ.pr f).fn = (m.pr f).fn ∧ (μ.pr f).kind = (m.pr f).kind)
    (p1 : Path μ.keys μ.nx (μ.pr f).first c) (p2 : (μ.pr f).last = c.getLastD (-1)) (p3 : c.Perm (m.nxt :: ch f)) : Good μ (fset ch f c) := by
  have hne : ∀ k ∈ m.keys, k ≠ m.nxt := fun k h z => g.fresh (z ▸ h)
  have hcm : ∀ k, k ∈ c ↔ k = m.nxt ∨ k ∈ ch f := fun k => by rw [p3.mem_iff, List.mem_cons]
  have key : ∀ k ∈ μ.keys, k ∈ m.keys ∨ k = m.nxt := fun k h => by rw [e1] at h; rcases List.mem_append.mp h with h | h; exact .inl h; exact .inr (List.mem_singleton.mp h)
  have och : ∀ f' ∈ m.pks, f' ≠ f → ∀ k ∈ ch f', k ∉ ch f := fun f' hf' hn k hk z => hn ((g.fn f' hf' k hk).symm.trans (g.fn f hf k z))
  refine ⟨?_, fun k => ?_, fun f' hf' => ?_, fun f' hf' => ?_, fun f' hf' => ?_, fun f' hf' k hk => ?_, fun k hk => ?_, fun k hk => ?_, fun k hk => ?_, fun k hk => ?_, fun f' hf' => ?_, fun f' hf' hk => ?_, ?_, ?_, ?_⟩
  · rw [e1]
    exact List.nodup_append.mpr ⟨g.knd, by simp, fun x hx y hy z => hne x hx (z.trans (List.mem_singleton.mp hy))⟩
  · rw [e1, e4, List.mem_append, List.mem_singleton, g.kin k]
    constructor
    · rintro (⟨f', hf', hk⟩ | rfl)
      · by_cases z : f' = f
        · subst z; exact ⟨f', hf', by rw [fset_self]; exact (hcm k).mpr (.inr hk)⟩
        · exact ⟨f', hf', by rw [fset_ne z]; exact hk⟩
      · exact ⟨f, hf, by rw [fset_self]; exact (hcm _).mpr (.inl rfl)⟩
    · rintro ⟨f', hf', hk⟩
      by_cases z : f' = f
      · subst z
        rw [fset_self] at hk
        rcases (hcm k).mp hk with h | h
        · exact .inr h
        · exact .inl ⟨f', hf', h⟩
      · rw [fset_ne z] at hk; exact .inl ⟨f', hf', hk⟩
  · rw [e4] at hf'
    by_cases z : f' = f
    · subst z; rw [fset_self]; exact p1
    · rw [fset_ne z, e8 f' z]
      refine (g.path f' hf').frame fun k hk => ⟨?_, by rw [e1]; exact List.mem_append_left _ (chmem g hf' hk)⟩
      exact e6 k (chmem g hf' hk) (och f' hf' z k hk)
  · rw [e4] at hf'
    by_cases z : f' = f
    · subst z; rw [fset_self]; exact p2
    · rw [fset_ne z, e8 f' z]; exact g.last f' hf'
  · rw [e4] at hf'
    by_cases z : f' = f
    · subst z; rw [fset_self]
      exact p3.nodup_iff.mpr (List.nodup_cons.mpr ⟨fun h => g.fresh (chmem g hf' h), g.nodup f' hf'⟩)
    · rw [fset_ne z]; exact g.nodup f' hf'
  · rw [e4] at hf'
    by_cases z : f' = f
    · subst z
      rw [fset_self] at hk
      rcases (hcm k).mp hk with h | h
      · rw [h]; exact e7.2.1
      · rw [(e5 k (chmem g hf' h)).2.1]; exact g.fn f' hf' k h
    · rw [fset_ne z] at hk
      rw [(e5 k (chmem g hf' hk)).2.1]; exact g.fn f' hf' k hk
  · rcases key k hk with h | rfl
    · rw [(e5 k h).1]; exact g.key k h
    · exact e7.1
  · have := g.gen0
    rcases key k hk with h | rfl
    · rw [(e5 k h).2.2.1, e3]; have := g.born k h; omega
    · rw [e7.2.2.1, e3]; omega
  · rcases key k hk with h | rfl
    · rw [(e5 k h).2.2.1, (e5 k h).2.2.2, e3]; have := g.died k h; omega
    · rw [e7.2.2.2]; left; decide
  · have := g.nxt0
    rw [e2]
    rcases key k hk with h | rfl
    · have := g.rng k h; omega
    · omega
  · rw [e4] at hf'
    by_cases z : f' = f
    · subst z; rw [e9.1]; exact g.pfn f' hf'
    · rw [e8 f' z]; exact g.pfn f' hf'
  · rw [e4] at hf'
    by_cases z : f' = f
    · subst z; rw [e9.2] at hk; exact absurd hd hk
    · rw [fset_ne z]; rw [e8 f' z] at hk; exact g.kind f' hf' hk
  · rw [e4]; exact g.pnd
  · rw [e3]; have := g.gen0; omega
  · rw [e2]; have := g.nxt0; omega
theorem Good.neg1 : (-1 : Int) < 0 := by decide
theorem Good.app (g : Good m ch) {f : Int} (hf : f ∈ m.pks) (hd : (m.pr f).kind = "dynamic") (t i : AV) :
    Good (m.app f t i) (fset ch f (ch f ++ [m.nxt])) ∧ (∀ k ∈ m.keys, Same (m.rc k) ((m.app f t i).rc k)) ∧ ((m.app f t i).rc m.nxt).death = -1 := by
  have hp := g.path f hf
  have hfn := g.pfn f hf
  have hperm : (ch f ++ [m.nxt]).Perm (m.nxt :: ch f) := by
    have := List.perm_append_comm (l₁ := ch f) (l₂ := [m.nxt])
    exact this
  have rcn : ∀ k ∈ m.keys, k ≠ m.nxt := fun k h z => g.fresh (z ▸ h)
  unfold Mdl.app
  by_cases hc : (m.pr f).first < 0
  · rw [if_pos hc]
    have h0 : ch f = [] := by
      cases hch : ch f with
      | nil => rfl
      | cons k c => rw [hch] at hp; have := hp.1; have := hp.2.1; omega
    have S : ∀ k ∈ m.keys, Same (m.rc k) ((m.new (m.pr f).fn t i).rc k) := fun k h => by rw [g.rc_new h]; exact Same.refl _
    have N : ((m.new (m.pr f).fn t i).rc m.nxt).key = m.nxt ∧ ((m.new (m.pr f).fn t i).rc m.nxt).fn = f ∧ ((m.new (m.pr f).fn t i).rc m.nxt).birth = m.gen + 1 ∧ ((m.new (m.pr f).fn t i).rc m.nxt).death = -1 := by
      show ((fset m.rc m.nxt _) m.nxt).key = _ ∧ ((fset m.rc m.nxt _) m.nxt).fn = _ ∧ ((fset m.rc m.nxt _) m.nxt).birth = _ ∧ ((fset m.rc m.nxt _) m.nxt).death = _
      rw [fset_self]; exact ⟨rfl, hfn, rfl, rfl⟩
    refine ⟨g.enter hf hd rfl rfl rfl rfl S (fun k h _ => ?_) N (fun f' h => ?_) ?_ ?_ ?_ hperm, S, N.2.2.2⟩
    · show ((m.new (m.pr f).fn t i).rc k).next = _
      rw [g.rc_new h]
    · show (fset (fset m.pr f _) f _) f' = _
      rw [fset_ne h, fset_ne h]
    · show ((fset (fset m.pr f _) f _) f).fn = _ ∧ ((fset (fset m.pr f _) f _) f).kind = _
      rw [fset_self]
      show ((fset m.pr f _) f).fn = _ ∧ ((fset m.pr f _) f).kind = _
      rw [fset_self]; exact ⟨rfl, rfl⟩
    · rw [h0]
      refine ⟨?_, g.nxt0, List.mem_append_right _ (by simp), ?_⟩
      · show ((fset (fset m.pr f _) f _) f).first = _
        rw [fset_self]
        show ((fset m.pr f _) f).first = _
        rw [fset_self]
      · show ((fset m.rc m.nxt _) m.nxt).next < 0
        rw [fset_self]; exact Good.neg1
    · show ((fset (fset m.pr f _) f _) f).last = _
      rw [fset_self, getLastD_snoc]
  · rw [if_neg hc]
    have h0 : ch f ≠ [] := by intro z; rw [z] at hp; exact hc hp
    obtain ⟨l', e'⟩ := split_last h0 (-1)
    rw [← g.last f hf] at e'
    generalize hq : (m.pr f).last = q at *
    have hqm : q ∈ ch f := by rw [e']; simp
    have hqk : q ≠ m.nxt := rcn q (chmem g hf hqm)
    have sm : ∀ k, k ≠ q → ((m.new (m.pr f).fn t i).setNext q m.nxt).rc k = (m.new (m.pr f).fn t i).rc k := fun k h => fset_ne h
    have S : ∀ k ∈ m.keys, Same (m.rc k) (((m.new (m.pr f).fn t i).setNext q m.nxt).rc k) := fun k h => by
      by_cases z : k = q
      · subst z
        show Same _ (fset _ k _ k)
        rw [fset_self]
        show Same (m.rc k) { (m.new (m.pr f).fn t i).rc k with next := m.nxt }
        rw [g.rc_new h]; exact ⟨rfl, rfl, rfl, rfl⟩
      · rw [sm k z, g.rc_new h]; exact Same.refl _
    have N : (((m.new (m.pr f).fn t i).setNext q m.nxt).rc m.nxt).key = m.nxt ∧ (((m.new (m.pr f).fn t i).setNext q m.nxt).rc m.nxt).fn = f ∧ (((m.new (m.pr f).fn t i).setNext q m.nxt).rc m.nxt).birth = m.gen + 1 ∧ (((m.new (m.pr f).fn t i).setNext q m.nxt).rc m.nxt).death = -1 := by
      rw [sm _ (Ne.symm hqk)]
      show ((fset m.rc m.nxt _) m.nxt).key = _ ∧ ((fset m.rc m.nxt _) m.nxt).fn = _ ∧ ((fset m.rc m.nxt _) m.nxt).birth = _ ∧ ((fset m.rc m.nxt _) m.nxt).death = _
      rw [fset_self]; exact ⟨rfl, hfn, rfl, rfl⟩
    refine ⟨g.enter hf hd rfl rfl rfl rfl S (fun k h hn => ?_) N (fun f' h => ?_) ?_ ?_ ?_ hperm, S, N.2.2.2⟩
    · show (((m.new (m.pr f).fn t i).setNext q m.nxt).rc k).next = _
      rw [sm k fun z => hn (z ▸ hqm), g.rc_new h]
    · show (fset m.pr f _) f' = _
      rw [fset_ne h]
    · show ((fset m.pr f _) f).fn = _ ∧ ((fset m.pr f _) f).kind = _
      rw [fset_self]; exact ⟨rfl, rfl⟩
    · show Path _ _ ((fset m.pr f _) f).first _
      rw [fset_self, e']
      show Path (m.keys ++ [m.nxt]) (fun k => (((m.new (m.pr f).fn t i).setNext q m.nxt).rc k).next) (m.pr f).first _
      rw [e'] at hp
      have hnd := g.nodup f hf
      rw [e'] at hnd
      refine path_snoc (nx := m.nx) (hp.frame fun k hk => ⟨rfl, List.mem_append_left _ (hp.mem k hk).2⟩) g.nxt0 (List.mem_append_right _ (by simp)) ?_ ?_ fun j hj => ?_
      · show (fset (m.new (m.pr f).fn t i).rc q { (m.new (m.pr f).fn t i).rc q with next := m.nxt } q).next = m.nxt
        rw [fset_self]
      · show ((((m.new (m.pr f).fn t i).setNext q m.nxt)).rc m.nxt).next < 0
        rw [sm _ (Ne.symm hqk)]
        show ((fset m.rc m.nxt _) m.nxt).next < 0
        rw [fset_self]; exact Good.neg1
      · have hjq : j ≠ q := fun z => (List.nodup_append.mp hnd).2.2 j hj q (by simp) z
        show ((((m.new (m.pr f).fn t i).setNext q m.nxt)).rc j).next = (m.rc j).next
        rw [sm _ hjq, g.rc_new (hp.mem j (List.mem_append_left _ hj)).2]
    · show ((fset m.pr f _) f).last = _
      rw [fset_self, getLastD_snoc]
theorem Good.pre (g : Good m ch) {f : Int} (hf : f ∈ m.pks) (hd : (m.pr f).kind = "dynamic") (t i : AV) :
    Good (m.pre f t i) (fset ch f (m.nxt :: ch f)) ∧ (∀ k ∈ m.keys, Same (m.rc k) ((m.pre f t i).rc k)) ∧ ((m.pre f t i).rc m.nxt).death = -1 := by
  have hp := g.path f hf
  have hfn := g.pfn f hf
  have hla := g.last f hf
  -- both halves end alike
  have fin : ∀ m2 : Mdl, m2.keys = m.keys ++ [m.nxt] → m2.nxt = m.nxt + 1 → m2.gen = m.gen + 1 → m2.pks = m.pks → m2.rc = (m.new (m.pr f).fn t i).rc → (∀ f', f' ≠ f → m2.pr f' = m.pr f') → (m2.pr f).fn = (m.pr f).fn → (m2.pr f).kind = (m.pr f).kind → (m2.pr f).first = (m.pr f).first → (m2.pr f).last = (m.nxt :: ch f).getLastD (-1) →
      Good (m2.preEnd f m.nxt) (fset ch f (m.nxt :: ch f)) ∧ (∀ k ∈ m.keys, Same (m.rc k) ((m2.preEnd f m.nxt).rc k)) ∧ ((m2.preEnd f m.nxt).rc m.nxt).death = -1 := by
    intro m2 a1 a2 a3 a4 a5 a6 a7 a8 a9 a10
    have R : ∀ k ∈ m.keys, (m2.preEnd f m.nxt).rc k = m.rc k := fun k h => by
      show (fset m2.rc m.nxt _) k = _
      rw [fset_ne (show k ≠ m.nxt from fun z => g.fresh (z ▸ h)), a5, g.rc_new h]
    have Rn : (m2.preEnd f m.nxt).rc m.nxt = { (⟨m.nxt, (m.pr f).fn, t, i, m.gen + 1, -1, -1⟩ : Rec) with next := (m.pr f).first } := by
      show (fset m2.rc m.nxt _) m.nxt = _
      rw [fset_self, a5, a9]
      show { (fset m.rc m.nxt _) m.nxt with next := (m.pr f).first } = _
      rw [fset_self]
    have S : ∀ k ∈ m.keys, Same (m.rc k) ((m2.preEnd f m.nxt).rc k) := fun k h => by rw [R k h]; exact Same.refl _
    refine ⟨g.enter hf hd a1 a2 a3 a4 S (fun k h _ => by rw [R k h]) (by rw [Rn]; exact ⟨rfl, hfn, rfl, rfl⟩) (fun f' h => ?_) ?_ ?_ ?_ (List.Perm.refl _), S, by rw [Rn]⟩
    · show (fset m2.pr f _) f' = _
      rw [fset_ne h]; exact a6 f' h
    · show ((fset m2.pr f _) f).fn = _ ∧ ((fset m2.pr f _) f).kind = _
      rw [fset_self]; exact ⟨a7, a8⟩
    · refine ⟨?_, g.nxt0, ?_, ?_⟩
      · show ((fset m2.pr f _) f).first = _
        rw [fset_self]
      · show m.nxt ∈ m2.keys
        rw [a1]; simp
      · show Path m2.keys _ ((m2.preEnd f m.nxt).rc m.nxt).next (ch f)
        rw [Rn]
        refine hp.frame fun k hk => ⟨?_, by rw [a1]; exact List.mem_append_left _ (chmem g hf hk)⟩
        show ((m2.preEnd f m.nxt).rc k).next = (m.rc k).next
        rw [R k (chmem g hf hk)]
    · show ((fset m2.pr f _) f).last = _
      rw [fset_self]; exact a10
  unfold Mdl.pre
  by_cases hc : (m.pr f).first < 0
  · rw [if_pos hc]
    have h0 : ch f = [] := by
      cases hch : ch f with
      | nil => rfl
      | cons k c => rw [hch] at hp; have := hp.1; have := hp.2.1; omega
    refine fin _ rfl rfl rfl rfl rfl (fun f' h => ?_) ?_ ?_ ?_ ?_
    · show (fset m.pr f _) f' = _
      rw [fset_ne h]
    · show ((fset m.pr f _) f).fn = _
      rw [fset_self]; rfl
    · show ((fset m.pr f _) f).kind = _
      rw [fset_self]; rfl
    · show ((fset m.pr f _) f).first = _
      rw [fset_self]; rfl
    · show ((fset m.pr f _) f).last = _
      rw [fset_self, h0]; rfl
  · rw [if_neg hc]
    have h0 : ch f ≠ [] := by intro z; rw [z] at hp; exact hc hp
    refine fin _ rfl rfl rfl rfl rfl (fun f' h => rfl) rfl rfl rfl ?_
    show (m.pr f).last = _
    rw [hla]
    cases hch : ch f with
    | nil => exact absurd hch h0
    | cons k c => rfl
theorem al_app {μ : Mdl} {f : Int} (g : Good m ch) (hf : f ∈ m.pks) (S : ∀ k ∈ m.keys, Same (m.rc k) (μ.rc k)) (N : (μ.rc m.nxt).death = -1) :
    (∀ f' ∈ m.pks, f' ≠ f → ∀ c, al μ (fset ch f c) f' = al m ch f') ∧ al μ (fset ch f (ch f ++ [m.nxt])) f = al m ch f ++ [m.nxt] ∧ al μ (fset ch f (m.nxt :: ch f)) f = m.nxt :: al m ch f := by
  have key : ∀ f' ∈ m.pks, (ch f').filter (fun k => liv (μ.rc k)) = al m ch f' := fun f' hf' => List.filter_congr fun k hk => by unfold liv; rw [(S k (chmem g hf' hk)).2.2.2]
  have hn : liv (μ.rc m.nxt) = true := by unfold liv; rw [N]; rfl
  refine ⟨fun f' hf' hne c => ?_, ?_, ?_⟩
  · show ((fset ch f c) f').filter _ = _
    rw [fset_ne hne]; exact key f' hf'
  · show ((fset ch f _) f).filter _ = _
    rw [fset_self, List.filter_append, key f hf, List.filter_cons, if_pos hn]; rfl
  · show ((fset ch f _) f).filter _ = _
    rw [fset_self, List.filter_cons, if_pos hn, key f hf]
/-- deaths leave the store good -/
theorem Good.mods (g : Good m ch) {μ : Mdl} (e1 : μ.keys = m.keys) (e2 : μ.nxt = m.nxt) (e3 : m.gen ≤ μ.gen) (e4 : μ.pks = m.pks) (e5 : μ.pr = m.pr)
    (e6 : ∀ k, (μ.rc k).key = (m.rc k).key ∧ (μ.rc k).fn = (m.rc k).fn ∧ (μ.rc k).birth = (m.rc k).birth ∧ (μ.rc k).next = (m.rc k).next) (e7 : ∀ k ∈ m.keys, (μ.rc k).death = (m.rc k).death ∨ (m.gen < μ.gen ∧ (μ.rc k).death = μ.gen)) : Good μ ch := by
  refine ⟨e1 ▸ g.knd, fun k => ?_, fun f hf => ?_, fun f hf => ?_, fun f hf => g.nodup f (e4 ▸ hf), fun f hf k hk => ?_, fun k hk => ?_, fun k hk => ?_, fun k hk => ?_, fun k hk => ?_, fun f hf => ?_, fun f hf => ?_, e4 ▸ g.pnd, ?_, ?_⟩
  · rw [e1, e4]; exact g.kin k
  · rw [e5]; exact (g.path f (e4 ▸ hf)).frame fun k hk => ⟨(e6 k).2.2.2, by rw [e1]; exact chmem g (e4 ▸ hf) hk⟩
  · rw [e5]; exact g.last f (e4 ▸ hf)
  · rw [(e6 k).2.1]; exact g.fn f (e4 ▸ hf) k hk
  · rw [(e6 k).1]; exact g.key k (e1 ▸ hk)
  · rw [(e6 k).2.2.1]; have := g.born k (e1 ▸ hk); omega
  · have hk := e1 ▸ hk
    have h1 := g.born k hk
    have h2 := g.died k hk
    rw [(e6 k).2.2.1]
    rcases e7 k hk with h | h
    · rw [h]; omega
    · rw [h.2]; omega
  · rw [e2]; exact g.rng k (e1 ▸ hk)
  · rw [e5]; exact g.pfn f (e4 ▸ hf)
  · rw [e5]; exact g.kind f (e4 ▸ hf)
  · have := g.gen0; omega
  · rw [e2]; exact g.nxt0
theorem Good.era (g : Good m ch) {k : Int} (hk : k ∈ m.keys) : Good ({ m with gen := m.gen + 1 }.setR k { m.rc k with death := m.gen + 1 }) ch ∧
    ∀ f, al ({ m with gen := m.gen + 1 }.setR k { m.rc k with death := m.gen + 1 }) ch f = (al m ch f).filter fun j => decide (j ≠ k) := by
  have R : ∀ j, j ≠ k → ({ m with gen := m.gen + 1 }.setR k { m.rc k with death := m.gen + 1 }).rc j = m.rc j := fun j h => fset_ne h
  have Rk : ({ m with gen := m.gen + 1 }.setR k { m.rc k with death := m.gen + 1 }).rc k = { m.rc k with death := m.gen + 1 } := fset_self ..
  have h0 := g.gen0
  refine ⟨g.mods rfl rfl (by show m.gen ≤ m.gen + 1; omega) rfl rfl (fun j => ?_) fun j hj => ?_, fun f => ?_⟩
  · by_cases z : j = k
    · subst z; rw [Rk]; exact ⟨rfl, rfl, rfl, rfl⟩
    · rw [R j z]; exact ⟨rfl, rfl, rfl, rfl⟩
  · by_cases z : j = k
    · subst z; rw [Rk]; exact .inr ⟨by show m.gen < m.gen + 1; omega, rfl⟩
    · rw [R j z]; exact .inl rfl
  · unfold al
    rw [List.filter_filter]
    refine List.filter_congr fun j _ => ?_
    by_cases z : j = k
    · subst z
      rw [Rk]
      have : ¬ m.gen + 1 < 0 := by omega
      simp [liv, this]
    · rw [R j z]; simp [z]
theorem Good.kil (g : Good m ch) {f : Int} (hf : f ∈ m.pks) : Good (killN { m with gen := if al m ch f = [] then m.gen else m.gen + 1 } (al m ch f)) ch ∧
    (∀ f' ∈ m.pks, f' ≠ f → al (killN { m with gen := if al m ch f = [] then m.gen else m.gen + 1 } (al m ch f)) ch f' = al m ch f') ∧ al (killN { m with gen := if al m ch f = [] then m.gen else m.gen + 1 } (al m ch f)) ch f = [] := by
  have h0 := g.gen0
  refine ⟨g.mods rfl rfl ?_ rfl rfl (fun j => ?_) fun j hj => ?_, fun f' hf' hne => ?_, ?_⟩
  · show m.gen ≤ if al m ch f = [] then m.gen else m.gen + 1
    split
    · exact Int.le_refl _
    · omega
  · show (if j ∈ al m ch f then _ else m.rc j).key = _ ∧ (if j ∈ al m ch f then _ else m.rc j).fn = _ ∧ (if j ∈ al m ch f then _ else m.rc j).birth = _ ∧ (if j ∈ al m ch f then _ else m.rc j).next = _
    split <;> exact ⟨rfl, rfl, rfl, rfl⟩
  · by_cases z : j ∈ al m ch f
    · right
      have hne : al m ch f ≠ [] := by intro y; rw [y] at z; cases z
      constructor
      · show m.gen < if al m ch f = [] then m.gen else m.gen + 1
        rw [if_neg hne]; omega
      · show (if j ∈ al m ch f then _ else m.rc j).death = _
        rw [if_pos z]; rfl
    · left
      show (if j ∈ al m ch f then _ else m.rc j).death = _
      rw [if_neg z]
  · refine List.filter_congr fun j hj => ?_
    have z : j ∉ al m ch f := fun z => hne ((g.fn f' hf' j hj).symm.trans (g.fn f hf j (List.mem_filter.mp z).1))
    show liv (if j ∈ al m ch f then _ else m.rc j) = _
    rw [if_neg z]
  · refine List.filter_eq_nil_iff.mpr fun j hj => ?_
    show ¬ liv (if j ∈ al m ch f then _ else m.rc j) = true
    by_cases z : j ∈ al m ch f
    · rw [if_pos z]
      have hne : al m ch f ≠ [] := by intro y; rw [y] at z; cases z
      rw [if_neg hne]
      unfold liv
      simp only [decide_eq_true_eq]
      omega
    · rw [if_neg z]
      exact fun y => z (List.mem_filter.mpr ⟨hj, y⟩)
end

def Out (a : Adr) (m : Mdl) (b : Addr) : Prop := b ≠ a.S ∧ b ≠ a.R ∧ b ≠ a.P ∧ (∀ k ∈ m.keys, b ≠ a.ra k) ∧ (∀ f ∈ m.pks, b ≠ a.pa f)
section
variable {W : Wd} {φ₀ φ : AH} {a : Adr} {m : Mdl}
open Classical in
theorem Rep.big (r : Rep φ₀ φ a m) : ∃ φ₁, Rep φ₁ φ a m ∧ Ext φ₀ φ₁ ∧ ∀ b o, φ b = some o → Out a m b → φ₁ b = some o := by
  refine ⟨fun b => if Out a m b then φ b else none, ?_, fun b o e => ?_, fun b o e h => by show (if Out a m b then φ b else none) = _; rw [if_pos h]; exact e⟩
  · refine ⟨fun b o e => ?_, r.sto, r.rdc, r.pdc, r.rec_, r.prc, if_neg fun h => h.1 rfl, if_neg fun h => h.2.1 rfl, if_neg fun h => h.2.2.1 rfl, fun k hk => if_neg fun h => h.2.2.2.1 k hk rfl, fun f hf => if_neg fun h => h.2.2.2.2 f hf rfl, r.hRP, r.rin, r.pin, r.sml⟩
    have e : (if Out a m b then φ b else none) = some o := e
    split at e
    · exact e
    · cases e
  · show (if Out a m b then φ b else none) = _
    rw [if_pos]
    · exact r.ext b o e
    · refine ⟨fun z => ?_, fun z => ?_, fun z => ?_, fun k hk z => ?_, fun f hf z => ?_⟩
      · rw [z, r.nS] at e; cases e
      · rw [z, r.nR] at e; cases e
      · rw [z, r.nP] at e; cases e
      · rw [z, r.nrc k hk] at e; cases e
      · rw [z, r.npr f hf] at e; cases e
theorem Rep.outO (r : Rep φ₀ φ a m) {b : Addr} {o : AO} (e : φ b = some o) (h1 : b ≠ a.R) (h2 : b ≠ a.P) (h3 : o.notInst) : Out a m b := by
  refine ⟨fun z => ?_, h1, h2, fun k hk z => ?_, fun f hf z => ?_⟩
  · rw [z, r.sto] at e; cases e; exact h3
  · rw [z, r.rec_ k hk] at e; cases e; exact h3
  · rw [z, r.prc f hf] at e; cases e; exact h3
theorem Rep.outL (r : Rep φ₀ φ a m) {b : Addr} {l : List AV} (e : φ b = some (.list l)) : Out a m b :=
  r.outO e (fun z => by obtain ⟨ep, h⟩ := r.rdc; rw [z, h] at e; cases e) (fun z => by obtain ⟨ep, h⟩ := r.pdc; rw [z, h] at e; cases e) trivial
theorem dset_in {ra : Int → Addr} {k : Int} {x : Addr} {ks : List Int} (h : k ∈ ks) : dset k (.ref x) (refs ks ra) = refs ks (fset ra k x) := by
  unfold dset
  rw [any_refs, decide_eq_true h]
  simp only [if_true]
  unfold refs
  rw [List.map_map]
  refine List.map_congr_left fun j hj => ?_
  by_cases z : j = k
  · subst z; simp [fset_self]
  · simp [fset_ne z, z]
theorem asnAll_nil {C : FC} {ρ : Loc} {φ : AH} {P : Loc → AH → Prop} (h : P ρ φ) : AsnAll C [] [] ρ φ P := h
theorem asnAll_cons {C : FC} {ρ : Loc} {φ : AH} {P : Loc → AH → Prop} {t : Expr} {ts : List Expr} {x : AV} {xs : List AV} (h : Asn C t x ρ φ fun ρ' φ' => AsnAll C ts xs ρ' φ' P) : AsnAll C (t :: ts) (x :: xs) ρ φ P := h

noncomputable def P0 (f : Int) (k : Str) (c t : AV) : Prc := ⟨f, k, c, t, -1, -1⟩
noncomputable def M0 (c7 t7 c8 t8 c9 t9 : AV) : Mdl := ⟨[], fun _ => ⟨0, 0, .none, .none, 0, 0, 0⟩, 0, 0, [7, 8, 9], fun f => if f = 7 then P0 7 "dynamic" c7 t7 else if f = 8 then P0 8 "dynamic" c8 t8 else P0 9 "static" c9 t9⟩
noncomputable def A0 (S R P p7 p8 p9 : Addr) : Adr := ⟨S, R, P, fun _ => 0, fun f => if f = 7 then p7 else if f = 8 then p8 else p9⟩
theorem rep0 {S R P p7 p8 p9 : Addr} {c7 t7 c8 t8 c9 t9 : AV} {ep ep' : Nat} (hE : Ext φ₀ φ) (h1 : φ S = some (stoO R 0 0)) (h2 : φ R = some (.idict [] ep)) (h3 : φ P = some (.idict [(7, .ref p7), (8, .ref p8), (9, .ref p9)] ep'))
    (h7 : φ p7 = some (prcO (P0 7 "dynamic" c7 t7))) (h8 : φ p8 = some (prcO (P0 8 "dynamic" c8 t8))) (h9 : φ p9 = some (prcO (P0 9 "static" c9 t9)))
    (nS : φ₀ S = none) (nR : φ₀ R = none) (nP : φ₀ P = none) (n7 : φ₀ p7 = none) (n8 : φ₀ p8 = none) (n9 : φ₀ p9 = none) (d1 : R ≠ P) (d2 : p7 ≠ p8) (d3 : p7 ≠ p9) (d4 : p8 ≠ p9) : Rep φ₀ φ (A0 S R P p7 p8 p9) (M0 c7 t7 c8 t8 c9 t9) := by
  refine ⟨hE, h1, ⟨ep, h2⟩, ⟨ep', h3⟩, fun k h => (by cases h), fun f hf => ?_, nS, nR, nP, fun k h => (by cases h), fun f hf => ?_, d1, fun k h => (by cases h), fun f hf g hg e => ?_, Nat.zero_le _⟩
  · have hf : f ∈ [(7 : Int), 8, 9] := hf
    simp only [List.mem_cons, List.not_mem_nil, or_false] at hf
    rcases hf with rfl | rfl | rfl
    · exact h7
    · exact h8
    · exact h9
  · have hf : f ∈ [(7 : Int), 8, 9] := hf
    simp only [List.mem_cons, List.not_mem_nil, or_false] at hf
    rcases hf with rfl | rfl | rfl
    · exact n7
    · exact n8
    · exact n9
  · have hf : f ∈ [(7 : Int), 8, 9] := hf
    have hg : g ∈ [(7 : Int), 8, 9] := hg
    simp only [List.mem_cons, List.not_mem_nil, or_false] at hf hg
    rcases hf with rfl | rfl | rfl <;> rcases hg with rfl | rfl | rfl
    · rfl
    · exact absurd e d2
    · exact absurd e d3
    · exact absurd e.symm d2
    · rfl
    · exact absurd e d4
    · exact absurd e.symm d3
    · exact absurd e.symm d4
    · rfl
theorem good0 {c7 t7 c8 t8 c9 t9 : AV} : Good (M0 c7 t7 c8 t8 c9 t9) (fun _ => []) := by
  have key : ∀ f ∈ (M0 c7 t7 c8 t8 c9 t9).pks, ((M0 c7 t7 c8 t8 c9 t9).pr f).first = -1 ∧ ((M0 c7 t7 c8 t8 c9 t9).pr f).last = -1 ∧ ((M0 c7 t7 c8 t8 c9 t9).pr f).fn = f := fun f hf => by
    have hf : f ∈ [(7 : Int), 8, 9] := hf
    simp only [List.mem_cons, List.not_mem_nil, or_false] at hf
    rcases hf with rfl | rfl | rfl <;> exact ⟨rfl, rfl, rfl⟩
  refine ⟨.nil, fun k => ⟨fun h => (by cases h), fun ⟨_, _, h⟩ => (by cases h)⟩, fun f hf => ?_, fun f hf => (key f hf).2.1, fun _ _ => .nil, fun _ _ k h => (by cases h), fun k h => (by cases h), fun k h => (by cases h), fun k h => (by cases h), fun k h => (by cases h), fun f hf => (key f hf).2.2, fun _ _ _ => rfl, by show ([7, 8, 9] : List Int).Nodup; decide, Int.le_refl _, Int.le_refl _⟩
  show ((M0 c7 t7 c8 t8 c9 t9).pr f).first < 0
  rw [(key f hf).1]; decide
/-- the rows of the law's own -/
structure Rows (φ : AH) (D : Addr) (lf : Int → Addr) (m : Mdl) (ch : Int → List Int) : Prop where
  d : ∃ ep, φ D = some (.idict (refs [7, 8] lf) ep)
  l : ∀ f ∈ ([7, 8] : List Int), φ (lf f) = some (.list ((al m ch f).map .int))
structure Made (φ₀ φ : AH) (a : Adr) (m : Mdl) (ch : Int → List Int) (D : Addr) (lf : Int → Addr) (n : Nat) : Prop where
  rep : Rep φ₀ φ a m
  good : Good m ch
  rows : Rows φ D lf m ch
  pks : m.pks = [7, 8, 9]
  dyn : ∀ f ∈ ([7, 8] : List Int), (m.pr f).kind = "dynamic"
  sta : (m.pr 9).kind = "static"
  nxt : m.nxt ≤ n
  nD : φ₀ D = none
  nl : ∀ f ∈ ([7, 8] : List Int), φ₀ (lf f) = none
  dR : D ≠ a.R
  dP : D ≠ a.P
theorem Good.keys_len {ch : Int → List Int} (g : Good m ch) {n : Nat} (h : m.nxt ≤ n) : m.keys.length ≤ n := by
  have h2 : m.keys.length ≤ ((List.range n).map fun (i : Nat) => (i : Int)).length := nodup_le g.knd fun k hk => by
    have := g.rng k hk
    exact List.mem_map.mpr ⟨k.toNat, List.mem_range.mpr (by omega), by omega⟩
  simpa using h2
end

section
variable {W : Wd} {φ₀ φ : AH} {a : Adr} {m : Mdl}
theorem Made.keep {ch : Int → List Int} {D : Addr} {lf : Int → Addr} {n : Nat} (M : Made φ₀ φ a m ch D lf n) {φ' : AH} (x : Ext φ φ') : Made φ₀ φ' a m ch D lf n :=
  ⟨M.rep.keep x, M.good, ⟨let ⟨ep, e⟩ := M.rows.d; ⟨ep, x _ _ e⟩, fun f hf => x _ _ (M.rows.l f hf)⟩, M.pks, M.dyn, M.sta, M.nxt, M.nD, M.nl, M.dR, M.dP⟩
/-- a store's deed leaves the rows alone -/
theorem Made.big {ch : Int → List Int} {D : Addr} {lf : Int → Addr} {n : Nat} (M : Made φ₀ φ a m ch D lf n) : ∃ φb, Rep φb φ a m ∧ Ext φ₀ φb ∧ Rows φb D lf m ch := by
  obtain ⟨φb, rb, hE, hout⟩ := M.rep.big
  refine ⟨φb, rb, hE, ?_, fun f hf => hout _ _ (M.rows.l f hf) (M.rep.outL (M.rows.l f hf))⟩
  obtain ⟨ep, e⟩ := M.rows.d
  exact ⟨ep, hout _ _ e (M.rep.outO e M.dR M.dP trivial)⟩
/-- one row is made anew -/
theorem Made.put {φ₄ : AH} {a' : Adr} {m' : Mdl} {ch' : Int → List Int} {L : Int → List Int} {D d2 : Addr} {lf : Int → Addr} {n ep' : Nat} {o : Int} (r : Rep φ₀ φ₄ a' m') (g : Good m' ch') (ho : o ∈ ([7, 8] : List Int))
    (hD : ∃ ep, φ₄ D = some (.idict (refs [7, 8] lf) ep)) (hl : ∀ f ∈ ([7, 8] : List Int), φ₄ (lf f) = some (.list ((L f).map .int))) (h2 : φ₄ d2 = some (.list ((al m' ch' o).map .int))) (n2 : φ₀ d2 = none)
    (hal : ∀ f ∈ ([7, 8] : List Int), f ≠ o → al m' ch' f = L f) (pks : m'.pks = [7, 8, 9]) (dyn : ∀ f ∈ ([7, 8] : List Int), (m'.pr f).kind = "dynamic") (sta : (m'.pr 9).kind = "static") (nxt : m'.nxt ≤ n) (nD : φ₀ D = none)
    (nl : ∀ f ∈ ([7, 8] : List Int), φ₀ (lf f) = none) (dR : D ≠ a'.R) (dP : D ≠ a'.P) : Made φ₀ (upd φ₄ D (.idict (refs [7, 8] (fset lf o d2)) ep')) a' m' ch' D (fset lf o d2) n := by
  obtain ⟨ep, e⟩ := hD
  refine ⟨r.other e dR dP nD, g, ⟨⟨_, upd_self ..⟩, fun f hf => ?_⟩, pks, dyn, sta, nxt, nD, fun f hf => ?_, dR, dP⟩
  · by_cases z : f = o
    · subst z
      rw [fset_self, upd_ne (fun y => by rw [y, e] at h2; cases h2)]; exact h2
    · have h1 := hl f hf
      rw [fset_ne z, upd_ne (fun y => by rw [y, e] at h1; cases h1), hal f hf z]; exact h1
  · by_cases z : f = o
    · subst z; rw [fset_self]; exact n2
    · rw [fset_ne z]; exact nl f hf
noncomputable abbrev mdL (n : Int) (D P S : Addr) : Loc := [("made", .int n), ("rows", .ref D), ("procs", .ref P), ("held", .ref S)]
theorem app_facts (m : Mdl) (f : Int) (t i : AV) : (m.app f t i).pks = m.pks ∧ (m.app f t i).nxt = m.nxt + 1 ∧ ∀ g, ((m.app f t i).pr g).kind = (m.pr g).kind := by
  unfold Mdl.app
  split
  · refine ⟨rfl, rfl, fun g => ?_⟩
    show (fset (fset m.pr f { m.pr f with first := m.nxt }) f { (fset m.pr f { m.pr f with first := m.nxt }) f with last := m.nxt } g).kind = _
    by_cases z : g = f
    · subst z; rw [fset_self, fset_self]
    · rw [fset_ne z, fset_ne z]
  · refine ⟨rfl, rfl, fun g => ?_⟩
    show (fset m.pr f { m.pr f with last := m.nxt } g).kind = _
    by_cases z : g = f
    · subst z; rw [fset_self]
    · rw [fset_ne z]
theorem pre_facts (m : Mdl) (f : Int) (t i : AV) : (m.pre f t i).pks = m.pks ∧ (m.pre f t i).nxt = m.nxt + 1 ∧ ∀ g, ((m.pre f t i).pr g).kind = (m.pr g).kind := by
  unfold Mdl.pre
  split
  · refine ⟨rfl, rfl, fun g => ?_⟩
    show (fset (fset m.pr f { m.pr f with last := m.nxt }) f { (fset m.pr f { m.pr f with last := m.nxt }) f with first := m.nxt } g).kind = _
    by_cases z : g = f
    · subst z; rw [fset_self, fset_self]
    · rw [fset_ne z, fset_ne z]
  · refine ⟨rfl, rfl, fun g => ?_⟩
    show (fset m.pr f { m.pr f with first := m.nxt } g).kind = _
    by_cases z : g = f
    · subst z; rw [fset_self]
    · rw [fset_ne z]
theorem Sub.under {ρ ρ' : Loc} (h : Sub ρ ρ') (x : Str) (v : AV) : Sub ((x, v) :: ρ) ((x, v) :: ρ') := fun y u e => by
  rw [List.lookup_cons] at e ⊢
  cases z : (y == x) with
  | true => rw [z] at e; exact e
  | false => rw [z] at e; exact h y u e
theorem Made.next {ch : Int → List Int} {D : Addr} {lf : Int → Addr} {n : Nat} (M : Made φ₀ φ a m ch D lf n) : Made φ₀ φ a m ch D lf (n + 1) := ⟨M.rep, M.good, M.rows, M.pks, M.dyn, M.sta, by have := M.nxt; omega, M.nD, M.nl, M.dR, M.dP⟩
noncomputable def notWh (w : Int) : AV → Bool
  | .int k => k != w
  | _ => false
theorem lookup_one {x y : Str} {α : Type} {v w : α} (h : List.lookup y [(x, v)] = some w) : y = x ∧ w = v := by
  rw [List.lookup_cons] at h
  cases z : (y == x) with
  | true => rw [z] at h; cases h; exact ⟨beq_iff_eq.mp z, rfl⟩
  | false => rw [z] at h; cases h
theorem filter_notWh (w : Int) (l : List Int) : ((l.map AV.int).filter (notWh w)).map id = (l.filter fun j => decide (j ≠ w)).map AV.int := by
  rw [List.map_id, List.filter_map]
  congr 1
  refine List.filter_congr fun j _ => ?_
  show (j != w) = decide (j ≠ w)
  by_cases z : j = w <;> simp [z]
noncomputable def fBody : Stmt → List Stmt
  | .For (body := b) .. => b
  | _ => []
noncomputable abbrev madC (W : Wd) (A : Around) (l : Addr) (cd : Value) : FC := ⟨W, A, envX "_law_made" (dScope (st1 11)) l 201 cd (cellsFrom (l + 1) (dScope (st1 11)).names [])⟩
theorem in78 {s : Int} (h0 : 0 ≤ s) (h1 : s < 2) : 7 + s ∈ ([7, 8] : List Int) := by
  have : s = 0 ∨ s = 1 := by omega
  rcases this with rfl | rfl <;> decide
theorem mad_body (ok : W.Ok) (F : Facts W.K) {A : Around} {l : Addr} {cd : Value} (G : Gd (madC W A l cd) 4) {way side which n : Int} {ch : Int → List Int} {D : Addr} {lf : Int → Addr} {i : Nat} (h0 : 0 ≤ side) (h1 : side < 2) (hi : i < 10) (M : Made φ₀ φ a m ch D lf i) :
    XS (madC W A l cd) (execs (fBody ((dBody (st1 11))[4]!)) (madC W A l cd).env) ((("which", .int which) :: ("side", .int side) :: ("way", .int way) :: mdL n D a.P a.S : Loc)) φ
      (fun fl ρ' φ' => fl = .next ∧ ∃ (a' : Adr) (m' : Mdl) (ch' : Int → List Int) (lf' : Int → Addr) (n' : Int), Sub (mdL n' D a.P a.S) ρ' ∧ a'.S = a.S ∧ a'.P = a.P ∧ Made φ₀ φ' a' m' ch' D lf' (i + 1)) := by
  show XS _ (execs (_ :: _) _) _ _ _
  have ho := in78 h0 h1
  have hop : 7 + side ∈ m.pks := by
    rw [M.pks]
    simp only [List.mem_cons, List.not_mem_nil, or_false] at ho ⊢
    omega
  have hn : m.nxt ∉ m.keys := M.good.fresh
  have hkl := M.good.keys_len M.nxt
  have hpath := M.good.path (7 + side) hop
  have hlen : (ch (7 + side)).length ≤ 1000 := Nat.le_trans (nodup_le (M.good.nodup _ hop) fun k hk => chmem M.good hop hk) M.rep.sml
  walk_at "m s"
  refine ⟨fun hw => ?_, fun hw => ?_⟩
  · have hS := M.rep.sto
    obtain ⟨epP, hPd⟩ := M.rep.pdc
    unfold stoO at hS
    show XS _ (execs (_ :: _) _) _ _ _
    walk_at "m s"
    refine subt_idict hPd (dget_refs hop) ?_
    walk_at "m s"
    refine ev_tuple ?_
    walk_at "m s"
    refine ⟨by show 2 ≤ 1000000; decide, fun t1 ht1 => ?_⟩
    walk_at "m s"
    refine ev_tuple ?_
    walk_at "m s"
    refine ⟨by show 1 ≤ 1000000; decide, fun t2 ht2 => ?_⟩
    have M₁ := (M.keep (Ext.new ht1)).keep (Ext.new (o := .tup [.str "var"]) ht2)
    obtain ⟨φb, rb, hE, hrow⟩ := M₁.big
    walk_at "m s"
    refine cal_spec ((s_app ok F rb hop hn (by omega) fun hc => ?_).mono ?_)
    · rw [M.good.last _ hop]
      have : ch (7 + side) ≠ [] := by intro z; rw [z] at hpath; exact hc hpath
      exact chmem M.good hop (getLastD_mem this _)
    rintro _ φ₂ ⟨y, rfl, r₂⟩
    obtain ⟨g', hsame, hnew⟩ := M.good.app hop (M.dyn _ ho) (.ref t1) (.ref t2)
    obtain ⟨fp, fx, fk⟩ := app_facts m (7 + side) (.ref t1) (.ref t2)
    have hA := al_app M.good hop hsame hnew
    generalize hm' : m.app (7 + side) (.ref t1) (.ref t2) = m' at *
    have hk' : m.nxt ∈ m'.keys := (g'.kin _).mpr ⟨7 + side, by rw [fp]; exact hop, by rw [fset_self]; simp⟩
    have hR := r₂.rec_ _ hk'
    change φ₂ (fset a.ra m.nxt y m.nxt) = _ at hR
    rw [fset_self] at hR
    unfold recO at hR
    rw [g'.key _ hk'] at hR
    obtain ⟨epD, hD⟩ := hrow.d
    have hD := r₂.ext _ _ hD
    have hl := fun f hf => r₂.ext _ _ (hrow.l f hf)
    walk_at "m s"
    refine subt_idict hD (dget_refs ho) ?_
    walk_at "m s"
    refine ev_list ?_
    walk_at "m s"
    refine ⟨by show 1 ≤ 1000000; decide, fun d1 hd1 => ?_⟩
    have E1 := Ext.new (o := .list [.int m.nxt]) hd1
    have hal : (al m ch (7 + side)).length ≤ 1000 := Nat.le_trans (List.length_filter_le _ _) hlen
    refine bin_addL (E1 _ _ (hl _ ho)) (upd_self ..) (fun d2 hd2 => ?_) (by rw [List.length_map]; show _ + 1 ≤ _; omega)
    have E2 := E1.trans (Ext.new (o := .list ((al m ch (7 + side)).map .int ++ [.int m.nxt])) hd2)
    walk_at "m s"
    refine seti_idict (E2 _ _ hD) (fun ep' => ?_) (by rw [refs_len]; show 2 ≤ _; omega)
    rw [dset_in ho]
    walk_at "m s"
    refine ⟨rfl, { a with ra := fset a.ra m.nxt y }, m', _, _, n + 1, by walk_at "m sub", rfl, rfl, Made.put (o := 7 + side) (L := al m ch) ((r₂.base hE).keep E2) g' ho ⟨_, E2 _ _ hD⟩ (fun f hf => E2 _ _ (hl f hf)) ?_ ?_ ?_ ?_ ?_ ?_ ?_ M.nD M.nl M.dR M.dP⟩
    · rw [upd_self, hA.2.1, List.map_append]; rfl
    · exact (r₂.base hE).ext.none (E1.none hd2)
    · intro f hf hne
      refine hA.1 f ?_ hne _
      rw [M.pks]
      simp only [List.mem_cons, List.not_mem_nil, or_false] at hf ⊢
      omega
    · rw [fp]; exact M.pks
    · intro f hf; rw [fk]; exact M.dyn f hf
    · rw [fk]; exact M.sta
    · rw [fx]; have := M.nxt; omega
  · walk_at "m s"
    refine ⟨fun hw' => ?_, fun hw' => ?_⟩
    · have hS := M.rep.sto
      obtain ⟨epP, hPd⟩ := M.rep.pdc
      unfold stoO at hS
      show XS _ (execs (_ :: _) _) _ _ _
      walk_at "m s"
      refine subt_idict hPd (dget_refs hop) ?_
      walk_at "m s"
      refine ev_tuple ?_
      walk_at "m s"
      refine ⟨by show 2 ≤ 1000000; decide, fun t1 ht1 => ?_⟩
      walk_at "m s"
      refine ev_tuple ?_
      walk_at "m s"
      refine ⟨by show 1 ≤ 1000000; decide, fun t2 ht2 => ?_⟩
      have M₁ := (M.keep (Ext.new ht1)).keep (Ext.new (o := .tup [.str "var"]) ht2)
      obtain ⟨φb, rb, hE, hrow⟩ := M₁.big
      walk_at "m s"
      refine cal_spec ((s_pre ok F rb hop hn (by omega)).mono ?_)
      rintro _ φ₂ ⟨y, rfl, r₂⟩
      obtain ⟨g', hsame, hnew⟩ := M.good.pre hop (M.dyn _ ho) (.ref t1) (.ref t2)
      obtain ⟨fp, fx, fk⟩ := pre_facts m (7 + side) (.ref t1) (.ref t2)
      have hA := al_app M.good hop hsame hnew
      generalize hm' : m.pre (7 + side) (.ref t1) (.ref t2) = m' at *
      have hk' : m.nxt ∈ m'.keys := (g'.kin _).mpr ⟨7 + side, by rw [fp]; exact hop, by rw [fset_self]; simp⟩
      have hR := r₂.rec_ _ hk'
      change φ₂ (fset a.ra m.nxt y m.nxt) = _ at hR
      rw [fset_self] at hR
      unfold recO at hR
      rw [g'.key _ hk'] at hR
      obtain ⟨epD, hD⟩ := hrow.d
      have hD := r₂.ext _ _ hD
      have hl := fun f hf => r₂.ext _ _ (hrow.l f hf)
      walk_at "m s"
      refine ev_list ?_
      walk_at "m s"
      refine ⟨by show 1 ≤ 1000000; decide, fun d1 hd1 => ?_⟩
      have E1 := Ext.new (o := .list [.int m.nxt]) hd1
      walk_at "m s"
      refine subt_idict (E1 _ _ hD) (dget_refs ho) ?_
      have hal : (al m ch (7 + side)).length ≤ 1000 := Nat.le_trans (List.length_filter_le _ _) hlen
      refine bin_addL (upd_self ..) (E1 _ _ (hl _ ho)) (fun d2 hd2 => ?_) (by rw [List.length_map]; show 1 + _ ≤ _; omega)
      have E2 := E1.trans (Ext.new (o := .list ([.int m.nxt] ++ (al m ch (7 + side)).map .int)) hd2)
      walk_at "m s"
      refine seti_idict (E2 _ _ hD) (fun ep' => ?_) (by rw [refs_len]; show 2 ≤ _; omega)
      rw [dset_in ho]
      walk_at "m s"
      refine ⟨rfl, { a with ra := fset a.ra m.nxt y }, m', _, _, n + 1, by walk_at "m sub", rfl, rfl, Made.put (o := 7 + side) (L := al m ch) ((r₂.base hE).keep E2) g' ho ⟨_, E2 _ _ hD⟩ (fun f hf => E2 _ _ (hl f hf)) ?_ ?_ ?_ ?_ ?_ ?_ ?_ M.nD M.nl M.dR M.dP⟩
      · rw [upd_self, hA.2.2, List.map_cons]; rfl
      · exact (r₂.base hE).ext.none (E1.none hd2)
      · intro f hf hne
        refine hA.1 f ?_ hne _
        rw [M.pks]
        simp only [List.mem_cons, List.not_mem_nil, or_false] at hf ⊢
        omega
      · rw [fp]; exact M.pks
      · intro f hf; rw [fk]; exact M.dyn f hf
      · rw [fk]; exact M.sta
      · rw [fx]; have := M.nxt; omega
    · walk_at "m s"
      refine ⟨fun hw4 => ?_, fun hw4 => ?_⟩
      · have hS := M.rep.sto
        unfold stoO at hS
        obtain ⟨φb, rb, hE, hrow⟩ := M.big
        obtain ⟨epD, hD⟩ := hrow.d
        show XS _ (execs (_ :: _) _) _ _ _
        walk_at "m s"
        refine cal_spec ((s_era ok F rb).mono ?_)
        rintro b φ₂ (⟨hk, hdth, rfl, r₂⟩ | ⟨hno, rfl, rfl⟩)
        · obtain ⟨g', hal⟩ := M.good.era hk
          walk_at "m s"
          refine if_t ?_
          have hD₂ := r₂.ext _ _ hD
          have hl₂ := fun f hf => r₂.ext _ _ (hrow.l f hf)
          show XS _ (execs (_ :: _) _) _ _ _
          refine x_for_dict ?_
          walk_at "m s"
          refine ⟨D, refs [7, 8] lf, epD, rfl, hD₂, fun j ρ φ' => ∃ lf' : Int → Addr, Sub ((("which", .int which) :: mdL n D a.P a.S : Loc)) ρ ∧ Rep φ₀ φ' a ({ m with gen := m.gen + 1 }.setR which { m.rc which with death := m.gen + 1 }) ∧ φ' D = some (.idict (refs [7, 8] lf') epD) ∧
            (∀ f ∈ ([7, 8] : List Int).take j, φ' (lf' f) = some (.list ((al ({ m with gen := m.gen + 1 }.setR which { m.rc which with death := m.gen + 1 }) ch f).map .int))) ∧ (∀ f ∈ ([7, 8] : List Int).drop j, φ' (lf' f) = some (.list ((al m ch f).map .int))) ∧ ∀ f ∈ ([7, 8] : List Int), φ₀ (lf' f) = none,
            ⟨lf, by walk_at "m sub", r₂.base hE, hD₂, fun f hf => (by simp at hf), fun f hf => hl₂ f hf, M.nl⟩, ?_, ?_⟩
          · rintro j ⟨f, v⟩ ρ φ' hj ⟨lf', hsub, r', hD', hdone, htodo, hnl⟩
            refine ⟨⟨refs [7, 8] lf', by rw [refs_keys, refs_keys], hD'⟩, asn_name fun Rj hRj => ?_⟩
            have hfj : ([7, 8] : List Int)[j]? = some f := by
              unfold refs at hj
              rw [List.getElem?_map, Option.map_eq_some_iff] at hj
              obtain ⟨q, h1, h2⟩ := hj
              cases h2; exact h1
            have hf : f ∈ ([7, 8] : List Int) := List.mem_of_getElem? hfj
            have hdr : ([7, 8] : List Int).drop j = f :: ([7, 8] : List Int).drop (j + 1) := List.drop_eq_getElem?_toList_append.trans (by rw [hfj]; rfl)
            have htk : ([7, 8] : List Int).take (j + 1) = ([7, 8] : List Int).take j ++ [f] := by rw [List.take_add_one, hfj]; rfl
            have hlf := htodo f (by rw [hdr]; simp)
            refine XS.sub ?_ (hsub.under "number" (.int f))
            show XS _ (execs (_ :: _) _) _ _ _
            walk_at "m s"
            refine ev_comp (cl := [("which", l + 1)]) (notWh which) id [("which", .int which)] rfl (fun y c e => e) (fun y v c e e' => ?_) (fun y v e => ?_) ?_
            · obtain ⟨rfl, rfl⟩ := lookup_one e
              exact e'
            · obtain ⟨rfl, rfl⟩ := lookup_one e
              exact ⟨rfl, l + 1, rfl⟩
            · walk_at "m s"
              refine subt_idict hD' (dget_refs hf) ?_
              have hal1 : (al m ch f).length ≤ 1000 := by
                have hfp : f ∈ m.pks := by
                  rw [M.pks]
                  simp only [List.mem_cons, List.not_mem_nil, or_false] at hf ⊢
                  omega
                exact Nat.le_trans (List.length_filter_le _ _) (Nat.le_trans (nodup_le (M.good.nodup _ hfp) fun k hk => chmem M.good hfp hk) M.rep.sml)
              refine ⟨lf' f, _, rfl, hlf, by rw [List.length_map]; omega, fun Ca D' out hDn G' v hv ρ' hsub' => ⟨?_, fun hp => ?_⟩, fun D' hDn => ?_⟩
              · obtain ⟨k, _, rfl⟩ := List.mem_map.mp hv
                refine tests_one (eb_cmp ?_)
                refine ev_local lk_here ?_
                refine ev_cell (v := .int which) (lk_next rfl (hsub' _ _ rfl)) rfl ?_
                refine cmp_ne (tru_bool ⟨rfl, rfl⟩)
              · refine ev_local lk_here ⟨rfl, rfl⟩
              · rw [filter_notWh]
                have E3 := Ext.new (o := .list (((al m ch f).filter fun j => decide (j ≠ which)).map .int)) hDn
                have nDl : D ≠ D' := by intro z; rw [← z, hD'] at hDn; cases hDn
                walk_at "m s"
                refine seti_there (E3 _ _ hD') (by rw [any_refs]; exact decide_eq_true hf) ?_ (by rw [refs_len]; show 2 ≤ _; omega)
                rw [dset_in hf]
                walk_at "m s"
                have r'' := (r'.keep E3).other (o := .idict (refs [7, 8] (fset lf' f D')) epD) (E3 _ _ hD') M.dR M.dP M.nD
                refine LoopK.next _ (Sub.refl _) ⟨fset lf' f D', by walk_at "m sub", r'', upd_self .., fun f' hf' => ?_, fun f' hf' => ?_, fun f' hf' => ?_⟩
                · rw [htk] at hf'
                  by_cases z : f' = f
                  · subst z
                    rw [fset_self, upd_ne (Ne.symm nDl), upd_self, hal]
                  · rcases List.mem_append.mp hf' with h | h
                    · have h1 := hdone f' h
                      rw [fset_ne z, upd_ne (fun y => by rw [y, hD'] at h1; cases h1)]; exact E3 _ _ h1
                    · exact absurd (List.mem_singleton.mp h) z
                · have z : f' ≠ f := by
                    intro z
                    have hnd : ([7, 8] : List Int).Nodup := by decide
                    rw [← List.take_append_drop (j + 1) ([7, 8] : List Int), htk] at hnd
                    exact (List.nodup_append.mp hnd).2.2 f (by simp) f' hf' z.symm
                  have h1 := htodo f' (by rw [hdr]; exact List.mem_cons_of_mem _ hf')
                  rw [fset_ne z, upd_ne (fun y => by rw [y, hD'] at h1; cases h1)]; exact E3 _ _ h1
                · by_cases z : f' = f
                  · subst z; rw [fset_self]; exact r'.ext.none hDn
                  · rw [fset_ne z]; exact hnl f' hf'
          · rintro ρ φ' ⟨lf', hsub, r', hD', hdone, htodo, hnl⟩
            refine ⟨⟨refs [7, 8] lf', by rw [refs_keys, refs_keys], hD'⟩, ?_⟩
            walk_at "m s"
            rw [refs_len] at hdone
            refine ⟨rfl, a, _, ch, lf', n, (fun y u e => hsub y u ?_), rfl, rfl, ⟨r', g', ⟨⟨epD, hD'⟩, hdone⟩, M.pks, M.dyn, M.sta, by have := M.nxt; show m.nxt ≤ _; omega, M.nD, hnl, M.dR, M.dP⟩⟩
            exact (by walk_at "m sub" : Sub (mdL n D a.P a.S) ((("which", .int which) :: mdL n D a.P a.S : Loc))) y u e
        · walk_at "m s"
          refine if_f ?_
          walk_at "m s"
          exact ⟨rfl, a, m, ch, lf, n, by walk_at "m sub", rfl, rfl, M.next⟩
      · walk_at "m s"
        refine ⟨fun hs1 => ?_, fun hs1 => ?_⟩
        · have hS := M.rep.sto
          obtain ⟨epP, hPd⟩ := M.rep.pdc
          unfold stoO at hS
          obtain ⟨φb, rb, hE, hrow⟩ := M.big
          obtain ⟨epD, hD⟩ := hrow.d
          show XS _ (execs (_ :: _) _) _ _ _
          walk_at "m s"
          refine subt_idict hPd (dget_refs hop) ?_
          walk_at "m s"
          refine cal_spec ((s_kil ok F rb hop hpath hlen).mono ?_)
          rintro _ φ₂ ⟨rfl, r₂⟩
          have hfil : ((ch (7 + side)).filter fun k => vis (m.rc k) m.gen) = al m ch (7 + side) := List.filter_congr fun k hk => M.good.vis (chmem M.good hop hk)
          rw [hfil] at r₂
          obtain ⟨g', hal, hal0⟩ := M.good.kil hop
          have hD₂ := r₂.ext _ _ hD
          have hl₂ := fun f hf => r₂.ext _ _ (hrow.l f hf)
          walk_at "m s"
          refine ev_list ?_
          walk_at "m s"
          refine ⟨Nat.zero_le _, fun d1 hd1 => ?_⟩
          have E1 := Ext.new (o := .list []) hd1
          walk_at "m s"
          refine seti_idict (E1 _ _ hD₂) (fun ep' => ?_) (by rw [refs_len]; show 2 ≤ _; omega)
          rw [dset_in ho]
          walk_at "m s"
          refine ⟨rfl, a, _, ch, _, n, by walk_at "m sub", rfl, rfl, Made.put (o := 7 + side) (L := al m ch) ((r₂.base hE).keep E1) g' ho ⟨_, E1 _ _ hD₂⟩ (fun f hf => E1 _ _ (hl₂ f hf)) ?_ ?_ ?_ M.pks M.dyn M.sta ?_ M.nD M.nl M.dR M.dP⟩
          · rw [upd_self, hal0]; rfl
          · exact (r₂.base hE).ext.none hd1
          · intro f hf hne
            refine hal f ?_ hne
            rw [M.pks]
            simp only [List.mem_cons, List.not_mem_nil, or_false] at hf ⊢
            omega
          · have := M.nxt; show m.nxt ≤ _; omega
        · walk_at "m s"
          exact ⟨rfl, a, m, ch, lf, n, by walk_at "m sub", rfl, rfl, M.next⟩
end

section
variable {W : Wd} {φ₀ φ : AH} {a : Adr} {m : Mdl}
theorem s_mad (ok : W.Ok) (F : Facts W.K) {d : Addr} (hd : Deeds φ d) : Spec W 5 201 [.ref d] φ
    (fun b φ' => ∃ t a m ch D lf, b = .ref t ∧ φ' t = some (.tup [.ref a.S, .ref a.P, .ref D]) ∧ Made φ φ' a m ch D lf 10) := by
  refine spec_defC ok (names := ["deeds"]) F.aMad (by walk_at "m bind") (fun n => rfl) (fun A l cd G Rk hRk => ?_)
  show XS _ (execs (_ :: _) _) _ _ _
  walk_at "m s"
  refine cal_cls (lvl := 1) F.kS (fun x hx => (s_iSto ok F).mono ?_)
  rintro _ _ ⟨rfl, R, ep, hR, hRx, rfl⟩
  refine ⟨rfl, ?_⟩
  refine XS.cut (fun φ' => Ext φ φ' ∧ φ' x = some (stoO R 0 0) ∧ φ' R = some (.idict [] ep)) ⟨((Ext.refl φ).put hR).put hx, upd_self .., by rw [upd_ne hRx, upd_self]⟩ ?_
  rintro φ₁ ⟨E1, hx1, hR1⟩
  walk_at "m s"
  refine ev_dictI fun P epP hP => ?_
  refine ep_cons ?_
  walk_at "m s"
  refine cal_cls (lvl := 1) F.kP (fun p7 hp7 => (s_iPro ok F hp7).mono ?_)
  rintro _ φ₂ ⟨rfl, E2, c7, t7, h7⟩
  refine ⟨rfl, ?_⟩
  refine ep_cons ?_
  walk_at "m s"
  refine cal_cls (lvl := 1) F.kP (fun p8 hp8 => (s_iPro ok F hp8).mono ?_)
  rintro _ φ₃ ⟨rfl, E3, c8, t8, h8⟩
  refine ⟨rfl, ?_⟩
  refine ep_cons ?_
  walk_at "m s"
  refine cal_cls (lvl := 1) F.kP (fun p9 hp9 => (s_iPro ok F hp9).mono ?_)
  rintro _ φ₄ ⟨rfl, E4, c9, t9, h9⟩
  refine ⟨rfl, ?_⟩
  refine ep_nil (ks := []) ?_
  have hP4 : φ₄ P = some (.idict [] epP) := E4 _ _ (E3 _ _ (E2 _ _ (upd_self ..)))
  refine ⟨[(7, .ref p7), (8, .ref p8), (9, .ref p9)], epP, rfl, hP4, by show ([7, 8, 9] : List Int).Nodup; decide, fun epP' => ?_⟩
  have hP0 : φ P = none := E1.none hP
  have EP1 : Ext φ₁ (upd φ₁ P (.idict [] epP)) := Ext.new hP
  have h74 : φ₄ p7 = some (prcO (P0 7 "dynamic" c7 t7)) := E4 _ _ (E3 _ _ h7)
  have h84 : φ₄ p8 = some (prcO (P0 8 "dynamic" c8 t8)) := E4 _ _ h8
  have d78 : p7 ≠ p8 := by intro z; rw [← z, h7] at hp8; cases hp8
  have d79 : p7 ≠ p9 := by intro z; rw [← z, E3 _ _ h7] at hp9; cases hp9
  have d89 : p8 ≠ p9 := by intro z; rw [← z, h8] at hp9; cases hp9
  have E14 : Ext φ₁ φ₄ := EP1.trans (E2.trans (E3.trans E4))
  have z7 : φ p7 = none := E1.none (EP1.none hp7)
  have z8 : φ p8 = none := E1.none ((EP1.trans E2).none hp8)
  have z9 : φ p9 = none := E1.none ((EP1.trans (E2.trans E3)).none hp9)
  have nePx : P ≠ x := by intro z; rw [z, hx1] at hP; cases hP
  have nePR : P ≠ R := by intro z; rw [z, hR1] at hP; cases hP
  have r0 : Rep φ (upd φ₄ P (.idict [(7, .ref p7), (8, .ref p8), (9, .ref p9)] epP')) (A0 x R P p7 p8 p9) (M0 c7 t7 c8 t8 c9 t9) := by
    refine rep0 (ep := ep) (ep' := epP') ((E1.trans E14).put hP0) ?_ ?_ (upd_self ..) ?_ ?_ ?_ hx hR hP0 z7 z8 z9 (Ne.symm nePR) d78 d79 d89
    · rw [upd_ne (Ne.symm nePx)]; exact E14 _ _ hx1
    · rw [upd_ne (Ne.symm nePR)]; exact E14 _ _ hR1
    · rw [upd_ne (fun z => by rw [z, hP4] at h74; cases h74)]; exact h74
    · rw [upd_ne (fun z => by rw [z, hP4] at h84; cases h84)]; exact h84
    · rw [upd_ne (fun z => by rw [z, hP4] at h9; cases h9)]; exact h9
  revert r0
  generalize upd φ₄ P (.idict [(7, .ref p7), (8, .ref p8), (9, .ref p9)] epP') = φ₅
  intro r₅
  clear hP4 h74 h84 E14 EP1 E1 E2 E3 E4 hx1 hR1 h7 h8 h9 hp7 hp8 hp9 hP d78 d79 d89 z7 z8 z9
  clear φ₁ φ₂ φ₃ φ₄
  walk_at "m s"
  refine ev_dictI fun D epD hD => ?_
  refine ep_cons ?_
  walk_at "m s"
  refine ev_list ?_
  walk_at "m s"
  refine ⟨Nat.zero_le _, fun l7 hl7 => ?_⟩
  refine ep_cons ?_
  walk_at "m s"
  refine ev_list ?_
  walk_at "m s"
  refine ⟨Nat.zero_le _, fun l8 hl8 => ?_⟩
  refine ep_nil (ks := []) ?_
  have n78 : l7 ≠ l8 := by intro z; rw [← z, upd_self] at hl8; cases hl8
  have nD7 : D ≠ l7 := by intro z; rw [← z, upd_self] at hl7; cases hl7
  have nD8 : D ≠ l8 := by intro z; rw [← z, upd_ne nD7, upd_self] at hl8; cases hl8
  have hD0 : φ D = none := r₅.ext.none hD
  have ED := Ext.new (o := .idict [] epD) hD
  have z7 : φ l7 = none := r₅.ext.none (ED.none hl7)
  have z8 : φ l8 = none := r₅.ext.none ((ED.trans (Ext.new (o := .list []) hl7)).none hl8)
  refine ⟨[(7, .ref l7), (8, .ref l8)], epD, rfl, by rw [upd_ne nD8, upd_ne nD7, upd_self], by show ([7, 8] : List Int).Nodup; decide, fun epD' => ?_⟩
  have r₆ := r₅.keep (ED.trans ((Ext.new (o := .list []) hl7).trans (Ext.new (o := .list []) hl8)))
  have dR : D ≠ R := by intro z; obtain ⟨ep, e⟩ := r₅.rdc; have e : φ₅ R = _ := e; rw [← z, hD] at e; cases e
  have dP : D ≠ P := by intro z; obtain ⟨ep, e⟩ := r₅.pdc; have e : φ₅ P = _ := e; rw [← z, hD] at e; cases e
  have m0 : Made φ (upd (upd (upd (upd φ₅ D (.idict [] epD)) l7 (.list [])) l8 (.list [])) D (.idict [(7, .ref l7), (8, .ref l8)] epD')) (A0 x R P p7 p8 p9) (M0 c7 t7 c8 t8 c9 t9) (fun _ => []) D (fun f => if f = 7 then l7 else l8) 0 := by
    refine ⟨r₆.other (by rw [upd_ne nD8, upd_ne nD7, upd_self]) dR dP hD0, good0, ⟨⟨epD', upd_self ..⟩, fun f hf => ?_⟩, rfl, fun f hf => ?_, rfl, Int.le_refl _, hD0, fun f hf => ?_, dR, dP⟩
    · simp only [List.mem_cons, List.not_mem_nil, or_false] at hf
      rcases hf with rfl | rfl
      · show upd _ _ _ l7 = _
        rw [upd_ne (Ne.symm nD7), upd_ne n78, upd_self]; rfl
      · show upd _ _ _ l8 = _
        rw [upd_ne (Ne.symm nD8), upd_self]; rfl
    · simp only [List.mem_cons, List.not_mem_nil, or_false] at hf
      rcases hf with rfl | rfl <;> rfl
    · simp only [List.mem_cons, List.not_mem_nil, or_false] at hf
      rcases hf with rfl | rfl
      · exact z7
      · exact z8
  revert m0
  generalize upd (upd (upd (upd φ₅ D (.idict [] epD)) l7 (.list [])) l8 (.list [])) D (.idict [(7, .ref l7), (8, .ref l8)] epD') = φ₆
  intro m0
  clear r₆ ED hl8 hl7 hD r₅ z7 z8
  walk_at "m s"
  obtain ⟨ts, hdl, hts, htup⟩ := hd
  refine x_for_list ?_
  walk_at "m s"
  refine ⟨d, ts.map .ref, rfl, m0.rep.ext _ _ hdl, fun i ρ φ' => ∃ (a : Adr) (m : Mdl) (ch : Int → List Int) (lf : Int → Addr) (n : Int), Sub (mdL n D P x) ρ ∧ a.S = x ∧ a.P = P ∧ Made φ φ' a m ch D lf i, ⟨_, _, _, _, 0, by walk_at "m sub", rfl, rfl, m0⟩, ?_, ?_, go_tuple (fun y hy => by obtain ⟨t, _, rfl⟩ := List.mem_map.mp hy; exact ⟨t, rfl⟩)⟩
  · rintro i y ρ φ' hi ⟨a, m, ch, lf, n, hsub, rfl, rfl, M⟩
    refine ⟨M.rep.ext _ _ hdl, ?_⟩
    rw [List.getElem?_map, Option.map_eq_some_iff] at hi
    obtain ⟨t, ht, rfl⟩ := hi
    have hlt : i < ts.length := (List.getElem?_eq_some_iff.mp ht).1
    obtain ⟨way, side, which, h1, h2, h3⟩ := htup t (List.mem_of_getElem? ht)
    refine asn_tuple (M.rep.ext _ _ h1) (asnAll_cons (asn_name (asnAll_cons (asn_name (asnAll_cons (asn_cell rfl (asnAll_nil fun Rj hRj => ?_))))))) rfl
    refine XS.sub ((mad_body ok F G h2 h3 (by omega) M).mono ?_) (((hsub.under "way" (.int way)).under "side" (.int side)).under "which" (.int which))
    rintro _ ρ' φ'' ⟨rfl, a', m', ch', lf', n', hs', e1, e2, M'⟩
    exact hRj _ _ _ (LoopK.next _ (Sub.refl _) ⟨a', m', ch', lf', n', hs', e1, e2, M'⟩)
  · rintro ρ φ' ⟨a, m, ch, lf, n, hsub, rfl, rfl, M⟩
    refine ⟨M.rep.ext _ _ hdl, XS.sub ?_ hsub⟩
    walk_at "m s"
    refine ev_tuple ?_
    walk_at "m s"
    refine ⟨by show 3 ≤ 1000000; decide, fun t ht => ?_⟩
    refine hRk _ _ _ ?_
    refine ⟨t, a, m, ch, D, lf, rfl, upd_self .., ?_⟩
    have M' := M.keep (Ext.new (o := .tup [.ref a.S, .ref a.P, .ref D]) ht)
    exact ⟨M'.rep, M'.good, M'.rows, M'.pks, M'.dyn, M'.sta, Int.le_trans M'.nxt (by rw [List.length_map]; omega), M'.nD, M'.nl, M'.dR, M'.dP⟩
end

section
variable {W : Wd} {φ₀ φ : AH} {a : Adr} {m : Mdl}
theorem Rep.del (r : Rep φ₀ φ a m) {K : List Int} {ep : Nat} (hK : ∀ k ∈ K, k ∈ m.keys) (hz : K.length ≤ 1000) : Rep φ₀ (upd φ a.R (.idict (refs K a.ra) ep)) a { m with keys := K } := by
  obtain ⟨ep₀, e⟩ := r.rdc
  have ne : ∀ {b o'}, φ b = some o' → (∀ l ep, o' ≠ .idict l ep) → upd φ a.R (.idict (refs K a.ra) ep) b = some o' := fun {b o'} h1 h2 => by
    rw [upd_ne]
    · exact h1
    · intro z; rw [z, e] at h1; cases h1; exact h2 _ _ rfl
  exact ⟨r.ext.put r.nR, ne r.sto (fun _ _ z => by cases z), ⟨ep, upd_self ..⟩, let ⟨ep, e⟩ := r.pdc; ⟨ep, by rw [upd_ne (Ne.symm r.hRP)]; exact e⟩,
    fun k h => ne (r.rec_ k (hK k h)) (fun _ _ z => by cases z), fun f h => ne (r.prc f h) (fun _ _ z => by cases z), r.nS, r.nR, r.nP, fun k h => r.nrc k (hK k h), r.npr, r.hRP, fun i hi j hj => r.rin i (hK i hi) j (hK j hj), r.pin, hz⟩
theorem headSnd {m' : Mdl} (s : Snd m') {f : Int} (hf : f ∈ m'.pks) (h0 : 0 ≤ (m'.pr f).first) : snd m' (m'.pr f).first f ∧ (m'.pr f).first ∈ m'.keys := by
  obtain ⟨c, h1, h2, h3, _⟩ := s f hf
  cases c with
  | nil => have : (m'.pr f).first < 0 := h1; omega
  | cons k c =>
    have e : (m'.pr f).first = k := h1.1
    rw [e]
    exact ⟨h3 k (List.mem_cons_self ..), h1.2.2.1⟩
theorem lastSnd {m' : Mdl} {ch : Int → List Int} (g : Good m ch) (s : Snd m') {f : Int} (hf : f ∈ m.pks) (hf' : f ∈ m'.pks) (hne : ch f ≠ []) (e1 : (m'.pr f).first = (m.pr f).first) (e2 : ∀ k ∈ ch f, k ≠ (m.pr f).last → m'.nx k = m.nx k) :
    ∃ c'', Path m'.keys m'.nx (m'.nx (m.pr f).last) c'' ∧ (ch f ++ c'').Nodup ∧ (∀ k ∈ ch f ++ c'', snd m' k f) ∧ (m'.pr f).last = (ch f ++ c'').getLastD (-1) ∧ ((m'.pr f).kind ≠ "dynamic" → ch f ++ c'' = []) := by
  obtain ⟨c, h1, h2, h3, h4, h5⟩ := s f hf'
  obtain ⟨l', e'⟩ := split_last hne (-1)
  rw [← g.last f hf] at e'
  have hp := g.path f hf
  have hnd := g.nodup f hf
  rw [e'] at hp hnd
  obtain ⟨q, hs, hq⟩ := Path.seg hp
  obtain ⟨rfl, hq0, _, _⟩ := hq
  rw [e1] at h1
  have hne' : ∀ j ∈ l', j ≠ (m.pr f).last := fun j hj z => (List.nodup_append.mp hnd).2.2 j hj _ (by simp) z
  have hs' : Seg m'.nx (m.pr f).first l' (m.pr f).last := hs.frame fun j hj => e2 j (by rw [e']; exact List.mem_append_left _ hj) (hne' j hj)
  obtain ⟨c', rfl, hc'⟩ := Seg.split hs' h1 fun k hk => (hp.mem k (List.mem_append_left _ hk)).1
  cases c' with
  | nil => have : (m.pr f).last < 0 := hc'; omega
  | cons k c'' =>
    obtain ⟨rfl, _, _, hc2⟩ := hc'
    have e3 : l' ++ (m.pr f).last :: c'' = ch f ++ c'' := by rw [e']; simp
    generalize (m.pr f).last = qq at *
    rw [e3] at h2 h3 h4 h5
    exact ⟨c'', hc2, h2, h3, h4, h5⟩
end

section
variable {W : Wd} {φ₀ φ : AH} {a : Adr} {m : Mdl}
noncomputable def elseOf : Stmt → List Stmt
  | .If (orelse := b) .. => b
  | _ => []
noncomputable def spoE : Nat → Stmt
  | 0 => (dBody (st1 12))[4]!
  | n + 1 => (elseOf (spoE n))[0]!
noncomputable abbrev spoC (W : Wd) (A : Around) (l : Addr) (cd : Value) : FC := ⟨W, A, envX "_law_spoiled" (dScope (st1 12)) l 208 cd []⟩
noncomputable abbrev spoL (a : Adr) (m : Mdl) (way : Int) : Loc := [("last", .ref (a.ra (m.pr 7).last)), ("record", .ref (a.ra (m.pr 7).first)), ("first", .int (m.pr 7).first), ("way", .int way), ("procs", .ref a.P), ("held", .ref a.S)]
theorem spo4 (ok : W.Ok) (F : Facts W.K) {A : Around} {l : Addr} {cd : Value} (G : Gd (spoC W A l cd) 0) {ch : Int → List Int} {D : Addr} {lf : Int → Addr} (M : Made φ₀ φ a m ch D lf 10) {way : Int} (hf0 : 0 ≤ (m.pr 7).first) {R : AF → Loc → AH → Prop}
    (yes : ∀ ρ' φ' m', Rep φ₀ φ' a m' → ¬ Snd m' → R .next ρ' φ') (no : ∀ ρ', R (.ret (.bool false)) ρ' φ) : XS (spoC W A l cd) (execs (elseOf (spoE 3)) (spoC W A l cd).env) (spoL a m way) φ R := by
  have g := M.good
  have r := M.rep
  have p7 : (7 : Int) ∈ m.pks := by rw [M.pks]; decide
  have p8 : (8 : Int) ∈ m.pks := by rw [M.pks]; decide
  have p9 : (9 : Int) ∈ m.pks := by rw [M.pks]; decide
  obtain ⟨epP, hPd⟩ := r.pdc
  obtain ⟨epR, hRd⟩ := r.rdc
  have h7 := r.prc 7 p7
  have h9 := r.prc 9 p9
  have hS := r.sto
  have c9 : ch 9 = [] := g.kind 9 p9 (by rw [M.sta]; decide)
  unfold prcO at h7 h9
  unfold stoO at hS
  have hpath := g.path 7 p7
  have hne : ch 7 ≠ [] := by intro z; rw [z] at hpath; have : (m.pr 7).first < 0 := hpath; omega
  have hlast := g.last 7 p7
  have hq : (m.pr 7).last ∈ ch 7 := by rw [hlast]; exact getLastD_mem hne _
  have hqk := chmem g p7 hq
  have hfc : (m.pr 7).first ∈ ch 7 := by
    cases hc : ch 7 with
    | nil => exact absurd hc hne
    | cons k c => rw [hc] at hpath; rw [hpath.1]; simp
  have hfk := chmem g p7 hfc
  have hq0 := (g.rng _ hqk).1
  have hRf := r.rec_ _ hfk
  have hRq := r.rec_ _ hqk
  have keyq := g.key _ hqk
  have keyf := g.key _ hfk
  have fn7 := g.fn 7 p7 _ hfc
  have bq := g.born _ hqk
  have g0 := g.gen0
  unfold recO at hRf hRq
  have endN : ∀ c, Path m.keys m.nx (m.nx (m.pr 7).last) c → c = [] := fun c h5 => by
    cases c with
    | nil => rfl
    | cons k c =>
      exfalso
      obtain ⟨l', e'⟩ := split_last hne (-1)
      rw [← hlast] at e'
      have hp := hpath
      rw [e'] at hp
      obtain ⟨q, hs, hq', _, _, hq2⟩ := Path.seg hp
      have hq2 : m.nx (m.pr 7).last < 0 := hq2
      have := h5.1; have := h5.2.1
      omega
  show XS _ (execs (_ :: _) _) _ _ _
  walk_at "m s"
  refine ⟨fun hw => ?_, fun hw => ?_⟩
  · clear hw
    walk_at "m s"
    refine mth_dpop hRd ?_
    walk_at "m s"
    refine cal_dpop hRd (dget_refs hfk) (fun ep' => ?_) (by rw [refs_len]; have := r.sml; omega)
    rw [ddel_refs]
    walk_at "m s"
    refine yes _ _ _ (r.del (fun k hk => (List.mem_filter.mp hk).1) (Nat.le_trans (List.length_filter_le _ _) r.sml)) fun s => ?_
    have h := (headSnd s p7 hf0).2
    have h := (List.mem_filter.mp h).2
    simp at h
  clear hw
  walk_at "m s"
  refine ⟨fun hw => ?_, fun hw => ?_⟩
  · clear hw
    walk_at "m s"
    refine XS.cutR (r.setR hfk { m.rc (m.pr 7).first with key := (m.rc (m.pr 7).first).key + 1 }) fun φ₁ r₁ => ?_
    walk_at "m s"
    refine yes _ _ _ r₁ fun s => ?_
    have h := (headSnd s p7 hf0).1
    have e : (m.setR (m.pr 7).first { m.rc (m.pr 7).first with key := (m.rc (m.pr 7).first).key + 1 }).rc (m.pr 7).first = { m.rc (m.pr 7).first with key := (m.rc (m.pr 7).first).key + 1 } := fset_self ..
    unfold snd at h
    rw [show ((m.setR (m.pr 7).first { m.rc (m.pr 7).first with key := (m.rc (m.pr 7).first).key + 1 }).pr 7).first = (m.pr 7).first from rfl, e] at h
    have h := h.1
    dsimp only at h
    omega
  clear hw
  walk_at "m s"
  refine ⟨fun hw => ?_, fun hw => ?_⟩
  · clear hw
    walk_at "m s"
    refine XS.cutR (r.setR hfk { m.rc (m.pr 7).first with fn := 8 }) fun φ₁ r₁ => ?_
    walk_at "m s"
    refine yes _ _ _ r₁ fun s => ?_
    have h := (headSnd s p7 hf0).1
    have e : (m.setR (m.pr 7).first { m.rc (m.pr 7).first with fn := 8 }).rc (m.pr 7).first = { m.rc (m.pr 7).first with fn := 8 } := fset_self ..
    unfold snd at h
    rw [show ((m.setR (m.pr 7).first { m.rc (m.pr 7).first with fn := 8 }).pr 7).first = (m.pr 7).first from rfl, e] at h
    have h := h.2.1
    dsimp only at h
    omega
  clear hw
  walk_at "m s"
  refine ⟨fun hw => ?_, fun hw => ?_⟩
  · clear hw
    walk_at "m s"
    refine XS.cutR (r.setR hfk { m.rc (m.pr 7).first with birth := 0 }) fun φ₁ r₁ => ?_
    walk_at "m s"
    refine yes _ _ _ r₁ fun s => ?_
    have h := (headSnd s p7 hf0).1
    have e : (m.setR (m.pr 7).first { m.rc (m.pr 7).first with birth := 0 }).rc (m.pr 7).first = { m.rc (m.pr 7).first with birth := 0 } := fset_self ..
    unfold snd at h
    rw [show ((m.setR (m.pr 7).first { m.rc (m.pr 7).first with birth := 0 }).pr 7).first = (m.pr 7).first from rfl, e] at h
    have h := h.2.2.1
    dsimp only at h
    omega
  clear hw
  walk_at "m s"
  refine ⟨fun hw => ?_, fun hw => ?_⟩
  · clear hw
    walk_at "m s"
    refine XS.cutR (r.setR hfk { m.rc (m.pr 7).first with birth := m.gen + 1 }) fun φ₁ r₁ => ?_
    walk_at "m s"
    refine yes _ _ _ r₁ fun s => ?_
    have h := (headSnd s p7 hf0).1
    have e : (m.setR (m.pr 7).first { m.rc (m.pr 7).first with birth := m.gen + 1 }).rc (m.pr 7).first = { m.rc (m.pr 7).first with birth := m.gen + 1 } := fset_self ..
    unfold snd at h
    rw [show ((m.setR (m.pr 7).first { m.rc (m.pr 7).first with birth := m.gen + 1 }).pr 7).first = (m.pr 7).first from rfl, e] at h
    have h : m.gen + 1 ≤ m.gen := h.2.2.2.1
    omega
  clear hw
  walk_at "m s"
  refine ⟨fun hw => ?_, fun hw => ?_⟩
  · clear hw
    walk_at "m s"
    refine XS.cutR (r.setR hqk { m.rc (m.pr 7).last with death := m.gen + 1 }) fun φ₁ r₁ => ?_
    walk_at "m s"
    refine yes _ _ _ r₁ fun s => ?_
    obtain ⟨c, h1, h2, h3, _⟩ := lastSnd g s p7 p7 hne rfl fun k _ hk => congrArg Rec.next (fset_ne hk)
    have h := h3 (m.pr 7).last (List.mem_append_left _ hq)
    have e : (m.setR (m.pr 7).last { m.rc (m.pr 7).last with death := m.gen + 1 }).rc (m.pr 7).last = { m.rc (m.pr 7).last with death := m.gen + 1 } := fset_self ..
    unfold snd at h
    rw [e] at h
    have h : m.gen + 1 < 0 ∨ ((m.rc (m.pr 7).last).birth < m.gen + 1 ∧ m.gen + 1 ≤ m.gen) := h.2.2.2.2
    omega
  clear hw
  walk_at "m s"
  refine ⟨fun hw => ?_, fun hw => ?_⟩
  · clear hw
    walk_at "m s"
    refine XS.cutR (r.setR hqk { m.rc (m.pr 7).last with death := (m.rc (m.pr 7).last).birth }) fun φ₁ r₁ => ?_
    walk_at "m s"
    refine yes _ _ _ r₁ fun s => ?_
    obtain ⟨c, h1, h2, h3, _⟩ := lastSnd g s p7 p7 hne rfl fun k _ hk => congrArg Rec.next (fset_ne hk)
    have h := h3 (m.pr 7).last (List.mem_append_left _ hq)
    have e : (m.setR (m.pr 7).last { m.rc (m.pr 7).last with death := (m.rc (m.pr 7).last).birth }).rc (m.pr 7).last = { m.rc (m.pr 7).last with death := (m.rc (m.pr 7).last).birth } := fset_self ..
    unfold snd at h
    rw [e] at h
    have h : (m.rc (m.pr 7).last).birth < 0 ∨ ((m.rc (m.pr 7).last).birth < (m.rc (m.pr 7).last).birth ∧ (m.rc (m.pr 7).last).birth ≤ m.gen) := h.2.2.2.2
    omega
  clear hw
  walk_at "m s"
  refine ⟨fun hw => ?_, fun hw => ?_⟩
  · clear hw
    walk_at "m s"
    refine subt_idict hPd (dget_refs p7) ?_
    walk_at "m s"
    refine XS.cutR (r.setP p7 { m.pr 7 with kind := "static" }) fun φ₁ r₁ => ?_
    walk_at "m s"
    refine yes _ _ _ r₁ fun s => ?_
    obtain ⟨c, h1, h2, h3, h4, h5⟩ := lastSnd g s p7 p7 hne (by show (fset m.pr 7 _ 7).first = _; rw [fset_self]; rfl) fun k _ hk => rfl
    have h6 : (fset m.pr 7 { m.pr 7 with kind := "static" } 7).kind ≠ "dynamic" → ch 7 ++ c = [] := h5
    rw [fset_self] at h6
    have := h6 (show (("static" : Str)) ≠ "dynamic" by decide)
    exact hne (List.append_eq_nil_iff.mp this).1
  clear hw
  walk_at "m s"
  refine ⟨fun hw => ?_, fun hw => ?_⟩
  · clear hw
    walk_at "m s"
    refine subt_idict hPd (dget_refs p9) ?_
    walk_at "m s"
    refine XS.cutR (r.setP p9 { m.pr 9 with first := (m.pr 7).first }) fun φ₁ r₁ => ?_
    obtain ⟨epP', hPd'⟩ := r₁.pdc
    have h9' := r₁.prc 9 p9
    have hRq' := r₁.rec_ _ hqk
    unfold prcO at h9'
    unfold recO at hRq'
    walk_at "m s"
    refine subt_idict hPd' (dget_refs p9) ?_
    walk_at "m s"
    refine XS.cutR (r₁.setP p9 { (m.setP 9 { m.pr 9 with first := (m.pr 7).first }).pr 9 with last := (m.rc (m.pr 7).last).key }) fun φ₂ r₂ => ?_
    walk_at "m s"
    refine yes _ _ _ r₂ fun s => ?_
    have e : (((m.setP 9 { m.pr 9 with first := (m.pr 7).first }).setP 9 { (m.setP 9 { m.pr 9 with first := (m.pr 7).first }).pr 9 with last := (m.rc (m.pr 7).last).key }).pr 9).first = (m.pr 7).first := by
      show (fset (fset m.pr 9 { m.pr 9 with first := (m.pr 7).first }) 9 _ 9).first = _
      rw [fset_self]
      show (fset m.pr 9 { m.pr 9 with first := (m.pr 7).first } 9).first = _
      rw [fset_self]
    have h := (headSnd s p9 (by rw [e]; exact hf0)).1
    rw [e] at h
    have h : (m.rc (m.pr 7).first).fn = 9 := h.2.1
    omega
  clear hw
  walk_at "m s"
  refine ⟨fun hw => ?_, fun hw => ?_⟩
  · clear hw
    walk_at "m s"
    refine subt_idict hPd (dget_refs p7) ?_
    walk_at "m s"
    refine XS.cutR (r.setP p7 { m.pr 7 with last := -1 }) fun φ₁ r₁ => ?_
    walk_at "m s"
    refine yes _ _ _ r₁ fun s => ?_
    obtain ⟨c, h1, h2, h3, h4, h5⟩ := lastSnd g s p7 p7 hne (by show (fset m.pr 7 _ 7).first = _; rw [fset_self]; rfl) fun k _ hk => rfl
    have h6 : (fset m.pr 7 { m.pr 7 with last := -1 } 7).last = (ch 7 ++ c).getLastD (-1) := h4
    rw [fset_self, endN c h1, List.append_nil, ← hlast] at h6
    have h6 : (-1 : Int) = (m.pr 7).last := h6
    omega
  clear hw
  walk_at "m s"
  refine ⟨fun hw => ?_, fun hw => ?_⟩
  · clear hw
    walk_at "m s"
    refine subt_idict hPd (dget_refs p9) ?_
    walk_at "m s"
    refine XS.cutR (r.setP p9 { m.pr 9 with last := 3 }) fun φ₁ r₁ => ?_
    walk_at "m s"
    refine yes _ _ _ r₁ fun s => ?_
    obtain ⟨c, h1, h2, h3, h4, h5⟩ := s 9 p9
    have h1 : Path m.keys m.nx (fset m.pr 9 { m.pr 9 with last := 3 } 9).first c := h1
    have h4 : (fset m.pr 9 { m.pr 9 with last := 3 } 9).last = c.getLastD (-1) := h4
    rw [fset_self] at h1 h4
    have h6 := g.path 9 p9
    rw [c9] at h6
    have h6 : (m.pr 9).first < 0 := h6
    cases c with
    | nil => have h4 : (3 : Int) = -1 := h4; omega
    | cons k c => have := h1.1; have := h1.2.1; have h7 : (m.pr 9).first = k := h1.1; omega
  clear hw
  walk_at "m s"
  exact no _
theorem spo3 (ok : W.Ok) (F : Facts W.K) {A : Around} {l : Addr} {cd : Value} (G : Gd (spoC W A l cd) 0) {ch : Int → List Int} {D : Addr} {lf : Int → Addr} (M : Made φ₀ φ a m ch D lf 10) {way : Int} (hf0 : 0 ≤ (m.pr 7).first) {R : AF → Loc → AH → Prop}
    (yes : ∀ ρ' φ' m', Rep φ₀ φ' a m' → ¬ Snd m' → R .next ρ' φ') (no : ∀ ρ', R (.ret (.bool false)) ρ' φ) : XS (spoC W A l cd) (execs (elseOf (spoE 2)) (spoC W A l cd).env) (spoL a m way) φ R := by
  have g := M.good
  have r := M.rep
  have p7 : (7 : Int) ∈ m.pks := by rw [M.pks]; decide
  have p8 : (8 : Int) ∈ m.pks := by rw [M.pks]; decide
  have p9 : (9 : Int) ∈ m.pks := by rw [M.pks]; decide
  obtain ⟨epP, hPd⟩ := r.pdc
  obtain ⟨epR, hRd⟩ := r.rdc
  have h7 := r.prc 7 p7
  have h9 := r.prc 9 p9
  have hS := r.sto
  have c9 : ch 9 = [] := g.kind 9 p9 (by rw [M.sta]; decide)
  unfold prcO at h7 h9
  unfold stoO at hS
  have hpath := g.path 7 p7
  have hne : ch 7 ≠ [] := by intro z; rw [z] at hpath; have : (m.pr 7).first < 0 := hpath; omega
  have hlast := g.last 7 p7
  have hq : (m.pr 7).last ∈ ch 7 := by rw [hlast]; exact getLastD_mem hne _
  have hqk := chmem g p7 hq
  have hfc : (m.pr 7).first ∈ ch 7 := by
    cases hc : ch 7 with
    | nil => exact absurd hc hne
    | cons k c => rw [hc] at hpath; rw [hpath.1]; simp
  have hfk := chmem g p7 hfc
  have hq0 := (g.rng _ hqk).1
  have hRf := r.rec_ _ hfk
  have hRq := r.rec_ _ hqk
  have keyq := g.key _ hqk
  have keyf := g.key _ hfk
  have fn7 := g.fn 7 p7 _ hfc
  have bq := g.born _ hqk
  have g0 := g.gen0
  unfold recO at hRf hRq
  have endN : ∀ c, Path m.keys m.nx (m.nx (m.pr 7).last) c → c = [] := fun c h5 => by
    cases c with
    | nil => rfl
    | cons k c =>
      exfalso
      obtain ⟨l', e'⟩ := split_last hne (-1)
      rw [← hlast] at e'
      have hp := hpath
      rw [e'] at hp
      obtain ⟨q, hs, hq', _, _, hq2⟩ := Path.seg hp
      have hq2 : m.nx (m.pr 7).last < 0 := hq2
      have := h5.1; have := h5.2.1
      omega
  show XS _ (execs (_ :: _) _) _ _ _
  walk_at "m s"
  refine ⟨fun hw => ?_, fun hw => ?_⟩
  · walk_at "m s"
    refine ⟨fun hx => ?_, fun hx => ?_⟩
    · have hx : (m.pr 7).first ≠ (m.pr 7).last := by rw [keyq] at hx; simpa using hx
      walk_at "m s"
      refine if_t ?_
      walk_at "m s"
      refine subt_idict hPd (dget_refs p7) ?_
      walk_at "m s"
      refine XS.cutR (r.setP p7 { m.pr 7 with last := (m.pr 7).first }) fun φ₁ r₁ => ?_
      walk_at "m s"
      refine yes _ _ _ r₁ fun s => ?_
      obtain ⟨c, h1, h2, h3, h4, _⟩ := lastSnd g s p7 p7 hne (by show (fset m.pr 7 _ 7).first = _; rw [fset_self]; rfl) fun k _ hk => rfl
      have h6 : (fset m.pr 7 { m.pr 7 with last := (m.pr 7).first } 7).last = (ch 7 ++ c).getLastD (-1) := h4
      rw [fset_self, endN c h1, List.append_nil, ← hlast] at h6
      exact hx h6
    · refine if_f ?_
      refine spo4 ok F G M hf0 (fun ρ' φ' m' x y => ?_) (fun ρ' => ?_)
      · walk_at "m s"
        exact yes _ _ _ x y
      · walk_at "m s"
        exact no _
  · refine if_f ?_
    refine spo4 ok F G M hf0 (fun ρ' φ' m' x y => ?_) (fun ρ' => ?_)
    · walk_at "m s"
      exact yes _ _ _ x y
    · walk_at "m s"
      exact no _
theorem s_spo (ok : W.Ok) (F : Facts W.K) {ch : Int → List Int} {D : Addr} {lf : Int → Addr} (M : Made φ₀ φ a m ch D lf 10) {way : Int} : Spec W 1 208 [.ref a.S, .ref a.P, .int way] φ
    (fun b φ' => ∃ (bb : Bool) (a' : Adr) (m' : Mdl), b = .bool bb ∧ Rep φ₀ φ' a' m' ∧ a'.S = a.S ∧ a'.P = a.P ∧ (bb = true → ¬ Snd m')) := by
  refine spec_def ok (names := ["held", "procs", "way"]) F.aSpo (by walk_at "m bind") rfl (fun A l cd G Rk hRk => ?_)
  show XS _ (execs (_ :: _) _) _ _ _
  have g := M.good
  have r := M.rep
  have p7 : (7 : Int) ∈ m.pks := by rw [M.pks]; decide
  have p8 : (8 : Int) ∈ m.pks := by rw [M.pks]; decide
  have p9 : (9 : Int) ∈ m.pks := by rw [M.pks]; decide
  have no : ∀ φ', Rep φ₀ φ' a m → ∃ (bb : Bool) (a' : Adr) (m' : Mdl), AV.bool false = .bool bb ∧ Rep φ₀ φ' a' m' ∧ a'.S = a.S ∧ a'.P = a.P ∧ (bb = true → ¬ Snd m') := fun φ' x => ⟨false, a, m, rfl, x, rfl, rfl, fun z => (by cases z)⟩
  have yes : ∀ φ' m', Rep φ₀ φ' a m' → ¬ Snd m' → ∃ (bb : Bool) (a' : Adr) (m' : Mdl), AV.bool true = .bool bb ∧ Rep φ₀ φ' a' m' ∧ a'.S = a.S ∧ a'.P = a.P ∧ (bb = true → ¬ Snd m') := fun φ' m' x y => ⟨true, a, m', rfl, x, rfl, rfl, fun _ => y⟩
  obtain ⟨epP, hPd⟩ := r.pdc
  obtain ⟨epR, hRd⟩ := r.rdc
  have h7 := r.prc 7 p7
  have h8 := r.prc 8 p8
  have h9 := r.prc 9 p9
  have hS := r.sto
  have c9 : ch 9 = [] := g.kind 9 p9 (by rw [M.sta]; decide)
  unfold prcO at h7 h8 h9
  unfold stoO at hS
  walk_at "m s"
  refine subt_idict hPd (dget_refs p7) ?_
  walk_at "m s"
  refine ⟨fun hf => ?_, fun hf => ?_⟩
  · walk_at "m s"
    exact no _ r
  have hf0 : 0 ≤ (m.pr 7).first := by have := of_decide_eq_false hf; omega
  have hpath := g.path 7 p7
  have hne : ch 7 ≠ [] := by intro z; rw [z] at hpath; have : (m.pr 7).first < 0 := hpath; omega
  have hlast := g.last 7 p7
  have hq : (m.pr 7).last ∈ ch 7 := by rw [hlast]; exact getLastD_mem hne _
  have hqk := chmem g p7 hq
  have hfc : (m.pr 7).first ∈ ch 7 := by
    cases hc : ch 7 with
    | nil => exact absurd hc hne
    | cons k c => rw [hc] at hpath; rw [hpath.1]; simp
  have hfk := chmem g p7 hfc
  have hq0 := (g.rng _ hqk).1
  have hRf := r.rec_ _ hfk
  have hRq := r.rec_ _ hqk
  have keyq := g.key _ hqk
  have keyf := g.key _ hfk
  unfold recO at hRf hRq
  walk_at "m s"
  refine subt_idict hRd (dget_refs hfk) ?_
  walk_at "m s"
  refine subt_idict hPd (dget_refs p7) ?_
  walk_at "m s"
  refine subt_idict hRd (dget_refs hqk) ?_
  walk_at "m s"
  refine ⟨fun hw => ?_, fun hw => ?_⟩
  · clear hw
    walk_at "m s"
    refine XS.cutR (r.setR hqk { m.rc (m.pr 7).last with next := (m.pr 7).first }) fun φ₁ r₁ => ?_
    walk_at "m s"
    refine yes _ _ r₁ fun s => ?_
    obtain ⟨c, h1, h2, _⟩ := lastSnd g s p7 p7 hne rfl fun k _ hk => congrArg Rec.next (fset_ne hk)
    have e : (m.setR (m.pr 7).last { m.rc (m.pr 7).last with next := (m.pr 7).first }).nx (m.pr 7).last = (m.pr 7).first := congrArg Rec.next (fset_self ..)
    rw [e] at h1
    cases c with
    | nil => have : (m.pr 7).first < 0 := h1; omega
    | cons k c =>
      have hk := h1.1
      rw [hk] at hfc
      exact (List.nodup_append.mp h2).2.2 k hfc k (by simp) rfl
  clear hw
  walk_at "m s"
  refine ⟨fun hw => ?_, fun hw => ?_⟩
  · clear hw
    walk_at "m s"
    refine XS.cutR (r.setR hqk { m.rc (m.pr 7).last with next := 1000 }) fun φ₁ r₁ => ?_
    walk_at "m s"
    refine yes _ _ r₁ fun s => ?_
    obtain ⟨c, h1, h2, _⟩ := lastSnd g s p7 p7 hne rfl fun k _ hk => congrArg Rec.next (fset_ne hk)
    have e : (m.setR (m.pr 7).last { m.rc (m.pr 7).last with next := 1000 }).nx (m.pr 7).last = 1000 := congrArg Rec.next (fset_self ..)
    rw [e] at h1
    cases c with
    | nil => have : (1000 : Int) < 0 := h1; omega
    | cons k c =>
      have hk : (1000 : Int) = k := h1.1
      have h3 := (g.rng k h1.2.2.1).2
      have := M.nxt
      omega
  clear hw
  walk_at "m s"
  refine ⟨fun hw => ?_, fun hw => ?_⟩
  · walk_at "m s"
    refine subt_idict hPd (dget_refs p8) ?_
    walk_at "m s"
    refine ⟨fun h80 => ?_, fun h80 => ?_⟩
    · have h80 : 0 ≤ (m.pr 8).first := of_decide_eq_true h80
      walk_at "m s"
      refine if_t ?_
      walk_at "m s"
      refine subt_idict hPd (dget_refs p8) ?_
      walk_at "m s"
      refine XS.cutR (r.setR hqk { m.rc (m.pr 7).last with next := (m.pr 8).first }) fun φ₁ r₁ => ?_
      walk_at "m s"
      refine yes _ _ r₁ fun s => ?_
      obtain ⟨c, h1, h2, h3, _⟩ := lastSnd g s p7 p7 hne rfl fun k _ hk => congrArg Rec.next (fset_ne hk)
      have e : (m.setR (m.pr 7).last { m.rc (m.pr 7).last with next := (m.pr 8).first }).nx (m.pr 7).last = (m.pr 8).first := congrArg Rec.next (fset_self ..)
      rw [e] at h1
      cases c with
      | nil => have : (m.pr 8).first < 0 := h1; omega
      | cons k c =>
        have hk : (m.pr 8).first = k := h1.1
        have hp8 := g.path 8 p8
        have hk8 : k ∈ ch 8 := by
          cases hc : ch 8 with
          | nil => rw [hc] at hp8; have : (m.pr 8).first < 0 := hp8; omega
          | cons j c' => rw [hc] at hp8; rw [← hk, hp8.1]; simp
        have h4 : ((m.setR (m.pr 7).last { m.rc (m.pr 7).last with next := (m.pr 8).first }).rc k).fn = 7 := (h3 k (by simp)).2.1
        have h5 : ((m.setR (m.pr 7).last { m.rc (m.pr 7).last with next := (m.pr 8).first }).rc k).fn = (m.rc k).fn := by
          show (fset m.rc (m.pr 7).last _ k).fn = _
          by_cases z : k = (m.pr 7).last
          · rw [z, fset_self]
          · rw [fset_ne z]
        rw [h5, g.fn 8 p8 k hk8] at h4
        omega
    · refine if_f ?_
      refine XS.sub (spo3 ok F G M hf0 (fun ρ' φ' m' x y => ?_) (fun ρ' => ?_)) (by walk_at "m sub")
      · walk_at "m s"
        exact yes _ _ x y
      · walk_at "m s"
        exact no _ r
  · refine if_f ?_
    refine XS.sub (spo3 ok F G M hf0 (fun ρ' φ' m' x y => ?_) (fun ρ' => ?_)) (by walk_at "m sub")
    · walk_at "m s"
      exact yes _ _ x y
    · walk_at "m s"
      exact no _ r
end

theorem sorted_eq : ∀ {l k : List Int}, l.Perm k → l.Pairwise (· ≤ ·) → k.Pairwise (· ≤ ·) → l = k
  | [], k, h, _, _ => h.nil_eq
  | x :: l, [], h, _, _ => by have := h.length_eq; simp at this
  | x :: l, y :: k, h, h1, h2 => by
    obtain ⟨a1, a2⟩ := List.pairwise_cons.mp h1
    obtain ⟨b1, b2⟩ := List.pairwise_cons.mp h2
    have e : x = y := by
      have hx : x ∈ y :: k := h.mem_iff.mp (List.mem_cons_self ..)
      have hy : y ∈ x :: l := h.mem_iff.mpr (List.mem_cons_self ..)
      rcases List.mem_cons.mp hx with z | z
      · exact z
      · rcases List.mem_cons.mp hy with w | w
        · exact w.symm
        · have := b1 x z; have := a1 y w; omega
    subst e
    rw [sorted_eq ((List.perm_cons x).mp h) a2 b2]
section
variable {W : Wd} {φ₀ φ : AH} {a : Adr} {m : Mdl}
theorem Deeds.keep {d : Addr} (h : Deeds φ₀ d) (x : Ext φ₀ φ) : Deeds φ d := by
  obtain ⟨ts, h1, h2, h3⟩ := h
  exact ⟨ts, x _ _ h1, h2, fun t ht => by obtain ⟨w, s, y, e, q⟩ := h3 t ht; exact ⟨w, s, y, x _ _ e, q⟩⟩
noncomputable abbrev lawC (W : Wd) (A : Around) (l fa : Addr) (cd : Value) : FC := ⟨W, A, envX "law" (dScope (st1 14)) l fa cd []⟩
noncomputable abbrev lawL (a : Adr) (D d : Addr) : Loc := [("held", .ref a.S), ("procs", .ref a.P), ("rows", .ref D), ("deeds", .ref d)]
def LawQ (fl : AF) (_ : Loc) (_ : AH) : Prop := fl = .ret (.bool true)
/-- from the sweep on -/
theorem law_end (ok : W.Ok) (F : Facts W.K) {A : Around} {l fa : Addr} {cd : Value} (G : Gd (lawC W A l fa cd) 6) {ch : Int → List Int} {D d : Addr} {lf : Int → Addr} (M : Made φ₀ φ a m ch D lf 10) :
    XS (lawC W A l fa cd) (execs ((dBody (st1 14)).drop 4) (lawC W A l fa cd).env) (lawL a D d) φ LawQ := by
  show XS _ (execs (_ :: _) _) _ _ _
  have g := M.good
  have p7 : (7 : Int) ∈ m.pks := by rw [M.pks]; decide
  have p8 : (8 : Int) ∈ m.pks := by rw [M.pks]; decide
  have p9 : (9 : Int) ∈ m.pks := by rw [M.pks]; decide
  have c9 : ch 9 = [] := g.kind 9 p9 (by rw [M.sta]; decide)
  have hlen := g.keys_len M.nxt
  have hS := M.rep.sto
  obtain ⟨epR, hRd⟩ := M.rep.rdc
  unfold stoO at hS
  walk_at "m s"
  refine cal_len_idict hRd ?_ (by rw [refs_len]; omega)
  walk_at "m s"
  obtain ⟨φb, rb, hE, hrow⟩ := M.big
  obtain ⟨epD, hD⟩ := hrow.d
  refine cal_spec ((s_swe ok F rb g).mono ?_)
  rintro _ φ₁ ⟨⟨S', R', P', ra', pa'⟩, m', rfl, r₁, eS, eP, ePa, g', eg, ep, ek, ed⟩
  dsimp only at eS eP ePa
  subst eS eP ePa
  have hD₁ := r₁.ext _ _ hD
  have hl₁ := fun f hf => r₁.ext _ _ (hrow.l f hf)
  have al9 : al m ch 9 = [] := by unfold al; rw [c9]; rfl
  have ek' : m'.keys = al m ch 7 ++ al m ch 8 := by rw [ek, M.pks]; simp [al9]
  have l7 : (al m ch 7).length ≤ 1000 := Nat.le_trans (List.length_filter_le _ _) (Nat.le_trans (nodup_le (g.nodup _ p7) fun k hk => chmem g p7 hk) M.rep.sml)
  have l8 : (al m ch 8).length ≤ 1000 := Nat.le_trans (List.length_filter_le _ _) (Nat.le_trans (nodup_le (g.nodup _ p8) fun k hk => chmem g p8 hk) M.rep.sml)
  have i7 : (7 : Int) ∈ ([7, 8] : List Int) := by decide
  have i8 : (8 : Int) ∈ ([7, 8] : List Int) := by decide
  have hS₁ := r₁.sto
  unfold stoO at hS₁
  walk_at "m s"
  refine subt_idict hD₁ (dget_refs i7) ?_
  walk_at "m s"
  refine cal_len_list (hl₁ 7 i7) ?_ (by rw [List.length_map]; omega)
  walk_at "m s"
  refine subt_idict hD₁ (dget_refs i8) ?_
  walk_at "m s"
  refine cal_len_list (hl₁ 8 i8) ?_ (by rw [List.length_map]; omega)
  walk_at "m s"
  refine ⟨fun h => ?_, fun _ => ?_⟩
  · exfalso
    rw [refs_len, ek', List.length_append, List.length_map, List.length_map] at h
    have h : ((m.keys.length : Int) - ((al m ch 7).length + (al m ch 8).length : Nat) != (m.keys.length : Int) - (al m ch 7).length - (al m ch 8).length) = true := h
    simp at h
    omega
  walk_at "m s"
  refine ⟨fun h => ?_, fun _ => ?_⟩
  · exfalso
    rw [eg] at h; simp at h
  walk_at "m s"
  refine if_f ?_
  walk_at "m s"
  have q7 : (7 : Int) ∈ m'.pks := by rw [ep]; exact p7
  have q8 : (8 : Int) ∈ m'.pks := by rw [ep]; exact p8
  have q9 : (9 : Int) ∈ m'.pks := by rw [ep]; exact p9
  have nDR : D ≠ R' := by intro z; have := r₁.nR; have this : φb R' = none := this; rw [← z, hD] at this; cases this
  obtain ⟨epP, hPd⟩ := r₁.pdc
  refine subt_idict hPd (dget_refs q7) ?_
  walk_at "m s"
  refine cal_spec ((s_lch ok F r₁ q7 (g'.path 7 q7) l7).mono ?_)
  rintro _ _ ⟨d1, rfl, hd1, rfl⟩
  have E1 := Ext.new (o := .list ((al m ch 7).map .int)) hd1
  walk_at "m s"
  refine subt_idict (E1 _ _ hD₁) (dget_refs i7) ?_
  refine cmp_neL (upd_self ..) (E1 _ _ (hl₁ 7 i7)) ?_
  walk_at "m s"
  refine ⟨fun h => (by simp at h), fun _ => ?_⟩
  walk_at "m s"
  refine subt_idict (E1 _ _ hPd) (dget_refs q8) ?_
  walk_at "m s"
  refine cal_spec ((s_lch ok F (r₁.keep E1) q8 (g'.path 8 q8) l8).mono ?_)
  rintro _ _ ⟨d2, rfl, hd2, rfl⟩
  have E2 := E1.trans (Ext.new (o := .list ((al m ch 8).map .int)) hd2)
  walk_at "m s"
  refine subt_idict (E2 _ _ hD₁) (dget_refs i8) ?_
  refine cmp_neL (upd_self ..) (E2 _ _ (hl₁ 8 i8)) ?_
  walk_at "m s"
  refine ⟨fun h => (by simp at h), fun _ => ?_⟩
  walk_at "m s"
  refine subt_idict (E2 _ _ hPd) (dget_refs q9) ?_
  walk_at "m s"
  refine cal_spec ((s_lch ok F (r₁.keep E2) q9 (g'.path 9 q9) (by rw [al9]; exact Nat.zero_le _)).mono ?_)
  rintro _ _ ⟨d3, rfl, hd3, rfl⟩
  have E3 := E2.trans (Ext.new (o := .list ((al m ch 9).map .int)) hd3)
  walk_at "m s"
  refine ev_list ?_
  walk_at "m s"
  refine ⟨Nat.zero_le _, fun d4 hd4 => ?_⟩
  have E34 := Ext.new (o := .list []) hd4
  have E4 := E3.trans E34
  refine cmp_neL (k := []) (E34 _ _ (upd_self ..)) (upd_self ..) ?_
  rw [al9]
  rw [al9] at E4
  walk_at "m s"
  refine ⟨fun h => (by simp at h), fun _ => ?_⟩
  walk_at "m s"
  refine if_f ?_
  have fin : ∀ φ₂, Ext φ₁ φ₂ → ∀ ρ, Sub (lawL a D d) ρ → XS (lawC W A l fa cd) (execs ((dBody (st1 14)).drop 8) (lawC W A l fa cd).env) ρ φ₂ LawQ := by
    intro φ₂ E ρ hsub
    refine XS.sub ?_ hsub
    show XS _ (execs (_ :: _) _) _ _ _
    have r₂ := r₁.keep E
    have hS₂ := r₂.sto
    obtain ⟨epR₂, hR₂⟩ := r₂.rdc
    unfold stoO at hS₂
    have hk64 : m'.keys.length < 64 := by
      have := congrArg List.length ek'
      rw [List.length_append] at this
      have h1 := nodup_le g'.knd (k := m.keys) (fun k hk => by
        obtain ⟨f, hf, hk⟩ := (g'.kin k).mp hk
        rw [ep] at hf
        exact chmem g hf (List.mem_filter.mp hk).1)
      omega
    walk_at "m s"
    refine cal_sorted_dict hR₂ (by rw [refs_len]; exact hk64) fun s1 ns1 hs1 hp1 ho1 => ?_
    have F1 := Ext.new (o := .list (ns1.map .int)) hs1
    walk_at "m s"
    refine subt_idict (F1 _ _ (E _ _ hD₁)) (dget_refs i7) ?_
    walk_at "m s"
    refine subt_idict (F1 _ _ (E _ _ hD₁)) (dget_refs i8) ?_
    refine bin_addL (F1 _ _ (E _ _ (hl₁ 7 i7))) (F1 _ _ (E _ _ (hl₁ 8 i8))) (fun s2 hs2 => ?_) (by rw [List.length_map, List.length_map]; omega)
    rw [← List.map_append]
    have F2 := F1.trans (Ext.new (o := .list ((al m ch 7 ++ al m ch 8).map .int)) hs2)
    walk_at "m s"
    refine cal_sorted_list (upd_self ..) (by rw [← ek']; exact hk64) fun s3 ns3 hs3 hp3 ho3 => ?_
    have F23 := Ext.new (o := .list (ns3.map .int)) hs3
    have F3 := F2.trans F23
    have hns : ns1 = ns3 := by
      refine sorted_eq ?_ ho1 ho3
      rw [refs_keys] at hp1
      exact hp1.trans (ek' ▸ hp3.symm)
    refine cmp_neL (l := ns1) (k := ns3) (F23 _ _ ((Ext.new (o := .list ((al m ch 7 ++ al m ch 8).map .int)) hs2) _ _ (upd_self ..))) (upd_self ..) ?_
    walk_at "m s"
    refine ⟨fun h => (by rw [hns] at h; simp at h), fun _ => ?_⟩
    walk_at "m s"
    refine cal_spec ((s_chk ok F (r₂.keep F3)).mono ?_)
    rintro _ φ₃ ⟨bb, rfl, E5, _, hgood⟩
    rw [hgood _ g']
    walk_at "m s"
    refine ⟨fun h => (by cases h), fun _ => ?_⟩
    walk_at "m s"
    refine if_f ?_
    walk_at "m s"
    have r₃ := (r₂.keep F3).keep E5
    have E6 : Ext φ₁ φ₃ := E.trans (F3.trans E5)
    obtain ⟨φc, rc, hEc, hout⟩ := r₃.big
    have hDc := hout _ _ (E6 _ _ hD₁) (r₃.outO (E6 _ _ hD₁) nDR M.dP trivial)
    have hl8c := hout _ _ (E6 _ _ (hl₁ 8 i8)) (r₃.outL (E6 _ _ (hl₁ 8 i8)))
    refine cal_spec ((s_swe ok F rc g').mono ?_)
    rintro _ φ₄ ⟨⟨S'', R'', P'', ra'', pa''⟩, m'', rfl, r₄, eS', eP', ePa', g'', eg', ep', ek'', ed'⟩
    dsimp only at eS' eP' ePa'
    subst eS' eP' ePa'
    have alal : ∀ f, al m' (al m ch) f = al m ch f := fun f => by
      unfold al
      rw [List.filter_filter]
      refine List.filter_congr fun k _ => ?_
      unfold liv
      rw [ed k]; simp
    have hkk : m''.keys = m'.keys := by
      rw [ek'', ek, ep]
      congr 1
      exact List.map_congr_left fun f _ => alal f
    walk_at "m s"
    refine ⟨fun _ => ?_, fun h => ?_⟩
    · walk_at "m s"
      obtain ⟨epP₄, hPd₄⟩ := r₄.pdc
      have w8 : (8 : Int) ∈ m''.pks := by rw [ep']; exact q8
      refine subt_idict hPd₄ (dget_refs w8) ?_
      walk_at "m s"
      refine cal_spec ((s_lch ok F r₄ w8 (g''.path 8 w8) (by rw [alal]; exact l8)).mono ?_)
      rintro _ _ ⟨d5, rfl, hd5, rfl⟩
      have E7 := Ext.new (o := .list ((al m' (al m ch) 8).map .int)) hd5
      walk_at "m s"
      refine subt_idict (E7 _ _ (r₄.ext _ _ hDc)) (dget_refs i8) ?_
      refine cmp_eqL (upd_self ..) (E7 _ _ (r₄.ext _ _ hl8c)) ?_
      rw [alal]
      show _ = _
      simp
    · exfalso
      rw [hkk] at h
      simp at h
  refine xs_nil (Then.go ?_)
  refine fin _ E4 _ ?_
  refine Sub.cons rfl ?_
  refine Sub.cons rfl ?_
  refine Sub.cons rfl ?_
  refine Sub.cons rfl ?_
  exact Sub.nil _
end

section
variable {W : Wd}
theorem law_xs (ok : W.Ok) (F : Facts W.K) {A : Around} {l fa : Addr} {cd : Value} (G : Gd (lawC W A l fa cd) 6) {sc : Addr} {vs : List Value} {ns : List Int} (hl : W.g.IsList sc vs.toArray) (hi : IntsAre vs ns) (hz : ns.length ≤ 1000) :
    XS (lawC W A l fa cd) (execs (dBody (st1 14)) (lawC W A l fa cd).env) ([("script", .ref sc)] : Loc) (fun _ => none) LawQ := by
  show XS _ (execs (_ :: _) _) _ _ _
  walk_at "m s"
  refine cal_spec ((s_his ok F hl hi hz).mono ?_)
  rintro _ φ₁ ⟨d, rfl, E1, hd⟩
  walk_at "m s"
  refine cal_spec ((s_mad ok F hd).mono ?_)
  rintro _ φ₂ ⟨t, a, m, ch, D, lf, rfl, ht, M⟩
  refine asn_tuple ht (asnAll_cons (asn_name (asnAll_cons (asn_name (asnAll_cons (asn_name (asnAll_nil ?_))))))) rfl
  walk_at "m s"
  refine cal_spec ((s_chk ok F M.rep).mono ?_)
  rintro _ φ₃ ⟨bb, rfl, E3, _, hgood⟩
  rw [hgood ch M.good]
  walk_at "m s"
  refine if_f ?_
  refine xs_nil (Then.go ?_)
  refine XS.sub (ρ' := lawL a D d) ?_ (by walk_at "m sub")
  refine x_for_range ?_
  walk_at "m s"
  refine cal_range fun rg hrg => ?_
  refine ⟨rg, 15, rfl, upd_self .., by decide, fun i ρ φ' => ρ = lawL a D d ∧ Made φ₁ φ' a m ch D lf 10, ⟨rfl, (M.keep E3).keep (Ext.new hrg)⟩, ?_, ?_⟩
  · rintro i _ φ' hi ⟨rfl, M'⟩
    refine asn_name fun Rj hRj => ?_
    show XS _ (execs (_ :: _) _) _ _ _
    walk_at "m s"
    refine cal_spec ((s_mad ok F (hd.keep M'.rep.ext)).mono ?_)
    rintro _ φ₄ ⟨t2, a2, m2, ch2, D2, lf2, rfl, ht2, M2⟩
    refine asn_tuple ht2 (asnAll_cons (asn_name (asnAll_cons (asn_name (asnAll_cons (asn_name (asnAll_nil ?_))))))) rfl
    walk_at "m s"
    refine cal_spec ((s_spo ok F M2).mono ?_)
    rintro _ φ₅ ⟨b5, ⟨S5, R5, P5, ra5, pa5⟩, m5, rfl, r5, e1, e2, hspo⟩
    dsimp only at e1 e2
    subst e1 e2
    have fin : ∀ φ₆, Ext φ₅ φ₆ → ∀ ρ, Sub (lawL a D d) ρ → ∃ ρ', Sub ρ' ρ ∧ (ρ' = lawL a D d ∧ Made φ₁ φ₆ a m ch D lf 10) := fun φ₆ E ρ h => ⟨_, h, rfl, M'.keep (r5.ext.trans E)⟩
    walk_at "m s"
    refine ⟨fun h5 => ?_, fun h5 => ?_⟩
    · walk_at "m s"
      refine cal_spec ((s_chk ok F r5).mono ?_)
      rintro _ φ₆ ⟨b6, rfl, E6, hsnd, _⟩
      walk_at "m s"
      refine ⟨fun h6 => absurd (hsnd h6) (hspo h5), fun h6 => ?_⟩
      refine if_f ?_
      walk_at "m s"
      exact fin _ E6 _ (by walk_at "m sub")
    · refine if_f ?_
      walk_at "m s"
      exact fin _ (Ext.refl _) _ (by walk_at "m sub")
  · rintro _ φ' ⟨rfl, M'⟩
    exact law_end ok F G M'
end

theorem law_final {prog : Program} {w : World} {K : Frag} {g : Heap} {mg mb : Str → Option Value} {p : Program} {loose : List Str} {h₁ : Heap} {L fa a : Addr} {cd : Value} {A : Around} {m : Str → Option Value} {gens : Array GenState} {drawn : Drawn} {toks : Nat} {os : OsState} {vs : List Value} {ns : List Int}
    (X : K.In g) (T : TopRead p loose mg mb g) (hF : Facts K) (F : Fr g L h₁ m) (hm : m "script" = some (.ref a)) (hl : g.IsList a vs.toArray) (hi : IntsAre vs ns) (hz : ns.length ≤ 1000) (hd : A.depth + 12 < recursionLimit) (hu : A.units + 248 < cLine) (hh : A.handled = none)
    {Q : Flow → Shared → Prop} {E : Value → Shared → Prop} (hQ : ∀ s : Shared, (∀ b o, g.get? b = some o → s.heap.get? b = some o) → s.os = os → s.gens = gens → Q (.ret (.bool true)) s) : wpAny (model prog w) A (execs (dBody (st1 14)) (envX "law" (dScope (st1 14)) L fa cd [])) Q E ⟨h₁, gens, drawn, toks, os⟩ := by
  have ok : Wd.Ok ⟨prog, w, K, g, mg, mb, p, loose, gens, os⟩ := ⟨X, T⟩
  have G : Gd (lawC ⟨prog, w, K, g, mg, mb, p, loose, gens, os⟩ A L fa cd) 6 := ⟨ok, ⟨hd, by show A.units + 8 * 6 + 200 < _; omega, hh⟩, rfl, rfl, rfl, (fun x c e => by cases e), (fun x y c e => by cases e)⟩
  have nc : ∀ ψ b, ¬ cov (fun _ => none) ψ b := by
    rintro ψ b (⟨o, e⟩ | ⟨c, D, fs, e, _⟩) <;> cases e
  have S : St (lawC ⟨prog, w, K, g, mg, mb, p, loose, gens, os⟩ A L fa cd) (fun _ => none) ([("script", .ref a)] : Loc) (fun _ => none) ⟨h₁, gens, drawn, toks, os⟩ := by
    refine ⟨⟨m, fun b => b, F, ⟨F.keep, fun b o e => (by cases e), fun b c => absurd c (nc _ b), fun b D fs e => (by cases e), fun b c D fs D' fs' e => (by cases e), fun b o e => (by cases e)⟩, fun b _ => ⟨nc _ b, rfl⟩, fun x v e _ => ?_, (fun x v c e q => by cases q), (fun x c q => by cases q)⟩, rfl, rfl⟩
    obtain ⟨rfl, rfl⟩ := lookup_one e
    exact ⟨_, hm, rfl⟩
  refine wpAny_mono (law_xs ok hF G hl hi hz _ _ S) (fun fl s' => ?_) fun _ _ x => x.elim
  rintro ⟨b, ρ', φ', hb, ⟨⟨m', ψ', H'⟩, g', o'⟩, q⟩
  cases q
  obtain ⟨u, rfl, rfl⟩ := hb
  exact hQ s' H'.fr.keep o' g'

end Mine
end
open PySem PySem.W PyProof.Rows
set_option Elab.async false
set_option maxRecDepth 100000
set_option linter.unusedVariables false
set_option maxHeartbeats 8000000 in
theorem PySem.Challenge.cw_ok0011_01_holds : PySem.Challenge.rw_ok0011_01.Holds := by
  w_on; o_law
  refine holds_open (q := Mine.view) (loose := []) (Xt := fun s => xlAt Mine.view [] s && recOk (RowW.records PySem.Challenge.rw_ok0011_01.row.toRowW) s) (XP := XL Mine.view []) (Yf := Hook.obs Mine.hook) (Ya := Hook.val Mine.hook) (YP := Hook.says Mine.hook) (N := 2950) ?hl (Hook.of Mine.hook) (Hook.keeps Mine.hook) (fun s e => xl_of s (Bool.and_eq_true_iff.mp e).1) XL.keeps (by rfl) (by rfl) (by rfl) (fun s e => recFacts_of (Bool.and_eq_true_iff.mp e).2) (by rfl) (by first | assumption | decide +kernel) (by decide +kernel) ⟨rfl, rfl, rfl, rfl, rfl, by decide +kernel⟩ ?hw ?hc
  case hl => exact Mine.run_left
  case hw => w_witness2
  case hc =>
    w_strict (k_go0; skip)
    refine Mine.law_final ‹Frag.In _ _› (topRead_of ‹Top _ _ _ _ _ _›) ?hF ‹Fr _ _ _ _› rfl ‹Heap.IsList _ _ _› ‹IntsAre _ _› (by omega) (Nat.le_of_ble_eq_true rfl) (Nat.le_of_ble_eq_true rfl) rfl ?hQ
    case hF =>
      constructor
      all_goals first
        | (refine Mine.ClsOk.mk (fun x => ?_) ?_ ?_ ?_ <;> with_unfolding_all rfl)
        | (refine Mine.MkOk.mk ?_ ?_ ?_ <;> with_unfolding_all rfl)
        | (refine Mine.MthOk.mk ?_ ?_ ?_ <;> with_unfolding_all rfl)
        | (refine Mine.GlbOk.mk ?_ ?_ <;> with_unfolding_all rfl)
        | (refine Mine.BltOk.mk ?_ ?_ ?_; (with_unfolding_all rfl); (with_unfolding_all rfl); decide)
        | (unfold Mine.FnAt; exact ⟨_, _, _, _, _, _, _, _, _, rfl, rfl⟩)
        | (repeat' (first | exact trivial | refine And.intro ?_ ?_ | refine Mine.FldOk.mk ?_ ?_ | with_unfolding_all rfl))
    case hQ =>
      intro s hk ho hg
      refine ⟨.inl ⟨.bool true, .bool true, [], rfl, fun _ => rfl, ReadsW.bool true, ?_, fun _ => ⟨.nil, fun a h => by cases h⟩⟩, hk, ho, hg.trans (by assumption)⟩
      with_unfolding_all rfl
