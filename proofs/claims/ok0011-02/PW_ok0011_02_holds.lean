import PyProof.Rows.All
import Wide.All
import OpenK.AllK
import Wide.FinOn
import Lean
import PySem.Challenge.RW_ok0011_02
section
open PySem PySem.W PyProof.Rows PySem.Calls
set_option Elab.async false
set_option maxRecDepth 100000
set_option linter.unusedVariables false
namespace Mine
/-- parts of a def's statement -/
noncomputable def dBody : Stmt → List Stmt
  | .FunctionDef (body := b) .. => b
  | .ClassDef (body := b) .. => b
  | _ => []
noncomputable def dArgs : Stmt → Arguments
  | .FunctionDef (args := a) .. => a
  | _ => { posonlyargs := [], args := [], vararg := none, kwonlyargs := [], kw_defaults := [], kwarg := none, defaults := [] }
noncomputable def dScope : Stmt → Scope
  | .FunctionDef (scope := s) .. => s
  | _ => { kind := .function, names := [], isGenerator := false, isCoroutine := false }
noncomputable def st1 (i : Nat) : Stmt := PySem.Challenge.pw_ok0011_02.main.body[i]!
noncomputable def m1 (i j : Nat) : Stmt := (dBody (st1 i))[j]!

noncomputable def own2 : Obj := { cls := Value.none, data := Data.dict #[] }
noncomputable def own10 (P : Params) : Frag := [(3, { cls := Value.type "dict", data := Data.dict #[{ hash := PyData.keyHash P (Str.ofString "__name__"), key := Value.str (Str.ofString "__name__") 165, val := Value.str (Str.ofString "law_ok0011_02") 471 }, { hash := PyData.keyHash P (Str.ofString "__doc__"), key := Value.str (Str.ofString "__doc__") 166, val := Value.none }, { hash := PyData.keyHash P (Str.ofString "__package__"), key := Value.str (Str.ofString "__package__") 167, val := Value.none }, { hash := PyData.keyHash P (Str.ofString "__loader__"), key := Value.str (Str.ofString "__loader__") 168, val := Value.builtin "__main__.__loader__#opaque" }, { hash := PyData.keyHash P (Str.ofString "__spec__"), key := Value.str (Str.ofString "__spec__") 169, val := Value.none }, { hash := PyData.keyHash P (Str.ofString "__annotations__"), key := Value.str (Str.ofString "__annotations__") 170, val := Value.ref 6 }, { hash := PyData.keyHash P (Str.ofString "__builtins__"), key := Value.str (Str.ofString "__builtins__") 171, val := Value.ref 4 }, { hash := PyData.keyHash P (Str.ofString "__file__"), key := Value.str (Str.ofString "__file__") 173, val := Value.str (Str.ofString "/claim/cut.py") 172 }, { hash := PyData.keyHash P (Str.ofString "__cached__"), key := Value.str (Str.ofString "__cached__") 174, val := Value.none }, { hash := PyData.keyHash P (Str.ofString "_wall"), key := Value.str (Str.ofString "_wall") 193, val := Value.ref 21 }, { hash := PyData.keyHash P (Str.ofString "VAR_KEY"), key := Value.str (Str.ofString "VAR_KEY") 197, val := Value.ref 22 }, { hash := PyData.keyHash P (Str.ofString "matching"), key := Value.str (Str.ofString "matching") 205, val := Value.ref 29 }, { hash := PyData.keyHash P (Str.ofString "ClauseRecord"), key := Value.str (Str.ofString "ClauseRecord") 248, val := Value.ref 46 }, { hash := PyData.keyHash P (Str.ofString "Procedure"), key := Value.str (Str.ofString "Procedure") 294, val := Value.ref 74 }, { hash := PyData.keyHash P (Str.ofString "ClauseStore"), key := Value.str (Str.ofString "ClauseStore") 432, val := Value.ref 165 }, { hash := PyData.keyHash P (Str.ofString "sweep"), key := Value.str (Str.ofString "sweep") 446, val := Value.ref 176 }, { hash := PyData.keyHash P (Str.ofString "record_is_sound"), key := Value.str (Str.ofString "record_is_sound") 456, val := Value.ref 183 }, { hash := PyData.keyHash P (Str.ofString "check_records"), key := Value.str (Str.ofString "check_records") 470, val := Value.ref 190 }, { hash := PyData.keyHash P (Str.ofString "_law_digits"), key := Value.str (Str.ofString "_law_digits") 483, val := Value.ref 197 }, { hash := PyData.keyHash P (Str.ofString "_law_choose"), key := Value.str (Str.ofString "_law_choose") 491, val := Value.ref 204 }, { hash := PyData.keyHash P (Str.ofString "_law_shown"), key := Value.str (Str.ofString "_law_shown") 497, val := Value.ref 209 }, { hash := PyData.keyHash P (Str.ofString "_law_walk"), key := Value.str (Str.ofString "_law_walk") 509, val := Value.ref 216 }, { hash := PyData.keyHash P (Str.ofString "_law_looks_right"), key := Value.str (Str.ofString "_law_looks_right") 515, val := Value.ref 221 }, { hash := PyData.keyHash P (Str.ofString "law"), key := Value.str (Str.ofString "law") 521, val := Value.ref 226 }] 24 }), (20, { cls := Value.type "code", data := Data.fields #[Value.str (Str.ofString "_wall") 187, Value.str (Str.ofString "_wall") 188, Value.str (Str.ofString "/claim/cut.py") 189, Value.int 1 0, Value.int 1 0, Value.int 0 0, Value.int 0 0, Value.int 3 0, Value.ref 15, Value.bool true, Value.int 181 0, Value.ref 16, Value.none, Value.ref 17, Value.ref 18, Value.ref 19, Value.int 191 0, Value.int 1 0, Value.str (Str.ofString "/claim/cut.py") 192] }), (21, { cls := Value.type "function", data := Data.func { name := Str.ofString "_wall", qualname := Str.ofString "_wall", params := dArgs (st1 0), body := FuncBody.stmts (dBody (st1 0)), scope := dScope (st1 0), globals := 3, closure := [], defaults := Value.none, kwdefaults := Value.none, pyModule := Value.str (Str.ofString "__main__") 164, code := Value.ref 20 } }), (22, { cls := Value.type "tuple", data := Data.seq #[Value.str (Str.ofString "var") 196] }), (28, { cls := Value.type "code", data := Data.fields #[Value.str (Str.ofString "matching") 198, Value.str (Str.ofString "matching") 199, Value.str (Str.ofString "/claim/cut.py") 200, Value.int 6 0, Value.int 2 0, Value.int 0 0, Value.int 0 0, Value.int 3 0, Value.ref 23, Value.bool true, Value.int 181 0, Value.ref 24, Value.none, Value.ref 25, Value.ref 26, Value.ref 27, Value.int 203 0, Value.int 6 0, Value.str (Str.ofString "/claim/cut.py") 204] }), (29, { cls := Value.type "function", data := Data.func { name := Str.ofString "matching", qualname := Str.ofString "matching", params := dArgs (st1 3), body := FuncBody.stmts (dBody (st1 3)), scope := dScope (st1 3), globals := 3, closure := [], defaults := Value.none, kwdefaults := Value.none, pyModule := Value.str (Str.ofString "clausemill.indexer") 194, code := Value.ref 28 } })]
noncomputable def own11 (P : Params) : Frag := [(42, { cls := Value.type "code", data := Data.fields #[Value.str (Str.ofString "__init__") 220, Value.str (Str.ofString "ClauseRecord.__init__") 221, Value.str (Str.ofString "/claim/cut.py") 222, Value.int 13 0, Value.int 7 0, Value.int 0 0, Value.int 0 0, Value.int 3 0, Value.ref 37, Value.bool true, Value.int 181 0, Value.ref 38, Value.none, Value.ref 39, Value.ref 40, Value.ref 41, Value.int 230 0, Value.int 13 0, Value.str (Str.ofString "/claim/cut.py") 231] }), (43, { cls := Value.type "function", data := Data.func { name := Str.ofString "__init__", qualname := Str.ofString "ClauseRecord.__init__", params := dArgs (m1 5 0), body := FuncBody.stmts (dBody (m1 5 0)), scope := dScope (m1 5 0), globals := 3, closure := [], defaults := Value.none, kwdefaults := Value.none, pyModule := Value.str (Str.ofString "clausemill.clauses") 206, code := Value.ref 42 } }), (45, { cls := Value.type "dict", data := Data.dict #[{ hash := PyData.keyHash P (Str.ofString "__module__"), key := Value.str (Str.ofString "__module__") 215, val := Value.str (Str.ofString "clausemill.clauses") 206 }, { hash := PyData.keyHash P (Str.ofString "__firstlineno__"), key := Value.str (Str.ofString "__firstlineno__") 219, val := Value.int 11 218 }, { hash := PyData.keyHash P (Str.ofString "__init__"), key := Value.str (Str.ofString "__init__") 232, val := Value.ref 43 }, { hash := PyData.keyHash P (Str.ofString "__static_attributes__"), key := Value.str (Str.ofString "__static_attributes__") 241, val := Value.ref 44 }, { hash := PyData.keyHash P (Str.ofString "__dict__"), key := Value.str (Str.ofString "__dict__") 243, val := Value.ref 47 }, { hash := PyData.keyHash P (Str.ofString "__weakref__"), key := Value.str (Str.ofString "__weakref__") 245, val := Value.ref 48 }, { hash := PyData.keyHash P (Str.ofString "__doc__"), key := Value.str (Str.ofString "__doc__") 246, val := Value.none }] 4 }), (46, { cls := Value.type "type", data := Data.cls { name := Str.ofString "ClauseRecord", bases := [Value.type "object"], mro := [Value.ref 46, Value.type "object"], ns := 45, qualname := Str.ofString "ClauseRecord" }, slots := #[none, none, some (Value.str (Str.ofString "ClauseRecord") 208), some (Value.str (Str.ofString "ClauseRecord") 216), some (Value.builtin "object.__new__"), some (Value.bool true)] }), (47, { cls := Value.type "getset_descriptor", data := Data.fields #[Value.str (Str.ofString "__dict__") 242, Value.ref 46, Value.builtin "function.__dict__", Value.builtin "function.__dict__#set"] }), (48, { cls := Value.type "getset_descriptor", data := Data.fields #[Value.str (Str.ofString "__weakref__") 244, Value.ref 46, Value.builtin "ExceptionGroup.__weakref__", Value.none] })]
noncomputable def own12 (P : Params) : Frag := [(63, { cls := Value.type "code", data := Data.fields #[Value.str (Str.ofString "__init__") 261, Value.str (Str.ofString "Procedure.__init__") 262, Value.str (Str.ofString "/claim/cut.py") 263, Value.int 24 0, Value.int 3 0, Value.int 0 0, Value.int 0 0, Value.int 3 0, Value.ref 58, Value.bool true, Value.int 181 0, Value.ref 59, Value.none, Value.ref 60, Value.ref 61, Value.ref 62, Value.int 267 0, Value.int 24 0, Value.str (Str.ofString "/claim/cut.py") 268] }), (64, { cls := Value.type "function", data := Data.func { name := Str.ofString "__init__", qualname := Str.ofString "Procedure.__init__", params := dArgs (m1 6 0), body := FuncBody.stmts (dBody (m1 6 0)), scope := dScope (m1 6 0), globals := 3, closure := [], defaults := Value.none, kwdefaults := Value.none, pyModule := Value.str (Str.ofString "clausemill.clauses") 206, code := Value.ref 63 } }), (70, { cls := Value.type "code", data := Data.fields #[Value.str (Str.ofString "is_users") 270, Value.str (Str.ofString "Procedure.is_users") 271, Value.str (Str.ofString "/claim/cut.py") 272, Value.int 36 0, Value.int 1 0, Value.int 0 0, Value.int 0 0, Value.int 3 0, Value.ref 65, Value.bool true, Value.int 181 0, Value.ref 66, Value.none, Value.ref 67, Value.ref 68, Value.ref 69, Value.int 274 0, Value.int 36 0, Value.str (Str.ofString "/claim/cut.py") 275] }), (71, { cls := Value.type "function", data := Data.func { name := Str.ofString "is_users", qualname := Str.ofString "Procedure.is_users", params := dArgs (m1 6 1), body := FuncBody.stmts (dBody (m1 6 1)), scope := dScope (m1 6 1), globals := 3, closure := [], defaults := Value.none, kwdefaults := Value.none, pyModule := Value.str (Str.ofString "clausemill.clauses") 206, code := Value.ref 70 } }), (73, { cls := Value.type "dict", data := Data.dict #[{ hash := PyData.keyHash P (Str.ofString "__module__"), key := Value.str (Str.ofString "__module__") 256, val := Value.str (Str.ofString "clausemill.clauses") 206 }, { hash := PyData.keyHash P (Str.ofString "__firstlineno__"), key := Value.str (Str.ofString "__firstlineno__") 260, val := Value.int 22 259 }, { hash := PyData.keyHash P (Str.ofString "__init__"), key := Value.str (Str.ofString "__init__") 269, val := Value.ref 64 }, { hash := PyData.keyHash P (Str.ofString "is_users"), key := Value.str (Str.ofString "is_users") 276, val := Value.ref 71 }, { hash := PyData.keyHash P (Str.ofString "__static_attributes__"), key := Value.str (Str.ofString "__static_attributes__") 287, val := Value.ref 72 }, { hash := PyData.keyHash P (Str.ofString "__dict__"), key := Value.str (Str.ofString "__dict__") 289, val := Value.ref 75 }, { hash := PyData.keyHash P (Str.ofString "__weakref__"), key := Value.str (Str.ofString "__weakref__") 291, val := Value.ref 76 }, { hash := PyData.keyHash P (Str.ofString "__doc__"), key := Value.str (Str.ofString "__doc__") 292, val := Value.none }] 4 }), (74, { cls := Value.type "type", data := Data.cls { name := Str.ofString "Procedure", bases := [Value.type "object"], mro := [Value.ref 74, Value.type "object"], ns := 73, qualname := Str.ofString "Procedure" }, slots := #[none, none, some (Value.str (Str.ofString "Procedure") 249), some (Value.str (Str.ofString "Procedure") 257), some (Value.builtin "object.__new__"), some (Value.bool true)] })]
noncomputable def own13 (P : Params) : Frag := [(75, { cls := Value.type "getset_descriptor", data := Data.fields #[Value.str (Str.ofString "__dict__") 288, Value.ref 74, Value.builtin "function.__dict__", Value.builtin "function.__dict__#set"] }), (76, { cls := Value.type "getset_descriptor", data := Data.fields #[Value.str (Str.ofString "__weakref__") 290, Value.ref 74, Value.builtin "ExceptionGroup.__weakref__", Value.none] }), (91, { cls := Value.type "code", data := Data.fields #[Value.str (Str.ofString "__init__") 307, Value.str (Str.ofString "ClauseStore.__init__") 308, Value.str (Str.ofString "/claim/cut.py") 309, Value.int 40 0, Value.int 1 0, Value.int 0 0, Value.int 0 0, Value.int 3 0, Value.ref 86, Value.bool true, Value.int 181 0, Value.ref 87, Value.none, Value.ref 88, Value.ref 89, Value.ref 90, Value.int 311 0, Value.int 40 0, Value.str (Str.ofString "/claim/cut.py") 312] }), (92, { cls := Value.type "function", data := Data.func { name := Str.ofString "__init__", qualname := Str.ofString "ClauseStore.__init__", params := dArgs (m1 7 0), body := FuncBody.stmts (dBody (m1 7 0)), scope := dScope (m1 7 0), globals := 3, closure := [], defaults := Value.none, kwdefaults := Value.none, pyModule := Value.str (Str.ofString "clausemill.clauses") 206, code := Value.ref 91 } }), (98, { cls := Value.type "code", data := Data.fields #[Value.str (Str.ofString "new_record") 314, Value.str (Str.ofString "ClauseStore.new_record") 315, Value.str (Str.ofString "/claim/cut.py") 316, Value.int 45 0, Value.int 5 0, Value.int 0 0, Value.int 0 0, Value.int 3 0, Value.ref 93, Value.bool true, Value.int 181 0, Value.ref 94, Value.none, Value.ref 95, Value.ref 96, Value.ref 97, Value.int 324 0, Value.int 45 0, Value.str (Str.ofString "/claim/cut.py") 325] }), (99, { cls := Value.type "function", data := Data.func { name := Str.ofString "new_record", qualname := Str.ofString "ClauseStore.new_record", params := dArgs (m1 7 1), body := FuncBody.stmts (dBody (m1 7 1)), scope := dScope (m1 7 1), globals := 3, closure := [], defaults := Value.none, kwdefaults := Value.none, pyModule := Value.str (Str.ofString "clausemill.clauses") 206, code := Value.ref 98 } })]
noncomputable def own14 (P : Params) : Frag := [(105, { cls := Value.type "code", data := Data.fields #[Value.str (Str.ofString "append_record") 327, Value.str (Str.ofString "ClauseStore.append_record") 328, Value.str (Str.ofString "/claim/cut.py") 329, Value.int 53 0, Value.int 5 0, Value.int 0 0, Value.int 0 0, Value.int 3 0, Value.ref 100, Value.bool true, Value.int 181 0, Value.ref 101, Value.none, Value.ref 102, Value.ref 103, Value.ref 104, Value.int 336 0, Value.int 53 0, Value.str (Str.ofString "/claim/cut.py") 337] }), (106, { cls := Value.type "function", data := Data.func { name := Str.ofString "append_record", qualname := Str.ofString "ClauseStore.append_record", params := dArgs (m1 7 2), body := FuncBody.stmts (dBody (m1 7 2)), scope := dScope (m1 7 2), globals := 3, closure := [], defaults := Value.none, kwdefaults := Value.none, pyModule := Value.str (Str.ofString "clausemill.clauses") 206, code := Value.ref 105 } }), (112, { cls := Value.type "code", data := Data.fields #[Value.str (Str.ofString "prepend_record") 339, Value.str (Str.ofString "ClauseStore.prepend_record") 340, Value.str (Str.ofString "/claim/cut.py") 341, Value.int 62 0, Value.int 5 0, Value.int 0 0, Value.int 0 0, Value.int 3 0, Value.ref 107, Value.bool true, Value.int 181 0, Value.ref 108, Value.none, Value.ref 109, Value.ref 110, Value.ref 111, Value.int 348 0, Value.int 62 0, Value.str (Str.ofString "/claim/cut.py") 349] }), (113, { cls := Value.type "function", data := Data.func { name := Str.ofString "prepend_record", qualname := Str.ofString "ClauseStore.prepend_record", params := dArgs (m1 7 3), body := FuncBody.stmts (dBody (m1 7 3)), scope := dScope (m1 7 3), globals := 3, closure := [], defaults := Value.none, kwdefaults := Value.none, pyModule := Value.str (Str.ofString "clausemill.clauses") 206, code := Value.ref 112 } }), (119, { cls := Value.type "code", data := Data.fields #[Value.str (Str.ofString "visible") 351, Value.str (Str.ofString "ClauseStore.visible") 352, Value.str (Str.ofString "/claim/cut.py") 353, Value.int 70 0, Value.int 3 0, Value.int 0 0, Value.int 0 0, Value.int 3 0, Value.ref 114, Value.bool true, Value.int 181 0, Value.ref 115, Value.none, Value.ref 116, Value.ref 117, Value.ref 118, Value.int 357 0, Value.int 70 0, Value.str (Str.ofString "/claim/cut.py") 358] }), (120, { cls := Value.type "function", data := Data.func { name := Str.ofString "visible", qualname := Str.ofString "ClauseStore.visible", params := dArgs (m1 7 4), body := FuncBody.stmts (dBody (m1 7 4)), scope := dScope (m1 7 4), globals := 3, closure := [], defaults := Value.none, kwdefaults := Value.none, pyModule := Value.str (Str.ofString "clausemill.clauses") 206, code := Value.ref 119 } })]
noncomputable def own15 (P : Params) : Frag := [(126, { cls := Value.type "code", data := Data.fields #[Value.str (Str.ofString "live_from") 360, Value.str (Str.ofString "ClauseStore.live_from") 361, Value.str (Str.ofString "/claim/cut.py") 362, Value.int 73 0, Value.int 4 0, Value.int 0 0, Value.int 0 0, Value.int 3 0, Value.ref 121, Value.bool true, Value.int 181 0, Value.ref 122, Value.none, Value.ref 123, Value.ref 124, Value.ref 125, Value.int 368 0, Value.int 73 0, Value.str (Str.ofString "/claim/cut.py") 369] }), (127, { cls := Value.type "function", data := Data.func { name := Str.ofString "live_from", qualname := Str.ofString "ClauseStore.live_from", params := dArgs (m1 7 5), body := FuncBody.stmts (dBody (m1 7 5)), scope := dScope (m1 7 5), globals := 3, closure := [], defaults := Value.none, kwdefaults := Value.none, pyModule := Value.str (Str.ofString "clausemill.clauses") 206, code := Value.ref 126 } }), (133, { cls := Value.type "code", data := Data.fields #[Value.str (Str.ofString "first_live") 371, Value.str (Str.ofString "ClauseStore.first_live") 372, Value.str (Str.ofString "/claim/cut.py") 373, Value.int 81 0, Value.int 4 0, Value.int 0 0, Value.int 0 0, Value.int 3 0, Value.ref 128, Value.bool true, Value.int 181 0, Value.ref 129, Value.none, Value.ref 130, Value.ref 131, Value.ref 132, Value.int 378 0, Value.int 81 0, Value.str (Str.ofString "/claim/cut.py") 379] }), (134, { cls := Value.type "function", data := Data.func { name := Str.ofString "first_live", qualname := Str.ofString "ClauseStore.first_live", params := dArgs (m1 7 6), body := FuncBody.stmts (dBody (m1 7 6)), scope := dScope (m1 7 6), globals := 3, closure := [], defaults := Value.none, kwdefaults := Value.none, pyModule := Value.str (Str.ofString "clausemill.clauses") 206, code := Value.ref 133 } }), (140, { cls := Value.type "code", data := Data.fields #[Value.str (Str.ofString "next_live") 381, Value.str (Str.ofString "ClauseStore.next_live") 382, Value.str (Str.ofString "/claim/cut.py") 383, Value.int 84 0, Value.int 4 0, Value.int 0 0, Value.int 0 0, Value.int 3 0, Value.ref 135, Value.bool true, Value.int 181 0, Value.ref 136, Value.none, Value.ref 137, Value.ref 138, Value.ref 139, Value.int 388 0, Value.int 84 0, Value.str (Str.ofString "/claim/cut.py") 389] }), (141, { cls := Value.type "function", data := Data.func { name := Str.ofString "next_live", qualname := Str.ofString "ClauseStore.next_live", params := dArgs (m1 7 7), body := FuncBody.stmts (dBody (m1 7 7)), scope := dScope (m1 7 7), globals := 3, closure := [], defaults := Value.none, kwdefaults := Value.none, pyModule := Value.str (Str.ofString "clausemill.clauses") 206, code := Value.ref 140 } })]
noncomputable def own16 (P : Params) : Frag := [(147, { cls := Value.type "code", data := Data.fields #[Value.str (Str.ofString "chain") 391, Value.str (Str.ofString "ClauseStore.chain") 392, Value.str (Str.ofString "/claim/cut.py") 393, Value.int 87 0, Value.int 3 0, Value.int 0 0, Value.int 0 0, Value.int 3 0, Value.ref 142, Value.bool true, Value.int 181 0, Value.ref 143, Value.none, Value.ref 144, Value.ref 145, Value.ref 146, Value.int 400 0, Value.int 87 0, Value.str (Str.ofString "/claim/cut.py") 401] }), (148, { cls := Value.type "function", data := Data.func { name := Str.ofString "chain", qualname := Str.ofString "ClauseStore.chain", params := dArgs (m1 7 8), body := FuncBody.stmts (dBody (m1 7 8)), scope := dScope (m1 7 8), globals := 3, closure := [], defaults := Value.none, kwdefaults := Value.none, pyModule := Value.str (Str.ofString "clausemill.clauses") 206, code := Value.ref 147 } }), (154, { cls := Value.type "code", data := Data.fields #[Value.str (Str.ofString "erase") 403, Value.str (Str.ofString "ClauseStore.erase") 404, Value.str (Str.ofString "/claim/cut.py") 405, Value.int 97 0, Value.int 2 0, Value.int 0 0, Value.int 0 0, Value.int 3 0, Value.ref 149, Value.bool true, Value.int 181 0, Value.ref 150, Value.none, Value.ref 151, Value.ref 152, Value.ref 153, Value.int 409 0, Value.int 97 0, Value.str (Str.ofString "/claim/cut.py") 410] }), (155, { cls := Value.type "function", data := Data.func { name := Str.ofString "erase", qualname := Str.ofString "ClauseStore.erase", params := dArgs (m1 7 9), body := FuncBody.stmts (dBody (m1 7 9)), scope := dScope (m1 7 9), globals := 3, closure := [], defaults := Value.none, kwdefaults := Value.none, pyModule := Value.str (Str.ofString "clausemill.clauses") 206, code := Value.ref 154 } }), (161, { cls := Value.type "code", data := Data.fields #[Value.str (Str.ofString "kill_all") 412, Value.str (Str.ofString "ClauseStore.kill_all") 413, Value.str (Str.ofString "/claim/cut.py") 414, Value.int 105 0, Value.int 2 0, Value.int 0 0, Value.int 0 0, Value.int 3 0, Value.ref 156, Value.bool true, Value.int 181 0, Value.ref 157, Value.none, Value.ref 158, Value.ref 159, Value.ref 160, Value.int 419 0, Value.int 105 0, Value.str (Str.ofString "/claim/cut.py") 420] }), (162, { cls := Value.type "function", data := Data.func { name := Str.ofString "kill_all", qualname := Str.ofString "ClauseStore.kill_all", params := dArgs (m1 7 10), body := FuncBody.stmts (dBody (m1 7 10)), scope := dScope (m1 7 10), globals := 3, closure := [], defaults := Value.none, kwdefaults := Value.none, pyModule := Value.str (Str.ofString "clausemill.clauses") 206, code := Value.ref 161 } })]
noncomputable def own17 (P : Params) : Frag := [(164, { cls := Value.type "dict", data := Data.dict #[{ hash := PyData.keyHash P (Str.ofString "__module__"), key := Value.str (Str.ofString "__module__") 302, val := Value.str (Str.ofString "clausemill.clauses") 206 }, { hash := PyData.keyHash P (Str.ofString "__firstlineno__"), key := Value.str (Str.ofString "__firstlineno__") 306, val := Value.int 38 305 }, { hash := PyData.keyHash P (Str.ofString "__init__"), key := Value.str (Str.ofString "__init__") 313, val := Value.ref 92 }, { hash := PyData.keyHash P (Str.ofString "new_record"), key := Value.str (Str.ofString "new_record") 326, val := Value.ref 99 }, { hash := PyData.keyHash P (Str.ofString "append_record"), key := Value.str (Str.ofString "append_record") 338, val := Value.ref 106 }, { hash := PyData.keyHash P (Str.ofString "prepend_record"), key := Value.str (Str.ofString "prepend_record") 350, val := Value.ref 113 }, { hash := PyData.keyHash P (Str.ofString "visible"), key := Value.str (Str.ofString "visible") 359, val := Value.ref 120 }, { hash := PyData.keyHash P (Str.ofString "live_from"), key := Value.str (Str.ofString "live_from") 370, val := Value.ref 127 }, { hash := PyData.keyHash P (Str.ofString "first_live"), key := Value.str (Str.ofString "first_live") 380, val := Value.ref 134 }, { hash := PyData.keyHash P (Str.ofString "next_live"), key := Value.str (Str.ofString "next_live") 390, val := Value.ref 141 }, { hash := PyData.keyHash P (Str.ofString "chain"), key := Value.str (Str.ofString "chain") 402, val := Value.ref 148 }, { hash := PyData.keyHash P (Str.ofString "erase"), key := Value.str (Str.ofString "erase") 411, val := Value.ref 155 }, { hash := PyData.keyHash P (Str.ofString "kill_all"), key := Value.str (Str.ofString "kill_all") 421, val := Value.ref 162 }, { hash := PyData.keyHash P (Str.ofString "__static_attributes__"), key := Value.str (Str.ofString "__static_attributes__") 425, val := Value.ref 163 }, { hash := PyData.keyHash P (Str.ofString "__dict__"), key := Value.str (Str.ofString "__dict__") 427, val := Value.ref 166 }, { hash := PyData.keyHash P (Str.ofString "__weakref__"), key := Value.str (Str.ofString "__weakref__") 429, val := Value.ref 167 }, { hash := PyData.keyHash P (Str.ofString "__doc__"), key := Value.str (Str.ofString "__doc__") 430, val := Value.none }] 4 }), (165, { cls := Value.type "type", data := Data.cls { name := Str.ofString "ClauseStore", bases := [Value.type "object"], mro := [Value.ref 165, Value.type "object"], ns := 164, qualname := Str.ofString "ClauseStore" }, slots := #[none, none, some (Value.str (Str.ofString "ClauseStore") 295), some (Value.str (Str.ofString "ClauseStore") 303), some (Value.builtin "object.__new__"), some (Value.bool true)] }), (166, { cls := Value.type "getset_descriptor", data := Data.fields #[Value.str (Str.ofString "__dict__") 426, Value.ref 165, Value.builtin "function.__dict__", Value.builtin "function.__dict__#set"] }), (167, { cls := Value.type "getset_descriptor", data := Data.fields #[Value.str (Str.ofString "__weakref__") 428, Value.ref 165, Value.builtin "ExceptionGroup.__weakref__", Value.none] }), (175, { cls := Value.type "code", data := Data.fields #[Value.str (Str.ofString "sweep") 433, Value.str (Str.ofString "sweep") 434, Value.str (Str.ofString "/claim/cut.py") 435, Value.int 111 0, Value.int 2 0, Value.int 0 0, Value.int 0 0, Value.int 3 0, Value.ref 170, Value.bool true, Value.int 181 0, Value.ref 171, Value.none, Value.ref 172, Value.ref 173, Value.ref 174, Value.int 444 0, Value.int 111 0, Value.str (Str.ofString "/claim/cut.py") 445] }), (176, { cls := Value.type "function", data := Data.func { name := Str.ofString "sweep", qualname := Str.ofString "sweep", params := dArgs (st1 8), body := FuncBody.stmts (dBody (st1 8)), scope := dScope (st1 8), globals := 3, closure := [], defaults := Value.none, kwdefaults := Value.none, pyModule := Value.str (Str.ofString "clausemill.clauses") 206, code := Value.ref 175 } })]
noncomputable def own18 (P : Params) : Frag := [(182, { cls := Value.type "code", data := Data.fields #[Value.str (Str.ofString "record_is_sound") 447, Value.str (Str.ofString "record_is_sound") 448, Value.str (Str.ofString "/claim/cut.py") 449, Value.int 129 0, Value.int 4 0, Value.int 0 0, Value.int 0 0, Value.int 3 0, Value.ref 177, Value.bool true, Value.int 181 0, Value.ref 178, Value.none, Value.ref 179, Value.ref 180, Value.ref 181, Value.int 454 0, Value.int 129 0, Value.str (Str.ofString "/claim/cut.py") 455] }), (183, { cls := Value.type "function", data := Data.func { name := Str.ofString "record_is_sound", qualname := Str.ofString "record_is_sound", params := dArgs (st1 9), body := FuncBody.stmts (dBody (st1 9)), scope := dScope (st1 9), globals := 3, closure := [], defaults := Value.none, kwdefaults := Value.none, pyModule := Value.str (Str.ofString "clausemill.clauses") 206, code := Value.ref 182 } }), (189, { cls := Value.type "code", data := Data.fields #[Value.str (Str.ofString "check_records") 457, Value.str (Str.ofString "check_records") 458, Value.str (Str.ofString "/claim/cut.py") 459, Value.int 137 0, Value.int 2 0, Value.int 0 0, Value.int 0 0, Value.int 3 0, Value.ref 184, Value.bool true, Value.int 181 0, Value.ref 185, Value.none, Value.ref 186, Value.ref 187, Value.ref 188, Value.int 468 0, Value.int 137 0, Value.str (Str.ofString "/claim/cut.py") 469] }), (190, { cls := Value.type "function", data := Data.func { name := Str.ofString "check_records", qualname := Str.ofString "check_records", params := dArgs (st1 10), body := FuncBody.stmts (dBody (st1 10)), scope := dScope (st1 10), globals := 3, closure := [], defaults := Value.none, kwdefaults := Value.none, pyModule := Value.str (Str.ofString "clausemill.clauses") 206, code := Value.ref 189 } }), (196, { cls := Value.type "code", data := Data.fields #[Value.str (Str.ofString "_law_digits") 473, Value.str (Str.ofString "_law_digits") 474, Value.str (Str.ofString "/claim/cut.py") 475, Value.int 156 0, Value.int 1 0, Value.int 0 0, Value.int 0 0, Value.int 3 0, Value.ref 191, Value.bool true, Value.int 181 0, Value.ref 192, Value.none, Value.ref 193, Value.ref 194, Value.ref 195, Value.int 481 0, Value.int 156 0, Value.str (Str.ofString "/claim/cut.py") 482] }), (197, { cls := Value.type "function", data := Data.func { name := Str.ofString "_law_digits", qualname := Str.ofString "_law_digits", params := dArgs (st1 12), body := FuncBody.stmts (dBody (st1 12)), scope := dScope (st1 12), globals := 3, closure := [], defaults := Value.none, kwdefaults := Value.none, pyModule := Value.str (Str.ofString "law_ok0011_02") 471, code := Value.ref 196 } })]
noncomputable def own19 (P : Params) : Frag := [(203, { cls := Value.type "code", data := Data.fields #[Value.str (Str.ofString "_law_choose") 484, Value.str (Str.ofString "_law_choose") 485, Value.str (Str.ofString "/claim/cut.py") 486, Value.int 168 0, Value.int 2 0, Value.int 0 0, Value.int 0 0, Value.int 3 0, Value.ref 198, Value.bool true, Value.int 181 0, Value.ref 199, Value.none, Value.ref 200, Value.ref 201, Value.ref 202, Value.int 489 0, Value.int 168 0, Value.str (Str.ofString "/claim/cut.py") 490] }), (204, { cls := Value.type "function", data := Data.func { name := Str.ofString "_law_choose", qualname := Str.ofString "_law_choose", params := dArgs (st1 13), body := FuncBody.stmts (dBody (st1 13)), scope := dScope (st1 13), globals := 3, closure := [], defaults := Value.none, kwdefaults := Value.none, pyModule := Value.str (Str.ofString "law_ok0011_02") 471, code := Value.ref 203 } }), (208, { cls := Value.type "code", data := Data.fields #[Value.str (Str.ofString "_law_shown") 492, Value.str (Str.ofString "_law_shown") 493, Value.str (Str.ofString "/claim/cut.py") 494, Value.int 170 0, Value.int 2 0, Value.int 0 0, Value.int 0 0, Value.int 3 0, Value.ref 205, Value.bool true, Value.int 181 0, Value.ref 206, Value.none, Value.none, Value.none, Value.ref 207, Value.int 495 0, Value.int 170 0, Value.str (Str.ofString "/claim/cut.py") 496] }), (209, { cls := Value.type "function", data := Data.func { name := Str.ofString "_law_shown", qualname := Str.ofString "_law_shown", params := dArgs (st1 14), body := FuncBody.stmts (dBody (st1 14)), scope := dScope (st1 14), globals := 3, closure := [], defaults := Value.none, kwdefaults := Value.none, pyModule := Value.str (Str.ofString "law_ok0011_02") 471, code := Value.ref 208 } }), (215, { cls := Value.type "code", data := Data.fields #[Value.str (Str.ofString "_law_walk") 498, Value.str (Str.ofString "_law_walk") 499, Value.str (Str.ofString "/claim/cut.py") 500, Value.int 172 0, Value.int 4 0, Value.int 0 0, Value.int 0 0, Value.int 3 0, Value.ref 210, Value.bool true, Value.int 181 0, Value.ref 211, Value.none, Value.ref 212, Value.ref 213, Value.ref 214, Value.int 507 0, Value.int 172 0, Value.str (Str.ofString "/claim/cut.py") 508] }), (216, { cls := Value.type "function", data := Data.func { name := Str.ofString "_law_walk", qualname := Str.ofString "_law_walk", params := dArgs (st1 15), body := FuncBody.stmts (dBody (st1 15)), scope := dScope (st1 15), globals := 3, closure := [], defaults := Value.none, kwdefaults := Value.none, pyModule := Value.str (Str.ofString "law_ok0011_02") 471, code := Value.ref 215 } })]
noncomputable def own20 (P : Params) : Frag := [(220, { cls := Value.type "code", data := Data.fields #[Value.str (Str.ofString "_law_looks_right") 510, Value.str (Str.ofString "_law_looks_right") 511, Value.str (Str.ofString "/claim/cut.py") 512, Value.int 179 0, Value.int 5 0, Value.int 0 0, Value.int 0 0, Value.int 3 0, Value.ref 217, Value.bool true, Value.int 181 0, Value.ref 218, Value.none, Value.none, Value.none, Value.ref 219, Value.int 513 0, Value.int 179 0, Value.str (Str.ofString "/claim/cut.py") 514] }), (221, { cls := Value.type "function", data := Data.func { name := Str.ofString "_law_looks_right", qualname := Str.ofString "_law_looks_right", params := dArgs (st1 16), body := FuncBody.stmts (dBody (st1 16)), scope := dScope (st1 16), globals := 3, closure := [], defaults := Value.none, kwdefaults := Value.none, pyModule := Value.str (Str.ofString "law_ok0011_02") 471, code := Value.ref 220 } }), (225, { cls := Value.type "code", data := Data.fields #[Value.str (Str.ofString "law") 516, Value.str (Str.ofString "law") 517, Value.str (Str.ofString "/claim/cut.py") 518, Value.int 192 0, Value.int 1 0, Value.int 0 0, Value.int 0 0, Value.int 3 0, Value.ref 222, Value.bool true, Value.int 181 0, Value.ref 223, Value.none, Value.none, Value.none, Value.ref 224, Value.int 519 0, Value.int 192 0, Value.str (Str.ofString "/claim/cut.py") 520] }), (226, { cls := Value.type "function", data := Data.func { name := Str.ofString "law", qualname := Str.ofString "law", params := dArgs (st1 17), body := FuncBody.stmts (dBody (st1 17)), scope := dScope (st1 17), globals := 3, closure := [], defaults := Value.none, kwdefaults := Value.none, pyModule := Value.str (Str.ofString "law_ok0011_02") 471, code := Value.ref 225 } })]
noncomputable def own (P : Params) : Frag := (2, own2) :: (own10 P ++ (own11 P ++ (own12 P ++ (own13 P ++ (own14 P ++ (own15 P ++ (own16 P ++ (own17 P ++ (own18 P ++ (own19 P ++ (own20 P)))))))))))
noncomputable def ownAs : List Addr := [2, 3, 20, 21, 22, 28, 29, 42, 43, 45, 46, 47, 48, 63, 64, 70, 71, 73, 74, 75, 76, 91, 92, 98, 99, 105, 106, 112, 113, 119, 120, 126, 127, 133, 134, 140, 141, 147, 148, 154, 155, 161, 162, 164, 165, 166, 167, 175, 176, 182, 183, 189, 190, 196, 197, 203, 204, 208, 209, 215, 216, 220, 221, 225, 226]
theorem own_as (P : Params) : ownAs = (own P).map (·.1) := rfl
noncomputable def view : Program := { PySem.Challenge.rw_ok0011_02.row.toRowW.prog with main := { PySem.Challenge.rw_ok0011_02.row.toRowW.prog.main with body := [st1 0, st1 2, st1 3, st1 5, st1 6, st1 7, st1 8, st1 9, st1 10, st1 12, st1 13, st1 14, st1 15, st1 16, st1 17] } }
noncomputable abbrev hook : Hook := kHook own ownAs own_as
set_option maxHeartbeats 8000000 in
theorem run_left : LeftO PySem.Challenge.rw_ok0011_02.row.prog view [] (fun s => xlAt view [] s && recOk (RowW.records PySem.Challenge.rw_ok0011_02.row.toRowW) s) (Hook.obs hook) (Hook.val hook) 3014 := fun w => by kernel_rfl
end Mine
open PySem PySem.W PyProof.Rows PySem.Calls
set_option Elab.async false
set_option maxRecDepth 100000
set_option linter.unusedVariables false
namespace Mine

inductive AV where
  | none | bool (b : Bool) | int (i : Int) | str (s : Str) | ref (a : Addr) | raw (v : Value)

def AV.is : AV → Value → Prop
  | .none, v => v = .none
  | .bool b, v => v = .bool b
  | .int i, v => ∃ t, v = .int i t
  | .str s, v => ∃ t, v = .str s t
  | .ref a, v => v = .ref a
  | .raw w, v => v = w

inductive AO where
  | inst (C : Addr) (fs : List (Str × AV))
  | list (l : List AV)
  | tup (l : List AV)
  | idict (l : List (Int × AV)) (ep : Nat)
  | sdict (l : List (Str × AV))
  | rng (n : Int)
  | slc (l u s : AV)

def AO.notInst : AO → Prop
  | .inst .. => False
  | _ => True

/-- two lists item by item -/
inductive Are {α β : Type} (R : α → β → Prop) : List α → List β → Prop
  | nil : Are R [] []
  | cons {a b l k} : R a b → Are R l k → Are R (a :: l) (b :: k)

theorem Are.length {α β : Type} {R : α → β → Prop} {l : List α} {k : List β} (h : Are R l k) : l.length = k.length := by
  induction h with
  | nil => rfl
  | cons _ _ ih => simp [ih]
theorem Are.get {α β : Type} {R : α → β → Prop} {l : List α} {k : List β} (h : Are R l k) : ∀ {i : Nat} {a : α}, l[i]? = some a → ∃ b, k[i]? = some b ∧ R a b := by
  induction h with
  | nil => intro i a e; cases e
  | cons hr _ ih =>
    intro i a e
    cases i with
    | zero => cases e; exact ⟨_, rfl, hr⟩
    | succ j => exact ih (by simpa using e)
theorem Are.get' {α β : Type} {R : α → β → Prop} {l : List α} {k : List β} (h : Are R l k) : ∀ {i : Nat} {b : β}, k[i]? = some b → ∃ a, l[i]? = some a ∧ R a b := by
  induction h with
  | nil => intro i a e; cases e
  | cons hr _ ih =>
    intro i a e
    cases i with
    | zero => cases e; exact ⟨_, rfl, hr⟩
    | succ j => exact ih (by simpa using e)
theorem Are.append {α β : Type} {R : α → β → Prop} {l l' : List α} {k k' : List β} (h : Are R l k) (h' : Are R l' k') : Are R (l ++ l') (k ++ k') := by
  induction h with
  | nil => exact h'
  | cons hr _ ih => exact .cons hr ih
theorem Are.reverse {α β : Type} {R : α → β → Prop} {l : List α} {k : List β} (h : Are R l k) : Are R l.reverse k.reverse := by
  induction h with
  | nil => exact .nil
  | cons hr _ ih => simp only [List.reverse_cons]; exact ih.append (.cons hr .nil)
theorem Are.take {α β : Type} {R : α → β → Prop} {l : List α} {k : List β} (h : Are R l k) : ∀ n, Are R (l.take n) (k.take n) := by
  induction h with
  | nil => intro n; simp; exact .nil
  | cons hr _ ih =>
    intro n
    cases n with
    | zero => exact .nil
    | succ n => exact .cons hr (ih n)
theorem Are.drop {α β : Type} {R : α → β → Prop} {l : List α} {k : List β} (h : Are R l k) : ∀ n, Are R (l.drop n) (k.drop n) := by
  induction h with
  | nil => intro n; simp; exact .nil
  | cons hr t ih =>
    intro n
    cases n with
    | zero => exact .cons hr t
    | succ n => exact ih n
theorem Are.set {α β : Type} {R : α → β → Prop} {l : List α} {k : List β} (h : Are R l k) {a : α} {b : β} (hr : R a b) : ∀ n, Are R (l.set n a) (k.set n b) := by
  induction h with
  | nil => intro n; exact .nil
  | cons hr' t ih =>
    intro n
    cases n with
    | zero => exact .cons hr t
    | succ n => exact .cons hr' (ih n)
theorem Are.map {α β γ δ : Type} {R : α → β → Prop} {S : γ → δ → Prop} {f : α → γ} {g : β → δ} (hf : ∀ a b, R a b → S (f a) (g b)) {l : List α} {k : List β} (h : Are R l k) : Are S (l.map f) (k.map g) := by
  induction h with
  | nil => exact .nil
  | cons hr _ ih => exact .cons (hf _ _ hr) ih
theorem Are.mono {α β : Type} {R S : α → β → Prop} (hf : ∀ a b, R a b → S a b) {l : List α} {k : List β} (h : Are R l k) : Are S l k := by
  induction h with
  | nil => exact .nil
  | cons hr _ ih => exact .cons (hf _ _ hr) ih
theorem Are.snoc {α β : Type} {R : α → β → Prop} {l : List α} {k : List β} (h : Are R l k) {a : α} {b : β} (hr : R a b) : Are R (l ++ [a]) (k ++ [b]) := h.append (.cons hr .nil)
theorem Are.nil_left {α β : Type} {R : α → β → Prop} {k : List β} (h : Are R [] k) : k = [] := by cases h; rfl

abbrev AreV := Are AV.is
/-- the pairs of a dict -/
def PairIs {K : Type} (p : K × AV) (q : K × Value) : Prop := p.1 = q.1 ∧ p.2.is q.2
abbrev AreP {K : Type} := Are (PairIs (K := K))
/-- the entries of an object's own dict -/
def FieldIs (e : DictEntry) (p : Str × AV) : Prop := (∃ t, e.key = .str p.1 t) ∧ p.2.is e.val
abbrev Fields (fs : List (Str × AV)) (es : List DictEntry) : Prop := Are (fun p e => FieldIs e p) fs es

noncomputable abbrev tupObj (its : Array Value) (n : Nat) : Obj := { cls := .type "tuple", data := .seq its n }

def Cell (prog : Program) (w : World) (h : Heap) (ψ : Addr → Addr) (a : Addr) : AO → Prop
  | .inst C fs => h.get? a = some (instObj C (ψ a)) ∧ ∃ es n, h.get? (ψ a) = some (dictOf es n) ∧ Fields fs es
  | .list l => ∃ vs n, h.get? a = some (W.listOf vs n) ∧ AreV l vs.toList
  | .tup l => ∃ vs n, h.get? a = some (tupObj vs n) ∧ AreV l vs.toList
  | .idict l ep => ∃ kvs, h.DictAt (intKind prog w) a kvs ep ∧ AreP l kvs
  | .sdict l => ∃ kvs, h.DictOf (strKind prog w) a kvs ∧ AreP l kvs
  | .rng n => ∃ t u v, IsRange h a 0 n 1 t u v
  | .slc l u s => ∃ l' u' s', h.get? a = some { cls := .type "slice", data := .fields #[l', u', s'] } ∧ l.is l' ∧ u.is u' ∧ s.is s'

abbrev AH := Addr → Option AO
abbrev Loc := List (Str × AV)
noncomputable def upd (φ : AH) (a : Addr) (o : AO) : AH := fun b => if b = a then some o else φ b
theorem upd_self (φ : AH) (a : Addr) (o : AO) : upd φ a o a = some o := by simp [upd]
theorem upd_ne {φ : AH} {a b : Addr} {o : AO} (h : b ≠ a) : upd φ a o b = φ b := by simp [upd, h]

def cov (φ : AH) (ψ : Addr → Addr) (b : Addr) : Prop := (∃ o, φ b = some o) ∨ ∃ a C fs, φ a = some (.inst C fs) ∧ ψ a = b

/-- the constants of a whole law's run -/
structure Wd where
  prog : Program
  w : World
  K : Frag
  g : Heap
  mg : Str → Option Value
  mb : Str → Option Value
  p : Program
  loose : List Str
  gens : Array GenState
  os : OsState
structure Wd.Ok (W : Wd) : Prop where
  X : W.K.In W.g
  T : TopRead W.p W.loose W.mg W.mb W.g

/-- a heap that bears φ: frz is what stands frozen -/
structure HOk (W : Wd) (frz : Addr → Option Obj) (φ : AH) (ψ : Addr → Addr) (h : Heap) : Prop where
  keep : ∀ b o, W.g.get? b = some o → h.get? b = some o
  heap : ∀ a o, φ a = some o → Cell W.prog W.w h ψ a o
  own : ∀ b, cov φ ψ b → W.g.objs.size ≤ b
  dcov : ∀ a K fs, φ a = some (.inst K fs) → φ (ψ a) = none
  inj : ∀ a b K fs K' fs', φ a = some (.inst K fs) → φ b = some (.inst K' fs') → ψ a = ψ b → a = b
  frz : ∀ b o, frz b = some o → h.get? b = some o ∧ ¬ cov φ ψ b

theorem Cell.agree {prog : Program} {w : World} {h h' : Heap} {ψ ψ' : Addr → Addr} {a : Addr} {o : AO} (c : Cell prog w h ψ a o) (h1 : h'.get? a = h.get? a)
    (h2 : ∀ C fs, o = .inst C fs → ψ' a = ψ a ∧ h'.get? (ψ a) = h.get? (ψ a)) : Cell prog w h' ψ' a o := by
  cases o with
  | inst C fs =>
    obtain ⟨c1, es, n, c2, c3⟩ := c
    obtain ⟨e1, e2⟩ := h2 C fs rfl
    exact ⟨by rw [h1, e1]; exact c1, es, n, by rw [e1, e2]; exact c2, c3⟩
  | list l => obtain ⟨vs, n, c1, c2⟩ := c; exact ⟨vs, n, by rw [h1]; exact c1, c2⟩
  | tup l => obtain ⟨vs, n, c1, c2⟩ := c; exact ⟨vs, n, by rw [h1]; exact c1, c2⟩
  | idict l ep => obtain ⟨kvs, ⟨o, es, c0, c1⟩, c2⟩ := c; exact ⟨kvs, ⟨o, es, by rw [h1]; exact c0, c1⟩, c2⟩
  | sdict l => obtain ⟨kvs, ⟨o, es, ep, c0, c1⟩, c2⟩ := c; exact ⟨kvs, ⟨o, es, ep, by rw [h1]; exact c0, c1⟩, c2⟩
  | rng n => obtain ⟨t, u, v, c1⟩ := c; exact ⟨t, u, v, by unfold IsRange; rw [h1]; exact c1⟩
  | slc l u s => obtain ⟨l', u', s', c1, c2⟩ := c; exact ⟨l', u', s', by rw [h1]; exact c1, c2⟩
theorem Cell.there {prog : Program} {w : World} {h : Heap} {ψ : Addr → Addr} {a : Addr} {o : AO} (c : Cell prog w h ψ a o) : ∃ x, h.get? a = some x := by
  cases o with
  | inst C fs => exact ⟨_, c.1⟩
  | list l => obtain ⟨vs, n, c1, c2⟩ := c; exact ⟨_, c1⟩
  | tup l => obtain ⟨vs, n, c1, c2⟩ := c; exact ⟨_, c1⟩
  | idict l ep => obtain ⟨kvs, ⟨o, es, c0, c1⟩, c2⟩ := c; exact ⟨_, c0⟩
  | sdict l => obtain ⟨kvs, ⟨o, es, ep, c0, c1⟩, c2⟩ := c; exact ⟨_, c0⟩
  | rng n => obtain ⟨t, u, v, c1⟩ := c; exact ⟨_, c1⟩
  | slc l u s => obtain ⟨l', u', s', c1, c2⟩ := c; exact ⟨_, c1⟩

section
variable {W : Wd} {frz : Addr → Option Obj} {φ : AH} {ψ : Addr → Addr} {h h' : Heap}

theorem old_none {g : Heap} {b : Addr} (h : g.objs.size ≤ b) : g.get? b = none := by
  cases q : g.get? b with
  | none => rfl
  | some o => exact absurd (Heap.lt_size q) (Nat.not_lt.mpr h)
theorem HOk.there (H : HOk W frz φ ψ h) {b : Addr} (c : cov φ ψ b) : ∃ x, h.get? b = some x := by
  rcases c with ⟨o, e⟩ | ⟨a, C, fs, e, rfl⟩
  · exact (H.heap _ _ e).there
  · obtain ⟨_, es, n, c2, _⟩ := H.heap _ _ e; exact ⟨_, c2⟩
/-- what is not covered may move -/
theorem HOk.agree (H : HOk W frz φ ψ h) (hc : ∀ b, cov φ ψ b → h'.get? b = h.get? b) (hk : ∀ b o, W.g.get? b = some o → h'.get? b = some o)
    {frz' : Addr → Option Obj} (hf : ∀ b o, frz' b = some o → h'.get? b = some o ∧ ¬ cov φ ψ b) : HOk W frz' φ ψ h' :=
  ⟨hk, fun a o e => (H.heap a o e).agree (hc a (.inl ⟨o, e⟩)) fun C fs q => ⟨rfl, hc _ (.inr ⟨a, C, fs, q ▸ e, rfl⟩)⟩, H.own, H.dcov, H.inj, hf⟩
theorem HOk.grow (H : HOk W frz φ ψ h) (hk : ∀ b o, h.get? b = some o → h'.get? b = some o) : HOk W frz φ ψ h' :=
  H.agree (fun b c => by obtain ⟨x, e⟩ := H.there c; rw [hk _ _ e, e]) (fun b o e => hk _ _ (H.keep _ _ e)) fun b o e => ⟨hk _ _ (H.frz b o e).1, (H.frz b o e).2⟩

theorem cov_upd_same {a : Addr} {o o' : AO} (e : φ a = some o) (hn : o.notInst) (hn' : o'.notInst) (b : Addr) : cov (upd φ a o') ψ b ↔ cov φ ψ b := by
  have hx : ∀ c C fs, upd φ a o' c = some (.inst C fs) ↔ φ c = some (.inst C fs) := by
    intro c C fs
    by_cases q : c = a
    · subst q; rw [upd_self, e]
      constructor <;> intro z <;> (injection z with z; subst z; first | exact hn'.elim | exact hn.elim)
    · rw [upd_ne q]
  unfold cov
  constructor
  · rintro (⟨x, z⟩ | ⟨c, C, fs, z, y⟩)
    · by_cases q : b = a
      · subst q; exact .inl ⟨_, e⟩
      · rw [upd_ne q] at z; exact .inl ⟨_, z⟩
    · exact .inr ⟨c, C, fs, (hx c C fs).mp z, y⟩
  · rintro (⟨x, z⟩ | ⟨c, C, fs, z, y⟩)
    · by_cases q : b = a
      · subst q; exact .inl ⟨_, upd_self ..⟩
      · exact .inl ⟨x, by rw [upd_ne q]; exact z⟩
    · exact .inr ⟨c, C, fs, (hx c C fs).mpr z, y⟩

/-- a plain object is changed -/
theorem HOk.put (H : HOk W frz φ ψ h) {a : Addr} {o o' : AO} (e : φ a = some o) (hn : o.notInst) (hn' : o'.notInst) (hs : Heap.SameBut a h h') (hc : Cell W.prog W.w h' ψ a o') :
    HOk W frz (upd φ a o') ψ h' := by
  have hx : ∀ c C fs, upd φ a o' c = some (.inst C fs) → c ≠ a ∧ φ c = some (.inst C fs) := by
    intro c C fs z
    by_cases q : c = a
    · subst q; rw [upd_self] at z; injection z with z; subst z; exact hn'.elim
    · rw [upd_ne q] at z; exact ⟨q, z⟩
  have ga : W.g.get? a = none := old_none (H.own a (.inl ⟨_, e⟩))
  refine ⟨fun b x q => (hs.2 b (fun z => by subst z; rw [ga] at q; cases q)).trans (H.keep b x q), fun c x q => ?_, fun b c => H.own b ((cov_upd_same e hn hn' b).mp c), fun c K fs q => ?_, fun c d K fs K' fs' q q' z => ?_, fun b x q => ?_⟩
  · by_cases z : c = a
    · subst z; rw [upd_self] at q; cases q; exact hc
    · rw [upd_ne z] at q
      refine (H.heap c x q).agree (hs.2 c z) fun C fs y => ⟨rfl, hs.2 _ fun v => ?_⟩
      have := H.dcov c C fs (y ▸ q)
      rw [v, e] at this; cases this
  · obtain ⟨_, q'⟩ := hx _ _ _ q
    have := H.dcov _ _ _ q'
    rw [upd_ne]
    · exact this
    · intro v; rw [v, e] at this; cases this
  · exact H.inj c d K fs K' fs' (hx _ _ _ q).2 (hx _ _ _ q').2 z
  · obtain ⟨f1, f2⟩ := H.frz b x q
    refine ⟨(hs.2 b fun z => f2 (.inl ⟨o, z ▸ e⟩)).trans f1, fun c => f2 ((cov_upd_same e hn hn' b).mp c)⟩

theorem cov_upd_inst {a : Addr} {C : Addr} {fs fs' : List (Str × AV)} (e : φ a = some (.inst C fs)) (b : Addr) : cov (upd φ a (.inst C fs')) ψ b ↔ cov φ ψ b := by
  unfold cov
  constructor
  · rintro (⟨x, z⟩ | ⟨c, D, gs, z, y⟩)
    · by_cases q : b = a
      · subst q; exact .inl ⟨_, e⟩
      · rw [upd_ne q] at z; exact .inl ⟨_, z⟩
    · by_cases q : c = a
      · subst q; exact .inr ⟨c, C, fs, e, y⟩
      · rw [upd_ne q] at z; exact .inr ⟨c, D, gs, z, y⟩
  · rintro (⟨x, z⟩ | ⟨c, D, gs, z, y⟩)
    · by_cases q : b = a
      · subst q; exact .inl ⟨_, upd_self ..⟩
      · exact .inl ⟨x, by rw [upd_ne q]; exact z⟩
    · by_cases q : c = a
      · subst q; exact .inr ⟨c, C, fs', upd_self .., y⟩
      · exact .inr ⟨c, D, gs, by rw [upd_ne q]; exact z, y⟩

/-- a field is changed -/
theorem HOk.putF (H : HOk W frz φ ψ h) {a C : Addr} {fs fs' : List (Str × AV)} (e : φ a = some (.inst C fs)) (hs : Heap.SameBut (ψ a) h h') (hc : Cell W.prog W.w h' ψ a (.inst C fs')) :
    HOk W frz (upd φ a (.inst C fs')) ψ h' := by
  have hx : ∀ c D gs, upd φ a (.inst C fs') c = some (.inst D gs) → ∃ D' gs', φ c = some (.inst D' gs') := by
    intro c D gs z
    by_cases q : c = a
    · subst q; exact ⟨_, _, e⟩
    · rw [upd_ne q] at z; exact ⟨_, _, z⟩
  have cv : cov φ ψ (ψ a) := .inr ⟨a, C, fs, e, rfl⟩
  have ga : W.g.get? (ψ a) = none := old_none (H.own _ cv)
  have da := H.dcov _ _ _ e
  refine ⟨fun b x q => (hs.2 b (fun z => by subst z; rw [ga] at q; cases q)).trans (H.keep b x q), fun c x q => ?_, fun b c => H.own b ((cov_upd_inst e b).mp c), fun c K gs q => ?_, fun c d K gs K' gs' q q' z => ?_, fun b x q => ?_⟩
  · by_cases z : c = a
    · subst z; rw [upd_self] at q; cases q; exact hc
    · rw [upd_ne z] at q
      refine (H.heap c x q).agree (hs.2 c fun v => by rw [← v, q] at da; cases da) fun D gs y => ⟨rfl, hs.2 _ fun v => ?_⟩
      exact z (H.inj c a D gs C fs (y ▸ q) e v)
  · obtain ⟨D', gs', q'⟩ := hx _ _ _ q
    have := H.dcov _ _ _ q'
    rw [upd_ne]
    · exact this
    · intro v; rw [v, e] at this; cases this
  · obtain ⟨_, _, q1⟩ := hx _ _ _ q
    obtain ⟨_, _, q2⟩ := hx _ _ _ q'
    exact H.inj c d _ _ _ _ q1 q2 z
  · obtain ⟨f1, f2⟩ := H.frz b x q
    exact ⟨(hs.2 b fun z => f2 (z ▸ cv)).trans f1, fun c => f2 ((cov_upd_inst e b).mp c)⟩

theorem HOk.none_of (H : HOk W frz φ ψ h) {a : Addr} (e : h.get? a = none) : φ a = none ∧ frz a = none ∧ ¬ cov φ ψ a := by
  have nc : ¬ cov φ ψ a := fun c => by obtain ⟨x, q⟩ := H.there c; rw [e] at q; cases q
  refine ⟨?_, ?_, nc⟩
  · cases q : φ a with
    | none => rfl
    | some o => exact absurd (.inl ⟨o, q⟩) nc
  · cases q : frz a with
    | none => rfl
    | some o => rw [(H.frz _ _ q).1] at e; cases e

/-- a new object of no class of the text -/
theorem HOk.new (H : HOk W frz φ ψ h) {a : Addr} {o' : AO} (hn' : o'.notInst) (ga : W.g.objs.size ≤ a) (e : h.get? a = none) (hk : ∀ b o, h.get? b = some o → h'.get? b = some o) (hc : Cell W.prog W.w h' ψ a o') :
    HOk W frz (upd φ a o') ψ h' := by
  obtain ⟨pa, fa, nc⟩ := H.none_of e
  have hx : ∀ c C fs, upd φ a o' c = some (.inst C fs) → c ≠ a ∧ φ c = some (.inst C fs) := by
    intro c C fs z
    by_cases q : c = a
    · subst q; rw [upd_self] at z; injection z with z; subst z; exact hn'.elim
    · rw [upd_ne q] at z; exact ⟨q, z⟩
  have cv : ∀ b, cov (upd φ a o') ψ b → b = a ∨ cov φ ψ b := by
    rintro b (⟨x, z⟩ | ⟨c, D, gs, z, y⟩)
    · by_cases q : b = a
      · exact .inl q
      · rw [upd_ne q] at z; exact .inr (.inl ⟨_, z⟩)
    · exact .inr (.inr ⟨c, D, gs, (hx _ _ _ z).2, y⟩)
  have G := H.grow hk
  refine ⟨G.keep, fun c x q => ?_, fun b c => ?_, fun c K fs q => ?_, fun c d K fs K' fs' q q' z => H.inj c d K fs K' fs' (hx _ _ _ q).2 (hx _ _ _ q').2 z, fun b x q => ⟨(G.frz b x q).1, fun c => ?_⟩⟩
  · by_cases z : c = a
    · subst z; rw [upd_self] at q; cases q; exact hc
    · rw [upd_ne z] at q; exact G.heap c x q
  · rcases cv b c with rfl | c
    · exact ga
    · exact H.own b c
  · obtain ⟨_, q'⟩ := hx _ _ _ q
    rw [upd_ne]
    · exact H.dcov _ _ _ q'
    · intro v; exact nc (.inr ⟨c, K, fs, q', v⟩)
  · rcases cv b c with rfl | c
    · rw [fa] at q; cases q
    · exact (H.frz b x q).2 c

/-- a new object of a class, with its dict -/
theorem HOk.newInst (H : HOk W frz φ ψ h) {a d C : Addr} {fs : List (Str × AV)} (ga : W.g.objs.size ≤ a) (gd : W.g.objs.size ≤ d) (e : h.get? a = none) (e2 : h.get? d = none) (hne : a ≠ d) (hk : ∀ b o, h.get? b = some o → h'.get? b = some o)
    (hc : Cell W.prog W.w h' (fun b => if b = a then d else ψ b) a (.inst C fs)) :
    HOk W frz (upd φ a (.inst C fs)) (fun b => if b = a then d else ψ b) h' := by
  obtain ⟨pa, fa, nc⟩ := H.none_of e
  obtain ⟨pd, fd, ncd⟩ := H.none_of e2
  have G := H.grow hk
  have cv : ∀ b, cov (upd φ a (.inst C fs)) (fun b => if b = a then d else ψ b) b → b = a ∨ b = d ∨ cov φ ψ b := by
    rintro b (⟨x, z⟩ | ⟨c, D, gs, z, y⟩)
    · by_cases q : b = a
      · exact .inl q
      · rw [upd_ne q] at z; exact .inr (.inr (.inl ⟨_, z⟩))
    · dsimp only at y
      by_cases q : c = a
      · rw [if_pos q] at y; exact .inr (.inl y.symm)
      · rw [upd_ne q] at z; rw [if_neg q] at y; exact .inr (.inr (.inr ⟨c, D, gs, z, y⟩))
  refine ⟨G.keep, fun c x q => ?_, fun b c => ?_, fun c K gs q => ?_, fun c c' K gs K' gs' q q' z => ?_, fun b x q => ⟨(G.frz b x q).1, fun c => ?_⟩⟩
  · by_cases z : c = a
    · subst z; rw [upd_self] at q; cases q; exact hc
    · rw [upd_ne z] at q; exact (G.heap c x q).agree rfl fun _ _ _ => ⟨if_neg z, rfl⟩
  · rcases cv b c with rfl | rfl | c
    · exact ga
    · exact gd
    · exact H.own b c
  · by_cases z : c = a
    · simp only [if_pos z]; rw [upd_ne (Ne.symm hne)]; exact pd
    · rw [upd_ne z] at q
      simp only [if_neg z]
      rw [upd_ne]
      · exact H.dcov _ _ _ q
      · intro v; exact nc (.inr ⟨c, K, gs, q, v⟩)
  · by_cases y : c = a
    · by_cases y' : c' = a
      · rw [y, y']
      · rw [upd_ne y'] at q'
        rw [if_pos y, if_neg y'] at z
        exact absurd (.inr ⟨c', K', gs', q', z.symm⟩) ncd
    · rw [upd_ne y] at q
      by_cases y' : c' = a
      · rw [if_neg y, if_pos y'] at z
        exact absurd (.inr ⟨c, K, gs, q, z⟩) ncd
      · rw [upd_ne y'] at q'
        rw [if_neg y, if_neg y'] at z
        exact H.inj c c' _ _ _ _ q q' z
  · rcases cv b c with rfl | rfl | c
    · rw [fa] at q; cases q
    · rw [fd] at q; cases q
    · exact (H.frz b x q).2 c
end
end Mine

open PySem PySem.W PyProof.Rows PySem.Calls
set_option Elab.async false
set_option maxRecDepth 100000
set_option linter.unusedVariables false
namespace Mine

structure FC where
  W : Wd
  A : Around
  env : Env
noncomputable abbrev FC.L (C : FC) : Addr := C.env.locals
noncomputable abbrev FC.cl (C : FC) : List (Str × Addr) := C.env.cells
noncomputable abbrev FC.sc (C : FC) : Scope := C.env.scope
noncomputable abbrev FC.M (C : FC) : Model := model C.W.prog C.W.w
def FC.mine (C : FC) (b : Addr) : Prop := b = C.L ∨ ∃ x, C.cl.lookup x = some b

/-- the room that calls of a depth of n want -/
structure Room (A : Around) (n : Nat) : Prop where
  d : A.depth + 2 * n < recursionLimit
  u : A.units + 8 * n + 200 < cLine
  h : A.handled = none
theorem Room.deeper {A : Around} {n : Nat} {env : Env} (r : Room A (n + 1)) : Room (A.deeper env) n :=
  ⟨by have := r.d; show A.depth + 1 + 2 * n < _; omega, by have := r.u; show A.units + 3 + 8 * n + 200 < _; omega, r.h⟩
theorem Room.le {A : Around} {n m : Nat} (r : Room A n) (h : m ≤ n) : Room A m :=
  ⟨by have := r.d; omega, by have := r.u; omega, r.h⟩

structure Gd (C : FC) (n : Nat) : Prop where
  ok : C.W.Ok
  room : Room C.A n
  fn : C.sc.kind = .function
  gl : C.env.globals = mainGlobals
  bi : C.env.builtins = builtinsNs
  clL : ∀ x c, C.cl.lookup x = some c → c ≠ C.L ∧ C.W.g.objs.size ≤ c
  cl1 : ∀ x y c, C.cl.lookup x = some c → C.cl.lookup y = some c → x = y

structure StC (C : FC) (fz : Addr → Option Obj) (ρ : Loc) (φ : AH) (m : Str → Option Value) (ψ : Addr → Addr) (h : Heap) : Prop where
  fr : Fr C.W.g C.L h m
  ok : HOk C.W fz φ ψ h
  apart : ∀ b, C.mine b → ¬ cov φ ψ b ∧ fz b = none
  loc : ∀ x v, ρ.lookup x = some v → C.cl.lookup x = none → ∃ u, m x = some u ∧ v.is u
  cel : ∀ x v c, ρ.lookup x = some v → C.cl.lookup x = some c → ∃ u, h.IsCell c (some u) ∧ v.is u
  there : ∀ x c, C.cl.lookup x = some c → ∃ ov, h.IsCell c ov

def St (C : FC) (fz : Addr → Option Obj) (ρ : Loc) (φ : AH) (s : Shared) : Prop :=
  (∃ m ψ, StC C fz ρ φ m ψ s.heap) ∧ s.gens = C.W.gens ∧ s.os = C.W.os

inductive AF where
  | next | brk | cont | ret (v : AV)
def AF.is : AF → Flow → Prop
  | .next, f => f = .next
  | .brk, f => f = .brk
  | .cont, f => f = .cont
  | .ret v, f => ∃ u, f = .ret u ∧ v.is u

/-- a tree from φ: it ends, its answer and its heap as Q says; the frame's names stand -/
abbrev NoE : Value → Shared → Prop := fun _ _ => False
abbrev PW (C : FC) {α β : Type} (rel : β → α → Prop) (fz : Addr → Option Obj) (ρ : Loc) (Q : β → AH → Prop) : α → Shared → Prop := fun v s' => ∃ b φ', rel b v ∧ St C fz ρ φ' s' ∧ Q b φ'
abbrev PX (C : FC) (fz : Addr → Option Obj) (R : AF → Loc → AH → Prop) : Flow → Shared → Prop := fun f s' => ∃ b ρ' φ', AF.is b f ∧ St C fz ρ' φ' s' ∧ R b ρ' φ'
abbrev PU (C : FC) (fz : Addr → Option Obj) (Q : Loc → AH → Prop) : Unit → Shared → Prop := fun _ s' => ∃ ρ' φ', St C fz ρ' φ' s' ∧ Q ρ' φ'
def WPx (C : FC) {α β : Type} (t : Sem α) (rel : β → α → Prop) (ρ : Loc) (φ : AH) (Q : β → AH → Prop) : Prop :=
  ∀ fz s, St C fz ρ φ s → wpAny C.M C.A t (PW C rel fz ρ Q) NoE s
abbrev EV (C : FC) (t : Sem Value) (ρ : Loc) (φ : AH) (Q : AV → AH → Prop) : Prop := WPx C t AV.is ρ φ Q
abbrev EB (C : FC) (t : Sem Bool) (ρ : Loc) (φ : AH) (Q : Bool → AH → Prop) : Prop := WPx C t (fun a b => a = b) ρ φ Q
abbrev EL (C : FC) (t : Sem (List Value)) (ρ : Loc) (φ : AH) (Q : List AV → AH → Prop) : Prop := WPx C t AreV ρ φ Q
abbrev EU (C : FC) (t : Sem Unit) (ρ : Loc) (φ : AH) (Q : AH → Prop) : Prop := WPx C t (fun (_ : Unit) _ => True) ρ φ fun _ φ' => Q φ'
/-- statements: the names change too -/
def XS (C : FC) (t : Sem Flow) (ρ : Loc) (φ : AH) (Q : AF → Loc → AH → Prop) : Prop :=
  ∀ fz s, St C fz ρ φ s → wpAny C.M C.A t (PX C fz Q) NoE s
/-- a store: the names change -/
def XU (C : FC) (t : Sem Unit) (ρ : Loc) (φ : AH) (Q : Loc → AH → Prop) : Prop :=
  ∀ fz s, St C fz ρ φ s → wpAny C.M C.A t (PU C fz Q) NoE s

def Sub (ρ ρ' : Loc) : Prop := ∀ x v, ρ.lookup x = some v → ρ'.lookup x = some v
theorem Sub.refl (ρ : Loc) : Sub ρ ρ := fun _ _ h => h
theorem Sub.nil (ρ : Loc) : Sub [] ρ := fun _ _ h => by cases h
theorem Sub.cons {x : Str} {v : AV} {r ρ : Loc} (h : ρ.lookup x = some v) (t : Sub r ρ) : Sub ((x, v) :: r) ρ := by
  intro y u e
  rw [List.lookup_cons] at e
  split at e
  · rename_i q; rw [beq_iff_eq.mp q]; cases e; exact h
  · exact t y u e
theorem lk_here {x : Str} {v : AV} {r : Loc} : List.lookup x ((x, v) :: r) = some v := by rw [List.lookup_cons, beq_self_eq_true]
theorem lk_next {x y : Str} {u v : AV} {r : Loc} (h : (x == y) = false) (t : List.lookup x r = some v) : List.lookup x ((y, u) :: r) = some v := by rw [List.lookup_cons, h]; exact t

section
variable {C : FC} {fz : Addr → Option Obj} {ρ ρ' : Loc} {φ φ' : AH} {s s' : Shared}
theorem St.sub (h : St C fz ρ φ s) (k : Sub ρ' ρ) : St C fz ρ' φ s := by
  obtain ⟨⟨m, ψ, H⟩, g, o⟩ := h
  exact ⟨⟨m, ψ, H.fr, H.ok, H.apart, fun x v e => H.loc x v (k x v e), fun x v c e => H.cel x v c (k x v e), H.there⟩, g, o⟩
theorem StC.low {m ψ h} (H : StC C fz ρ φ m ψ h) : C.W.g.objs.size ≤ h.objs.size := by
  obtain ⟨o, _, _, e, _⟩ := H.fr.ns
  exact Nat.le_trans H.fr.above (Nat.le_of_lt (Heap.lt_size e))
theorem StC.old {m ψ h} (H : StC C fz ρ φ m ψ h) {b : Addr} (hb : C.mine b) : ∃ o, h.get? b = some o := by
  rcases hb with rfl | ⟨x, hx⟩
  · obtain ⟨o, _, _, e, _⟩ := H.fr.ns; exact ⟨o, e⟩
  · obtain ⟨_, o, e, _⟩ := H.there x b hx; exact ⟨o, e⟩
/-- the heap part changes, the frame's own objects stand -/
theorem StC.frame {m ψ h ψ' h'} (H : StC C fz ρ φ m ψ h) (K : HOk C.W fz φ' ψ' h') (hm : ∀ b, C.mine b → h'.get? b = h.get? b) (hc : ∀ b, C.mine b → ¬ cov φ' ψ' b) : StC C fz ρ φ' m ψ' h' := by
  have cell : ∀ x c ov, C.cl.lookup x = some c → h.IsCell c ov → h'.IsCell c ov := by
    rintro x c ov hx ⟨o, e, d⟩; exact ⟨o, by rw [hm c (.inr ⟨x, hx⟩)]; exact e, d⟩
  refine ⟨⟨?_, K.keep, H.fr.above⟩, K, fun b hb => ⟨hc b hb, (H.apart b hb).2⟩, H.loc, fun x v c e q => ?_, fun x c q => ?_⟩
  · obtain ⟨o, es, ep, e, r⟩ := H.fr.ns; exact ⟨o, es, ep, by rw [hm _ (.inl rfl)]; exact e, r⟩
  · obtain ⟨u, a, b⟩ := H.cel x v c e q; exact ⟨u, cell x c _ q a, b⟩
  · obtain ⟨ov, a⟩ := H.there x c q; exact ⟨ov, cell x c _ q a⟩
theorem St.frame {m ψ ψ' h'} (H : StC C fz ρ φ m ψ s.heap) (hg : s.gens = C.W.gens) (ho : s.os = C.W.os) (K : HOk C.W fz φ' ψ' h') (hm : ∀ b, C.mine b → h'.get? b = s.heap.get? b) (hc : ∀ b, C.mine b → ¬ cov φ' ψ' b) {d : Drawn} {t : Nat} :
    St C fz ρ φ' ⟨h', s.gens, d, t, s.os⟩ := ⟨⟨m, ψ', H.frame K hm hc⟩, hg, ho⟩
theorem St.grow {m ψ h'} (H : StC C fz ρ φ m ψ s.heap) (hg : s.gens = C.W.gens) (ho : s.os = C.W.os) (hk : ∀ b o, s.heap.get? b = some o → h'.get? b = some o) {d : Drawn} {t : Nat} :
    St C fz ρ φ ⟨h', s.gens, d, t, s.os⟩ :=
  St.frame H hg ho (H.ok.grow hk) (fun b hb => by obtain ⟨o, e⟩ := H.old hb; rw [hk _ _ e, e]) fun b hb => (H.apart b hb).1
theorem St.toks {d : Drawn} {t : Nat} (h : St C fz ρ φ s) : St C fz ρ φ ⟨s.heap, s.gens, d, t, s.os⟩ := ⟨h.1, h.2.1, h.2.2⟩
theorem St.put {m ψ h'} (H : StC C fz ρ φ m ψ s.heap) (hg : s.gens = C.W.gens) (ho : s.os = C.W.os) {a : Addr} {o o' : AO} (e : φ a = some o) (hn : o.notInst) (hn' : o'.notInst) (hs : Heap.SameBut a s.heap h') (hc : Cell C.W.prog C.W.w h' ψ a o') {d : Drawn} {t : Nat} :
    St C fz ρ (upd φ a o') ⟨h', s.gens, d, t, s.os⟩ :=
  St.frame H hg ho (H.ok.put e hn hn' hs hc) (fun b hb => hs.2 b fun z => (H.apart b hb).1 (.inl ⟨o, z ▸ e⟩)) fun b hb q => (H.apart b hb).1 ((cov_upd_same e hn hn' b).mp q)
theorem St.putF {m ψ h'} (H : StC C fz ρ φ m ψ s.heap) (hg : s.gens = C.W.gens) (ho : s.os = C.W.os) {a D : Addr} {fs fs' : List (Str × AV)} (e : φ a = some (.inst D fs)) (hs : Heap.SameBut (ψ a) s.heap h') (hc : Cell C.W.prog C.W.w h' ψ a (.inst D fs')) {d : Drawn} {t : Nat} :
    St C fz ρ (upd φ a (.inst D fs')) ⟨h', s.gens, d, t, s.os⟩ :=
  St.frame H hg ho (H.ok.putF e hs hc) (fun b hb => hs.2 b fun z => (H.apart b hb).1 (.inr ⟨a, D, fs, e, z.symm⟩)) fun b hb q => (H.apart b hb).1 ((cov_upd_inst e b).mp q)
theorem St.new {m ψ h'} (H : StC C fz ρ φ m ψ s.heap) (hg : s.gens = C.W.gens) (ho : s.os = C.W.os) {a : Addr} {o' : AO} (hn' : o'.notInst) (ha : s.heap.objs.size ≤ a) (hk : ∀ b o, s.heap.get? b = some o → h'.get? b = some o) (hc : Cell C.W.prog C.W.w h' ψ a o') {d : Drawn} {t : Nat} :
    φ a = none ∧ St C fz ρ (upd φ a o') ⟨h', s.gens, d, t, s.os⟩ := by
  have e := old_none ha
  refine ⟨(H.ok.none_of e).1, St.frame H hg ho (H.ok.new hn' (Nat.le_trans H.low ha) e hk hc) (fun b hb => by obtain ⟨o, q⟩ := H.old hb; rw [hk _ _ q, q]) ?_⟩
  rintro b hb (⟨x, z⟩ | ⟨c, D, gs, z, y⟩)
  · by_cases q : b = a
    · obtain ⟨o, w⟩ := H.old hb; rw [q, e] at w; cases w
    · rw [upd_ne q] at z; exact (H.apart b hb).1 (.inl ⟨_, z⟩)
  · by_cases q : c = a
    · subst q; rw [upd_self] at z; injection z with z; subst z; exact hn'.elim
    · rw [upd_ne q] at z; exact (H.apart b hb).1 (.inr ⟨c, D, gs, z, y⟩)
theorem StC.newInst {m ψ h h'} (H : StC C fz ρ φ m ψ h) {a d D : Addr} {fs : List (Str × AV)} (ha : h.objs.size ≤ a) (hd : h.objs.size ≤ d) (hne : a ≠ d) (hk : ∀ b o, h.get? b = some o → h'.get? b = some o)
    (hc : Cell C.W.prog C.W.w h' (fun b => if b = a then d else ψ b) a (.inst D fs)) :
    φ a = none ∧ StC C fz ρ (upd φ a (.inst D fs)) m (fun b => if b = a then d else ψ b) h' := by
  have e := old_none ha
  have e2 := old_none hd
  refine ⟨(H.ok.none_of e).1, H.frame (H.ok.newInst (Nat.le_trans H.low ha) (Nat.le_trans H.low hd) e e2 hne hk hc) (fun b hb => by obtain ⟨o, q⟩ := H.old hb; rw [hk _ _ q, q]) ?_⟩
  rintro b hb (⟨x, z⟩ | ⟨c, K, gs, z, y⟩)
  · by_cases q : b = a
    · obtain ⟨o, w⟩ := H.old hb; rw [q, e] at w; cases w
    · rw [upd_ne q] at z; exact (H.apart b hb).1 (.inl ⟨_, z⟩)
  · dsimp only at y
    by_cases q : c = a
    · rw [if_pos q] at y; obtain ⟨o, w⟩ := H.old hb; rw [← y, e2] at w; cases w
    · rw [upd_ne q] at z; rw [if_neg q] at y; exact (H.apart b hb).1 (.inr ⟨c, K, gs, z, y⟩)
end

section
variable {C : FC} {ρ : Loc} {φ : AH} {α β γ δ : Type}

theorem WPx.bind {t : Sem α} {k : α → Sem γ} {r₁ : β → α → Prop} {r₂ : δ → γ → Prop} {Q : δ → AH → Prop}
    (h : WPx C t r₁ ρ φ fun b φ' => ∀ v, r₁ b v → WPx C (k v) r₂ ρ φ' Q) : WPx C (t >>= k) r₂ ρ φ Q := by
  intro fz s S
  refine wpAny_bind (wpAny_mono (h fz s S) (fun v s' => ?_) fun _ _ x => x)
  rintro ⟨b, φ', hr, S', q⟩
  exact q v hr fz s' S'
theorem WPx.pure {v : α} {r : β → α → Prop} {Q : β → AH → Prop} {b : β} (hr : r b v) (q : Q b φ) : WPx C (Pure.pure v) r ρ φ Q :=
  fun _ _ S => wpAny_pure ⟨b, φ, hr, S, q⟩
theorem WPx.mono {t : Sem α} {r : β → α → Prop} {Q Q' : β → AH → Prop} (h : WPx C t r ρ φ Q) (k : ∀ b φ', Q b φ' → Q' b φ') : WPx C t r ρ φ Q' := by
  intro fz s S
  refine wpAny_mono (h fz s S) (fun v s' => ?_) fun _ _ x => x
  rintro ⟨b, φ', hr, S', q⟩
  exact ⟨b, φ', hr, S', k _ _ q⟩
/-- from a rule of the library's that goes on from one tree to the next -/
theorem WPx.of {t : Sem α} {r : β → α → Prop} {Q : β → AH → Prop}
    (h : ∀ fz s m ψ, StC C fz ρ φ m ψ s.heap → s.gens = C.W.gens → s.os = C.W.os → wpAny C.M C.A t (PW C r fz ρ Q) NoE s) : WPx C t r ρ φ Q := by
  rintro fz s ⟨⟨m, ψ, H⟩, g, o⟩
  exact h fz s m ψ H g o
end
end Mine

open PySem PySem.W PyProof.Rows PySem.Calls
set_option Elab.async false
set_option maxRecDepth 100000
set_option linter.unusedVariables false
namespace Mine

section
variable {C : FC} {ρ : Loc} {φ : AH} {n : Nat} {Q : AV → AH → Prop} {B : Bool → AH → Prop}

theorem St.mk' {fz : Addr → Option Obj} {m ψ} {s : Shared} (H : StC C fz ρ φ m ψ s.heap) (g : s.gens = C.W.gens) (o : s.os = C.W.os) {d : Drawn} {t : Nat} : St C fz ρ φ ⟨s.heap, s.gens, d, t, s.os⟩ := ⟨⟨m, ψ, H⟩, g, o⟩

theorem ev_local {x : Str} {pos : Pos} {v : AV} (hv : ρ.lookup x = some v) (q : Q v φ) (G : Gd C n := by assumption) (hx : C.env.kindOf x = some .local := by with_unfolding_all rfl)
    (hc : C.cl.lookup x = none := by with_unfolding_all rfl) (hd : (x == ("__debug__" : Str)) = false := by decide) : EV C (eval (.Name x pos) C.env) ρ φ Q :=
  WPx.of fun fz s m ψ H g o => by
    obtain ⟨u, hu, hi⟩ := H.loc x v hv hc
    exact wpAny_Name (wpAny_loadName_local G.fn hx H.fr.ns hu ⟨v, φ, hi, St.mk' H g o, q⟩) hd
theorem ev_cell {x : Str} {pos : Pos} {v : AV} {c : Addr} (hv : ρ.lookup x = some v) (hc : C.cl.lookup x = some c) (q : Q v φ) (G : Gd C n := by assumption) (hx : C.env.kindOf x = some .cell := by with_unfolding_all rfl)
    (hd : (x == ("__debug__" : Str)) = false := by decide) : EV C (eval (.Name x pos) C.env) ρ φ Q :=
  WPx.of fun fz s m ψ H g o => by
    obtain ⟨u, hu, hi⟩ := H.cel x v c hv hc
    exact wpAny_Name (wpAny_loadName_cell G.fn hx hc hu ⟨v, φ, hi, St.mk' H g o, q⟩) hd
theorem ev_free {x : Str} {pos : Pos} {v : AV} {c : Addr} (hv : ρ.lookup x = some v) (hc : C.cl.lookup x = some c) (q : Q v φ) (G : Gd C n := by assumption) (hx : C.env.kindOf x = some .free := by with_unfolding_all rfl)
    (hd : (x == ("__debug__" : Str)) = false := by decide) (hn : (x == ("__classdict__" : Str)) = false := by decide) : EV C (eval (.Name x pos) C.env) ρ φ Q :=
  WPx.of fun fz s m ψ H g o => by
    obtain ⟨u, hu, hi⟩ := H.cel x v c hv hc
    exact wpAny_Name (wpAny_loadName_free G.fn hx hc hu ⟨v, φ, hi, St.mk' H g o, q⟩ hn) hd
theorem ev_global {x : Str} {pos : Pos} {a : Addr} (e : nsIn C.W.K mainGlobals x = some (some (.ref a))) (q : Q (.ref a) φ) (G : Gd C n := by assumption) (hx : C.env.kindOf x = some .globalImplicit := by with_unfolding_all rfl)
    (hd : (x == ("__debug__" : Str)) = false := by decide) : EV C (eval (.Name x pos) C.env) ρ φ Q :=
  WPx.of fun fz s m ψ H g o => Name_function_global G.fn hx (loadGlobal_global (env := C.env) (by rw [G.gl]; exact G.ok.T.g.keeps H.fr.keep) (mg_of G.ok.X G.ok.T.g e) ⟨.ref a, φ, rfl, St.mk' H g o, q⟩) hd
theorem ev_builtin {x : Str} {pos : Pos} {v : Value} (e : nsIn C.W.K mainGlobals x = some none) (hv : bootBuiltins x = some v) (hn : x ≠ "__name__") (q : Q (.raw v) φ) (G : Gd C n := by assumption)
    (hx : C.env.kindOf x = some .globalImplicit := by with_unfolding_all rfl) (hd : (x == ("__debug__" : Str)) = false := by decide) : EV C (eval (.Name x pos) C.env) ρ φ Q :=
  WPx.of fun fz s m ψ H g o => Name_function_global G.fn hx (loadGlobal_builtin (env := C.env) (by rw [G.gl]; exact G.ok.T.g.keeps H.fr.keep) (mg_none_of G.ok.X G.ok.T.g e) (by rw [G.bi]; exact G.ok.T.b.keeps H.fr.keep) ((G.ok.T.builtins x hn).trans hv) ⟨.raw v, φ, rfl, St.mk' H g o, q⟩) hd

theorem ev_int {i : Int} {k : Nat} {pos : Pos} (q : Q (.int i) φ) : EV C (eval (.Constant (.int i) k pos) C.env) ρ φ Q :=
  WPx.of fun fz s m ψ H g o => wpAny_Constant_int ⟨.int i, φ, ⟨_, rfl⟩, St.mk' H g o, q⟩
theorem ev_str {x : Str} {k : Nat} {pos : Pos} (q : Q (.str x) φ) : EV C (eval (.Constant (.str x) k pos) C.env) ρ φ Q :=
  WPx.of fun fz s m ψ H g o => Calls.Constant_str ⟨.str x, φ, ⟨_, rfl⟩, St.mk' H g o, q⟩
theorem ev_bool {b : Bool} {k : Nat} {pos : Pos} (q : Q (.bool b) φ) : EV C (eval (.Constant (.bool b) k pos) C.env) ρ φ Q :=
  WPx.of fun fz s m ψ H g o => Constant_bool ⟨.bool b, φ, rfl, St.mk' H g o, q⟩
theorem ev_none {k : Nat} {pos : Pos} (q : Q .none φ) : EV C (eval (.Constant .none k pos) C.env) ρ φ Q :=
  WPx.of fun fz s m ψ H g o => Constant_none ⟨.none, φ, rfl, St.mk' H g o, q⟩

/-- a rule of two trees, one behind the other -/
theorem WPx.two {α β γ δ : Type} {t : Sem α} {k : α → Sem γ} {t' : Sem γ} {r₁ : β → α → Prop} {r₂ : δ → γ → Prop} {R : δ → AH → Prop}
    (rule : ∀ {A : Around} {E : Value → Shared → Prop} {s : Shared} {Q : γ → Shared → Prop}, wpAny C.M A t (fun a s₁ => wpAny C.M A (k a) Q E s₁) E s → wpAny C.M A t' Q E s)
    (h : WPx C t r₁ ρ φ fun b φ' => ∀ v, r₁ b v → WPx C (k v) r₂ ρ φ' R) : WPx C t' r₂ ρ φ R := by
  intro fz s S
  refine rule (wpAny_mono (h fz s S) (fun v s' => ?_) fun _ _ x => x)
  rintro ⟨b, φ', hr, S', q⟩
  exact q v hr fz s' S'
theorem WPx.three {α β γ δ η θ : Type} {t : Sem α} {k : α → Sem γ} {l : α → γ → Sem η} {t' : Sem η} {r₁ : β → α → Prop} {r₂ : δ → γ → Prop} {r₃ : θ → η → Prop} {R : θ → AH → Prop}
    (rule : ∀ {A : Around} {E : Value → Shared → Prop} {s : Shared} {Q : η → Shared → Prop}, wpAny C.M A t (fun a s₁ => wpAny C.M A (k a) (fun b s₂ => wpAny C.M A (l a b) Q E s₂) E s₁) E s → wpAny C.M A t' Q E s)
    (h : WPx C t r₁ ρ φ fun b φ' => ∀ v, r₁ b v → WPx C (k v) r₂ ρ φ' fun c φ'' => ∀ u, r₂ c u → WPx C (l v u) r₃ ρ φ'' R) : WPx C t' r₃ ρ φ R := by
  intro fz s S
  refine rule (wpAny_mono (h fz s S) (fun v s' => ?_) fun _ _ x => x)
  rintro ⟨b, φ', hr, S', q⟩
  refine wpAny_mono (q v hr fz s' S') (fun u s'' => ?_) fun _ _ x => x
  rintro ⟨c, φ'', hr', S'', q'⟩
  exact q' u hr' fz s'' S''

def Bin (C : FC) (ρ : Loc) (op : Operator) (a b : AV) (φ : AH) (Q : AV → AH → Prop) : Prop := ∀ u v, a.is u → b.is v → EV C (binaryOp op u v) ρ φ Q
def Inp (C : FC) (ρ : Loc) (op : Operator) (a b : AV) (φ : AH) (Q : AV → AH → Prop) : Prop := ∀ u v, a.is u → b.is v → EV C (inplaceOp op u v) ρ φ Q
def Cmp (C : FC) (ρ : Loc) (op : CmpOp) (a b : AV) (φ : AH) (Q : AV → AH → Prop) : Prop := ∀ u v, a.is u → b.is v → EV C (compareOp op u v) ρ φ Q
def Una (C : FC) (ρ : Loc) (op : UnaryOp) (a : AV) (φ : AH) (Q : AV → AH → Prop) : Prop := ∀ u, a.is u → EV C (unaryOp op u) ρ φ Q
def Tru (C : FC) (ρ : Loc) (a : AV) (φ : AH) (Q : Bool → AH → Prop) : Prop := ∀ u, a.is u → EB C (truthy u) ρ φ Q
def Att (C : FC) (ρ : Loc) (a : AV) (x : Str) (φ : AH) (Q : AV → AH → Prop) : Prop := ∀ u, a.is u → EV C (getAttr u x true) ρ φ Q
def SubT (C : FC) (ρ : Loc) (e i : Expr) (a b : AV) (φ : AH) (Q : AV → AH → Prop) : Prop := ∀ u v, a.is u → b.is v → EV C (subscriptTail e i u v) ρ φ Q
def Itm (C : FC) (ρ : Loc) (a b : AV) (φ : AH) (Q : AV → AH → Prop) : Prop := ∀ u v, a.is u → b.is v → EV C (getItem u v) ρ φ Q
def Cal (C : FC) (ρ : Loc) (f : AV) (as : List AV) (φ : AH) (Q : AV → AH → Prop) : Prop := ∀ u vs, f.is u → AreV as vs → EV C (call u vs) ρ φ Q

theorem ev_binop {l r : Expr} {op : Operator} {pos : Pos} (h : EV C (eval l C.env) ρ φ fun a φ₁ => EV C (eval r C.env) ρ φ₁ fun b φ₂ => Bin C ρ op a b φ₂ Q) : EV C (eval (.BinOp l op r pos) C.env) ρ φ Q :=
  WPx.three (fun x => wpAny_BinOp x) (h.mono fun a φ₁ h₁ v hv => h₁.mono fun b φ₂ h₂ u hu => h₂ v u hv hu)
theorem ev_cmp {l r : Expr} {op : CmpOp} {pos : Pos} (h : EV C (eval l C.env) ρ φ fun a φ₁ => EV C (eval r C.env) ρ φ₁ fun b φ₂ => Cmp C ρ op a b φ₂ Q) (hm : behindInMarks op r = false := by with_unfolding_all rfl) :
    EV C (eval (.Compare l [op] [r] pos) C.env) ρ φ Q :=
  WPx.three (fun x => wpAny_Compare1 x hm) (h.mono fun a φ₁ h₁ v hv => h₁.mono fun b φ₂ h₂ u hu => h₂ v u hv hu)
theorem ev_una {e : Expr} {op : UnaryOp} {pos : Pos} (h : EV C (eval e C.env) ρ φ fun a φ₁ => Una C ρ op a φ₁ Q) : EV C (eval (.UnaryOp op e pos) C.env) ρ φ Q :=
  WPx.two (fun x => UnaryOp_ x) (h.mono fun a φ₁ h₁ v hv => h₁ v hv)
theorem ev_attr {e : Expr} {x : Str} {pos : Pos} (h : EV C (eval e C.env) ρ φ fun a φ₁ => Att C ρ a x φ₁ Q)
    (he : eval (.Attribute e x pos) C.env = (do
      let o ← eval e C.env
      standAt pos.atName
      let r ← holding [o] (getAttr o x true)
      letTemporaryGo e o r
      pure r) := by with_unfolding_all rfl) : EV C (eval (.Attribute e x pos) C.env) ρ φ Q :=
  WPx.two (fun y => Attribute_any_ y he) (h.mono fun a φ₁ h₁ v hv => h₁ v hv)
theorem ev_sub {e i : Expr} {pos : Pos} (h : EV C (eval e C.env) ρ φ fun a φ₁ => EV C (eval i C.env) ρ φ₁ fun b φ₂ => SubT C ρ e i a b φ₂ Q) : EV C (eval (.Subscript e i pos) C.env) ρ φ Q :=
  WPx.three (fun x => Subscript_ x) (h.mono fun a φ₁ h₁ v hv => h₁.mono fun b φ₂ h₂ u hu => h₂ v u hv hu)

/-- tests -/
theorem eb_plain {e : Expr} {whole : Sem Value} (h : EV C whole ρ φ fun a φ₁ => Tru C ρ a φ₁ B)
    (he : PySem.isTrue e C.env whole = (do
      let v ← whole
      standAt e.pos
      holding [v] (truthy v)) := by with_unfolding_all rfl) : EB C (PySem.isTrue e C.env whole) ρ φ B :=
  WPx.two (fun x => isTrue_plain x he) (h.mono fun a φ₁ h₁ v hv => h₁ v hv)
theorem eb_cmp {l r : Expr} {op : CmpOp} {pos : Pos} {whole : Sem Value} (h : EV C (eval l C.env) ρ φ fun a φ₁ => EV C (eval r C.env) ρ φ₁ fun b φ₂ => Cmp C ρ op a b φ₂ fun c φ₃ => Tru C ρ c φ₃ B)
    (hm : behindInMarks op r = false := by with_unfolding_all rfl) : EB C (PySem.isTrue (.Compare l [op] [r] pos) C.env whole) ρ φ B := by
  intro fz s S
  refine wpAny_isTrue_Compare1 (wpAny_mono (h fz s S) (fun v s' => ?_) fun _ _ x => x) hm
  rintro ⟨b, φ', hr, S', q⟩
  refine wpAny_mono (q fz s' S') (fun u s'' => ?_) fun _ _ x => x
  rintro ⟨c, φ'', hr', S'', q'⟩
  refine wpAny_mono (q' v u hr hr' fz s'' S'') (fun u s'' => ?_) fun _ _ x => x
  rintro ⟨d, φ₃, hr₃, S₃, q₃⟩
  exact q₃ u hr₃ fz s'' S₃
theorem eb_not {e : Expr} {pos : Pos} {whole : Sem Value} (h : EB C (PySem.isTrue e C.env (eval e C.env)) ρ φ fun b φ₁ => B (!b) φ₁) : EB C (PySem.isTrue (.UnaryOp .Not e pos) C.env whole) ρ φ B := by
  intro fz s S
  refine isTrue_not (wpAny_mono (h fz s S) (fun v s' => ?_) fun _ _ x => x)
  rintro ⟨b, φ', rfl, S', q⟩
  exact ⟨_, φ', rfl, S', q⟩
theorem eb_and_nil {pos : Pos} {whole : Sem Value} (h : B true φ) : EB C (PySem.isTrue (.BoolOp .And [] pos) C.env whole) ρ φ B := fun fz s S => isTrue_and_nil ⟨true, φ, rfl, S, h⟩
theorem eb_or_nil {pos : Pos} {whole : Sem Value} (h : B false φ) : EB C (PySem.isTrue (.BoolOp .Or [] pos) C.env whole) ρ φ B := fun fz s S => isTrue_or_nil ⟨false, φ, rfl, S, h⟩
theorem eb_and {e : Expr} {rest : List Expr} {pos : Pos} {whole : Sem Value}
    (h : EB C (PySem.isTrue e C.env (eval e C.env)) ρ φ fun b φ₁ => (b = true → EB C (PySem.isTrue (.BoolOp .And rest pos) C.env whole) ρ φ₁ B) ∧ (b = false → B false φ₁)) : EB C (PySem.isTrue (.BoolOp .And (e :: rest) pos) C.env whole) ρ φ B := by
  intro fz s S
  refine isTrue_and (wpAny_mono (h fz s S) (fun v s' => ?_) fun _ _ x => x)
  rintro ⟨b, φ', rfl, S', q⟩
  cases b with
  | true => rw [if_pos rfl]; exact q.1 rfl fz s' S'
  | false => rw [if_neg (by simp)]; exact ⟨false, φ', rfl, S', q.2 rfl⟩
theorem eb_or {e : Expr} {rest : List Expr} {pos : Pos} {whole : Sem Value}
    (h : EB C (PySem.isTrue e C.env (eval e C.env)) ρ φ fun b φ₁ => (b = true → B true φ₁) ∧ (b = false → EB C (PySem.isTrue (.BoolOp .Or rest pos) C.env whole) ρ φ₁ B)) : EB C (PySem.isTrue (.BoolOp .Or (e :: rest) pos) C.env whole) ρ φ B := by
  intro fz s S
  refine isTrue_or (wpAny_mono (h fz s S) (fun v s' => ?_) fun _ _ x => x)
  rintro ⟨b, φ', rfl, S', q⟩
  cases b with
  | true => rw [if_pos rfl]; exact ⟨true, φ', rfl, S', q.1 rfl⟩
  | false => rw [if_neg (by simp)]; exact q.2 rfl fz s' S'

/-- and, or as values -/
theorem ev_and {e₁ e₂ : Expr} {rest : List Expr} {pos : Pos}
    (h : EV C (eval e₁ C.env) ρ φ fun a φ₁ => Tru C ρ a φ₁ fun b φ₂ => (b = true → EV C (eval (.BoolOp .And (e₂ :: rest) pos) C.env) ρ φ₂ Q) ∧ (b = false → Q a φ₂)) : EV C (eval (.BoolOp .And (e₁ :: e₂ :: rest) pos) C.env) ρ φ Q := by
  intro fz s S
  refine BoolOp_and (wpAny_mono (h fz s S) (fun v s' => ?_) fun _ _ x => x)
  rintro ⟨a, φ', hr, S', q⟩
  refine wpAny_mono (q v hr fz s' S') (fun c s'' => ?_) fun _ _ x => x
  rintro ⟨b, φ'', rfl, S'', q'⟩
  cases b with
  | true => rw [if_pos rfl]; exact q'.1 rfl fz s'' S''
  | false => rw [if_neg (by simp)]; exact ⟨a, φ'', hr, S'', q'.2 rfl⟩
theorem ev_or {e₁ e₂ : Expr} {rest : List Expr} {pos : Pos}
    (h : EV C (eval e₁ C.env) ρ φ fun a φ₁ => Tru C ρ a φ₁ fun b φ₂ => (b = true → Q a φ₂) ∧ (b = false → EV C (eval (.BoolOp .Or (e₂ :: rest) pos) C.env) ρ φ₂ Q)) : EV C (eval (.BoolOp .Or (e₁ :: e₂ :: rest) pos) C.env) ρ φ Q := by
  intro fz s S
  refine BoolOp_or (wpAny_mono (h fz s S) (fun v s' => ?_) fun _ _ x => x)
  rintro ⟨a, φ', hr, S', q⟩
  refine wpAny_mono (q v hr fz s' S') (fun c s'' => ?_) fun _ _ x => x
  rintro ⟨b, φ'', rfl, S'', q'⟩
  cases b with
  | true => rw [if_pos rfl]; exact ⟨a, φ'', hr, S'', q'.1 rfl⟩
  | false => rw [if_neg (by simp)]; exact q'.2 rfl fz s'' S''
theorem ev_bool_one {op : BoolOp} {e : Expr} {pos : Pos} (h : EV C (eval e C.env) ρ φ Q) : EV C (eval (.BoolOp op [e] pos) C.env) ρ φ Q := fun fz s S => BoolOp_one (h fz s S)
theorem ev_ifexp {test body orelse : Expr} {pos : Pos}
    (h : EB C (PySem.isTrue test C.env (eval test C.env)) ρ φ fun b φ₁ => (b = true → EV C (eval body C.env) ρ φ₁ Q) ∧ (b = false → EV C (eval orelse C.env) ρ φ₁ Q)) : EV C (eval (.IfExp test body orelse pos) C.env) ρ φ Q := by
  intro fz s S
  refine IfExp_ (wpAny_mono (h fz s S) (fun v s' => ?_) fun _ _ x => x)
  rintro ⟨b, φ', rfl, S', q⟩
  cases b with
  | true => rw [if_pos rfl]; exact q.1 rfl fz s' S'
  | false => rw [if_neg (by simp)]; exact q.2 rfl fz s' S'

/-- what is known of ints -/
theorem bin_add {a b : Int} (q : Q (.int (a + b)) φ) : Bin C ρ .Add (.int a) (.int b) φ Q := by
  rintro _ _ ⟨t, rfl⟩ ⟨u, rfl⟩; exact WPx.of fun fz s m ψ H g o => add_int ⟨.int _, φ, ⟨_, rfl⟩, St.mk' H g o, q⟩
theorem bin_sub {a b : Int} (q : Q (.int (a - b)) φ) : Bin C ρ .Sub (.int a) (.int b) φ Q := by
  rintro _ _ ⟨t, rfl⟩ ⟨u, rfl⟩; exact WPx.of fun fz s m ψ H g o => sub_int ⟨.int _, φ, ⟨_, rfl⟩, St.mk' H g o, q⟩
theorem bin_mod {a b : Int} (hb : b ≠ 0) (q : Q (.int (a.fmod b)) φ) : Bin C ρ .Mod (.int a) (.int b) φ Q := by
  rintro _ _ ⟨t, rfl⟩ ⟨u, rfl⟩; exact WPx.of fun fz s m ψ H g o => mod_int' hb ⟨.int _, φ, ⟨_, rfl⟩, St.mk' H g o, q⟩
theorem inp_add {a b : Int} (q : Q (.int (a + b)) φ) : Inp C ρ .Add (.int a) (.int b) φ Q := by
  rintro _ _ ⟨t, rfl⟩ ⟨u, rfl⟩; exact WPx.of fun fz s m ψ H g o => iadd_int ⟨.int _, φ, ⟨_, rfl⟩, St.mk' H g o, q⟩
theorem cmp_eq {a b : Int} (q : Q (.bool (a == b)) φ) : Cmp C ρ .Eq (.int a) (.int b) φ Q := by
  rintro _ _ ⟨t, rfl⟩ ⟨u, rfl⟩; exact WPx.of fun fz s m ψ H g o => eq_int ⟨.bool _, φ, rfl, St.mk' H g o, q⟩
theorem cmp_ne {a b : Int} (q : Q (.bool (a != b)) φ) : Cmp C ρ .NotEq (.int a) (.int b) φ Q := by
  rintro _ _ ⟨t, rfl⟩ ⟨u, rfl⟩; exact WPx.of fun fz s m ψ H g o => ne_int ⟨.bool _, φ, rfl, St.mk' H g o, q⟩
theorem cmp_lt {a b : Int} (q : Q (.bool (decide (a < b))) φ) : Cmp C ρ .Lt (.int a) (.int b) φ Q := by
  rintro _ _ ⟨t, rfl⟩ ⟨u, rfl⟩; exact WPx.of fun fz s m ψ H g o => lt_int ⟨.bool _, φ, rfl, St.mk' H g o, q⟩
theorem cmp_le {a b : Int} (q : Q (.bool (decide (a ≤ b))) φ) : Cmp C ρ .LtE (.int a) (.int b) φ Q := by
  rintro _ _ ⟨t, rfl⟩ ⟨u, rfl⟩; exact WPx.of fun fz s m ψ H g o => le_int ⟨.bool _, φ, rfl, St.mk' H g o, q⟩
theorem cmp_gt {a b : Int} (q : Q (.bool (decide (b < a))) φ) : Cmp C ρ .Gt (.int a) (.int b) φ Q := by
  rintro _ _ ⟨t, rfl⟩ ⟨u, rfl⟩; exact WPx.of fun fz s m ψ H g o => gt_int ⟨.bool _, φ, rfl, St.mk' H g o, q⟩
theorem cmp_ge {a b : Int} (q : Q (.bool (decide (b ≤ a))) φ) : Cmp C ρ .GtE (.int a) (.int b) φ Q := by
  rintro _ _ ⟨t, rfl⟩ ⟨u, rfl⟩; exact WPx.of fun fz s m ψ H g o => ge_int ⟨.bool _, φ, rfl, St.mk' H g o, q⟩
theorem cmp_eqB {a b : Bool} (q : Q (.bool (a == b)) φ) : Cmp C ρ .Eq (.bool a) (.bool b) φ Q := by
  rintro _ _ rfl rfl; exact WPx.of fun fz s m ψ H g o => eq_bool ⟨.bool _, φ, rfl, St.mk' H g o, q⟩
theorem cmp_neB {a b : Bool} (q : Q (.bool (a != b)) φ) : Cmp C ρ .NotEq (.bool a) (.bool b) φ Q := by
  rintro _ _ rfl rfl; exact WPx.of fun fz s m ψ H g o => ne_bool ⟨.bool _, φ, rfl, St.mk' H g o, q⟩
theorem cmp_eqS {a b : Str} (q : Q (.bool (a == b)) φ) : Cmp C ρ .Eq (.str a) (.str b) φ Q := by
  rintro _ _ ⟨t, rfl⟩ ⟨u, rfl⟩; exact WPx.of fun fz s m ψ H g o => eq_str ⟨.bool _, φ, rfl, St.mk' H g o, q⟩
theorem cmp_neS {a b : Str} (q : Q (.bool (a != b)) φ) : Cmp C ρ .NotEq (.str a) (.str b) φ Q := by
  rintro _ _ ⟨t, rfl⟩ ⟨u, rfl⟩; exact WPx.of fun fz s m ψ H g o => ne_str ⟨.bool _, φ, rfl, St.mk' H g o, q⟩
noncomputable def AV.isNone : AV → Bool
  | .none => true
  | .raw v => v == .none
  | _ => false
theorem AV.isNone_eq {a : AV} {v : Value} (h : a.is v) : (v == Value.none) = a.isNone := by
  cases a with
  | none => cases h; rfl
  | bool b => cases h; rfl
  | int i => obtain ⟨t, rfl⟩ := h; rfl
  | str s => obtain ⟨t, rfl⟩ := h; rfl
  | ref a => cases h; rfl
  | raw w => cases h; rfl
theorem cmp_isNone {a : AV} (q : Q (.bool a.isNone) φ) : Cmp C ρ .Is a .none φ Q := by
  rintro u _ hu rfl
  refine WPx.of fun fz s m ψ H g o => is_none ⟨.bool _, φ, rfl, St.mk' H g o, ?_⟩
  rw [AV.isNone_eq hu]; exact q
theorem una_neg {a : Int} (q : Q (.int (-a)) φ) : Una C ρ .USub (.int a) φ Q := by
  rintro _ ⟨t, rfl⟩; exact WPx.of fun fz s m ψ H g o => neg_int ⟨.int _, φ, ⟨_, rfl⟩, St.mk' H g o, q⟩
theorem una_not {a : AV} (h : Tru C ρ a φ fun b φ₁ => Q (.bool (!b)) φ₁) : Una C ρ .Not a φ Q := by
  intro u hu fz s S
  refine not_of (wpAny_mono (h u hu fz s S) (fun v s' => ?_) fun _ _ x => x)
  rintro ⟨b, φ', rfl, S', q⟩
  exact ⟨.bool _, φ', rfl, S', q⟩
theorem tru_bool {b : Bool} (q : B b φ) : Tru C ρ (.bool b) φ B := by rintro _ rfl; exact WPx.of fun fz s m ψ H g o => wpAny_truthy_bool ⟨b, φ, rfl, St.mk' H g o, q⟩
theorem tru_int {a : Int} (q : B (a != 0) φ) : Tru C ρ (.int a) φ B := by rintro _ ⟨t, rfl⟩; exact WPx.of fun fz s m ψ H g o => truthy_int ⟨_, φ, rfl, St.mk' H g o, q⟩
end
end Mine

open PySem PySem.W PyProof.Rows PySem.Calls
set_option Elab.async false
set_option maxRecDepth 100000
set_option linter.unusedVariables false
namespace Mine

/-- a class whose objects bear their own dict and nothing else -/
structure ClsOk (K : Frag) (D : Addr) : Prop where
  pg : ∀ x, plainGet K D x = true
  hd : hasDictIn K D = true
  sa : findIn K (.ref D) "__setattr__" = some (some (.builtin "object.__setattr__"))
  po : plainOver K D = true
/-- a name that is no member of the class -/
structure FldOk (K : Frag) (D : Addr) (x : Str) : Prop where
  fi : findIn K (.ref D) x = some none
  ta : takerIn K D x = some none

def AV.handed : AV → Prop
  | .raw v => handedIn v = true
  | _ => True
theorem AV.handed_in {a : AV} {v : Value} (h : a.handed) (hv : a.is v) : handedIn v = true := by
  cases a with
  | none => cases hv; rfl
  | bool b => cases hv; rfl
  | int i => obtain ⟨t, rfl⟩ := hv; rfl
  | str s => obtain ⟨t, rfl⟩ := hv; rfl
  | ref a => cases hv; rfl
  | raw w => cases hv; exact h

theorem Fields.get {fs : List (Str × AV)} {es : List DictEntry} (h : Fields fs es) {x : Str} {v : AV} (e : fs.lookup x = some v) : ∃ u, getL x es = some (some u) ∧ v.is u := by
  induction h with
  | nil => cases e
  | @cons p en fs es hr _ ih =>
    obtain ⟨y, w⟩ := p
    obtain ⟨⟨t, hk⟩, hv⟩ := hr
    rw [List.lookup_cons] at e
    have hs : en.key.isStr x = (y == x) := by rw [hk]; rfl
    by_cases q : (x == y) = true
    · rw [q] at e
      cases e
      have q' : (y == x) = true := by rw [beq_iff_eq.mp q]; exact beq_self_eq_true y
      exact ⟨en.val, by unfold getL; rw [List.find?_cons, hs, q'], hv⟩
    · have q0 : (x == y) = false := by simpa using q
      rw [q0] at e
      obtain ⟨u, hu, hi⟩ := ih e
      refine ⟨u, ?_, hi⟩
      have q' : (y == x) = false := by
        cases z : (y == x) with
        | false => rfl
        | true => rw [beq_iff_eq.mp z] at q0; simp at q0
      unfold getL at hu ⊢
      rw [List.find?_cons, hs, q']
      dsimp only
      split at hu
      · rename_i e' he'; rw [he']; exact hu
      · split at hu <;> cases hu
theorem Fields.none {fs : List (Str × AV)} {es : List DictEntry} (h : Fields fs es) {x : Str} (e : fs.lookup x = Option.none) : getL x es = some Option.none := by
  have key : es.find? (fun e => e.key.isStr x) = Option.none ∧ es.any (·.refKey) = false := by
    induction h with
    | nil => exact ⟨rfl, rfl⟩
    | @cons p en fs es hr _ ih =>
      obtain ⟨y, w⟩ := p
      obtain ⟨⟨t, hk⟩, hv⟩ := hr
      rw [List.lookup_cons] at e
      by_cases q : (x == y) = true
      · rw [q] at e; cases e
      · have q0 : (x == y) = false := by simpa using q
        rw [q0] at e
        obtain ⟨h1, h2⟩ := ih e
        have q' : (y == x) = false := by
          cases z : (y == x) with
          | false => rfl
          | true => rw [beq_iff_eq.mp z] at q0; simp at q0
        have hs : en.key.isStr x = (y == x) := by rw [hk]; rfl
        refine ⟨by rw [List.find?_cons, hs, q']; exact h1, ?_⟩
        rw [List.any_cons, h2, Bool.or_false]
        unfold DictEntry.refKey
        rw [hk]
  unfold getL
  rw [key.1, key.2]; rfl
noncomputable def setF (x : Str) (v : AV) : List (Str × AV) → List (Str × AV)
  | [] => [(x, v)]
  | p :: r => if p.1 == x then (p.1, v) :: r else p :: setF x v r
theorem setF_length (x : Str) (v : AV) : ∀ fs, (setF x v fs).length ≤ fs.length + 1
  | [] => Nat.le_refl _
  | p :: r => by
    unfold setF
    split
    · simp
    · have := setF_length x v r; simp; omega
theorem Fields.put {fs : List (Str × AV)} {es : List DictEntry} (h : Fields fs es) {x : Str} {v : AV} {u : Value} {hsh : Int} {t : Tok} (hv : v.is u) : Fields (setF x v fs) (putL x hsh (.str x t) u es) := by
  induction h with
  | nil => exact .cons ⟨⟨t, rfl⟩, hv⟩ .nil
  | @cons p en fs es hr tl ih =>
    obtain ⟨y, w⟩ := p
    obtain ⟨⟨t', hk⟩, hv'⟩ := hr
    have hs : en.key.isStr x = (y == x) := by rw [hk]; rfl
    unfold setF putL
    rw [hs]
    by_cases q : (y == x) = true
    · rw [if_pos q, if_pos q]; exact .cons ⟨⟨t', hk⟩, hv⟩ tl
    · rw [if_neg q, if_neg q]; exact .cons ⟨⟨t', hk⟩, hv'⟩ ih

section
variable {prog : Program} {w : World} {A : Around} {K : Frag} {C x : Addr} {s : Shared} {R : Result → Shared → Prop}
theorem osa_same {ox : Obj} {dx : Addr} {name : Str} {tk : Tok} {v : Value} {es : List DictEntry} {n : Nat} (X : K.In s.heap)
    (I : W.InstAt s.heap x ox C (some (dictOf es n))) (hd : ox.dict = some dx) (hp : plainOver K C = true) (ht : takerIn K C name = some none) (hh : hasDictIn K C = true)
    (hl : (getL name es).isSome = true) (hz : (putL name (PyData.keyHash w.params name) (.str name s.toks) v es).length ≤ 1000)
    (h : ∀ h', Heap.SameBut dx s.heap h' → h'.get? dx = some (dictOf (putL name (PyData.keyHash w.params name) (.str name s.toks) v es) (putN name es n)) → R (.ok (.ret .none)) { s with heap := h', toks := s.toks + 1 }) :
    codeAny (model prog w) A (.call (.builtin "object.__setattr__") ⟨[.ref x, .str name tk, v], []⟩) R s := by
  refine osa_open X I hp ht fun b => ?_
  obtain ⟨cd, hc, hd'⟩ := any_some hh
  obtain ⟨hx, hcl, hn, hD⟩ := I
  obtain ⟨oc, odi, oda, osl⟩ := ox
  dsimp only at hcl hd hD
  subst hcl hd
  have D : s.heap.get? dx = some (dictOf es n) := hD
  refine wpAny_bind (wpAny_pure (wpAny_bind (wpAny_bind (wpAny_loadPart hx (wpAny_bind ((looks_clsIn X hc).here ?_))))))
  rw [hd']
  refine wpAny_pure (a := some dx) (wpAny_bind (wpAny_pure (wpAny_bind ?_)))
  unfold nsSet
  refine wpAny_bind (wpAny_bind (wpAny_askSetting (wpAny_pure (wpAny_bind (wpAny_mkText (wpAny_bind (wpAny_loadPart D ?_)))))))
  dsimp only
  have c : (!es.toArray.any (·.key.isStr name) && es.toArray.any (·.refKey)) = false := by
    rw [← Array.any_toList, ← Array.any_toList]
    show (!es.any (·.key.isStr name) && es.any (·.refKey)) = false
    unfold getL at hl
    split at hl
    · rename_i en he
      rw [List.any_eq_true.mpr ⟨en, List.mem_of_find?_eq_some he, List.find?_some he⟩]; rfl
    · split at hl
      · cases hl
      · rename_i z; rw [Bool.not_eq_true] at z; rw [z, Bool.and_false]
  have e := putName_dict name (PyData.keyHash w.params name) (.str name s.toks) v es n
  have D' : (s.heap.update dx (Obj.putName name (PyData.keyHash w.params name) (.str name s.toks) v)).get? dx = some (dictOf (putL name (PyData.keyHash w.params name) (.str name s.toks) v es) (putN name es n)) := by
    rw [← e]; exact Heap.get?_update_self _ D (by rw [e]; rfl)
  rw [aRefKeyMayBeTheName_at, c]
  refine wpAny_updatePart D ?_
  refine wpAny_bind (wpAny_lookBehind D' (pastItsLine_dict (by rw [List.size_toArray, sizeLine_eq]; omega)) ?_)
  exact wpAny_pure (h _ (Heap.SameBut.update ..) D')
end

section
variable {C : FC} {ρ : Loc} {φ : AH} {n : Nat} {Q : AV → AH → Prop} {B : Bool → AH → Prop}
theorem StC.In {fz m ψ h} (G : Gd C n) (H : StC C fz ρ φ m ψ h) : C.W.K.In h := G.ok.X.keeps H.fr.keep
theorem inst_of {fz m ψ h} (H : StC C fz ρ φ m ψ h) {a D : Addr} {fs : List (Str × AV)} (e : φ a = some (.inst D fs)) :
    ∃ es n, W.InstAt h a (instObj D (ψ a)) D (some (dictOf es n)) ∧ Fields fs es := by
  obtain ⟨c1, es, k, c2, c3⟩ := H.ok.heap _ _ e
  exact ⟨es, k, ⟨c1, rfl, rfl, c2⟩, c3⟩

theorem att_own {a D : Addr} {fs : List (Str × AV)} {x : Str} {v : AV} (e : φ a = some (.inst D fs)) (hl : fs.lookup x = some v) (q : Q v φ) (L : ClsOk C.W.K D) (F : FldOk C.W.K D x) (hv : v.handed) (G : Gd C n := by assumption) :
    Att C ρ (.ref a) x φ Q := by
  rintro _ rfl
  refine WPx.of fun fz s m ψ H g o => ?_
  obtain ⟨es, k, I, hF⟩ := inst_of H e
  obtain ⟨u, hu, hi⟩ := hF.get hl
  exact get_own H.fr G.ok.X I (L.pg x) L.hd F.fi rfl hu (AV.handed_in hv hi) ⟨v, φ, hi, St.mk' H g o, q⟩

/-- a.x = v -/
def SetA (C : FC) (ρ : Loc) (a : AV) (x : Str) (v : AV) (φ : AH) (Q : AH → Prop) : Prop := ∀ u w, a.is u → v.is w → EU C (setAttr u x w) ρ φ Q
theorem seta_own {a D : Addr} {fs : List (Str × AV)} {x : Str} {v : AV} {P : AH → Prop} (e : φ a = some (.inst D fs)) (q : P (upd φ a (.inst D (setF x v fs)))) (L : ClsOk C.W.K D) (F : FldOk C.W.K D x) (hz : fs.length ≤ 900 := by decide) (G : Gd C n := by assumption) :
    SetA C ρ (.ref a) x v φ P := by
  rintro _ w rfl hw
  refine WPx.of fun fz s m ψ H g o => ?_
  obtain ⟨es, k, I, hF⟩ := inst_of H e
  have hlen : es.length ≤ 900 := by rw [← hF.length]; exact hz
  have hs : (getL x es).isSome = true := by
    cases z : fs.lookup x with
    | none => rw [hF.none z]; rfl
    | some w => obtain ⟨u, hu, _⟩ := hF.get z; rw [hu]; rfl
  refine set_plain (H.In G) I L.sa (osa_same (s := { s with toks := s.toks + 1 }) (H.In G) I rfl L.po F.ta L.hd hs ?_ fun h' hs' hd' => ?_)
  · have q2 := (hF.put (x := x) (v := v) (u := w) (hsh := PyData.keyHash C.W.w.params x) (t := s.toks + 1) hw).length
    have q3 := setF_length x v fs
    have q4 := hF.length
    show (putL x _ (.str x (s.toks + 1)) w es).length ≤ 1000
    omega
  · refine ⟨(), _, trivial, St.putF H g o e hs' ⟨?_, _, _, hd', hF.put hw⟩, q⟩
    rw [hs'.2 a fun z => ?_]
    · exact I.at_
    · have := H.ok.dcov _ _ _ e; rw [← z, e] at this; cases this
end
end Mine

open PySem PySem.W PyProof.Rows PySem.Calls PySem.MeetsSeq PySem.MeetsSeq2 PySem.MeetsSeq3
set_option Elab.async false
set_option maxRecDepth 100000
set_option linter.unusedVariables false
namespace Mine

section
variable {C : FC} {ρ : Loc} {φ : AH} {n : Nat} {Q : AV → AH → Prop} {B : Bool → AH → Prop} {P : AH → Prop}

/-- arguments -/
theorem el_nil {pos : Pos} {R : List AV → AH → Prop} (q : R [] φ) : EL C (spliced (backTo pos (starEach [] C.env))) ρ φ R := fun fz s S => spliced_none ⟨[], φ, .nil, S, q⟩
theorem el_cons {e : Expr} {rest : List Expr} {pos : Pos} {R : List AV → AH → Prop} (h : EV C (eval e C.env) ρ φ fun a φ₁ => EL C (spliced (backTo pos (starEach rest C.env))) ρ φ₁ fun as φ₂ => R (a :: as) φ₂)
    (he : starEach (e :: rest) C.env = (false, eval e C.env) :: starEach rest C.env := by with_unfolding_all rfl) : EL C (spliced (backTo pos (starEach (e :: rest) C.env))) ρ φ R := by
  intro fz s S
  refine spliced_more (wpAny_mono (h fz s S) (fun v s' => ?_) fun _ _ x => x) he
  rintro ⟨a, φ', hr, S', q⟩
  refine wpAny_mono (q fz s' S') (fun vs s'' => ?_) fun _ _ x => x
  rintro ⟨as, φ'', hr', S'', q'⟩
  exact ⟨a :: as, φ'', .cons hr hr', S'', q'⟩

/-- a call's tail: the arguments, then the call -/
def CalW (C : FC) (ρ : Loc) (pos : Pos) (f : AV) (args : List Expr) (φ : AH) (Q : AV → AH → Prop) : Prop := ∀ u, f.is u → EV C (callWith pos u [] (backTo pos (starEach args C.env)) []) ρ φ Q
theorem ev_call {f : Expr} {args : List Expr} {pos : Pos} (h : EV C (eval f C.env) ρ φ fun a φ₁ => CalW C ρ pos a args φ₁ Q)
    (he : eval (.Call f args [] pos) C.env = (do
      let f ← eval f C.env
      callWith pos f [] (backTo pos (starEach args C.env)) (backToKw pos (keywordEach [] C.env))) := by with_unfolding_all rfl) : EV C (eval (.Call f args [] pos) C.env) ρ φ Q :=
  WPx.two (fun y => Call_ y he) (h.mono fun a φ₁ h₁ v hv => h₁ v hv)
theorem calw_ref {pos : Pos} {a : Addr} {e : Expr} {rest : List Expr} (hk : keepIn C.W.K (.ref a) = true) (h : EL C (spliced (backTo pos (starEach (e :: rest) C.env))) ρ φ fun vs φ₁ => Cal C ρ (.ref a) vs φ₁ Q) (G : Gd C n := by assumption)
    (he : starEach (e :: rest) C.env = (false, eval e C.env) :: starEach rest C.env := by with_unfolding_all rfl) (hp : (backTo pos (starEach rest C.env)).any (·.1) = false := by with_unfolding_all rfl) : CalW C ρ pos (.ref a) (e :: rest) φ Q := by
  rintro _ rfl fz s S
  refine callWith_K G.ok.X hk (wpAny_mono (h fz s S) (fun vs s' => ?_) fun _ _ x => x) he hp
  rintro ⟨as, φ', hr, S', q⟩
  obtain ⟨⟨m, ψ, H⟩, _⟩ := S'.1, S'.2
  exact ⟨H.In G, q _ vs rfl hr fz s' S'⟩
theorem calw_ref0 {pos : Pos} {a : Addr} (hk : keepIn C.W.K (.ref a) = true) (h : Cal C ρ (.ref a) [] φ Q) (G : Gd C n := by assumption) : CalW C ρ pos (.ref a) [] φ Q := by
  rintro _ rfl fz s S
  obtain ⟨⟨m, ψ, H⟩, _⟩ := S.1, S.2
  exact callWith_K0 (H.In G) hk (h _ [] rfl .nil fz s S)
theorem calw_builtin {pos : Pos} {id : String} {e : Expr} {rest : List Expr} (h : EL C (spliced (backTo pos (starEach (e :: rest) C.env))) ρ φ fun vs φ₁ => Cal C ρ (.raw (.builtin id)) vs φ₁ Q)
    (he : starEach (e :: rest) C.env = (false, eval e C.env) :: starEach rest C.env := by with_unfolding_all rfl) (hp : (backTo pos (starEach rest C.env)).any (·.1) = false := by with_unfolding_all rfl) : CalW C ρ pos (.raw (.builtin id)) (e :: rest) φ Q := by
  rintro _ rfl fz s S
  refine PyProof.Rows.callWith_builtin1 (wpAny_mono (h fz s S) (fun vs s' => ?_) fun _ _ x => x) he hp
  rintro ⟨as, φ', hr, S', q⟩
  exact q _ vs rfl hr fz s' S'
theorem calw_type {pos : Pos} {T : String} {e : Expr} {rest : List Expr} (h : EL C (spliced (backTo pos (starEach (e :: rest) C.env))) ρ φ fun vs φ₁ => Cal C ρ (.raw (.type T)) vs φ₁ Q)
    (he : starEach (e :: rest) C.env = (false, eval e C.env) :: starEach rest C.env := by with_unfolding_all rfl) (hp : (backTo pos (starEach rest C.env)).any (·.1) = false := by with_unfolding_all rfl) : CalW C ρ pos (.raw (.type T)) (e :: rest) φ Q := by
  rintro _ rfl fz s S
  refine Pv.callWith_type1 (wpAny_mono (h fz s S) (fun vs s' => ?_) fun _ _ x => x) he hp
  rintro ⟨as, φ', hr, S', q⟩
  exact q _ vs rfl hr fz s' S'

/-- a method's call -/
def Mth (C : FC) (ρ : Loc) (pos : Pos) (a : AV) (x : Str) (args : List Expr) (φ : AH) (Q : AV → AH → Prop) : Prop :=
  ∀ u pl, a.is u → ∀ fz s, St C fz ρ φ s → wpAny C.M C.A (getMethod u x pl) (fun fx s' => wpAny C.M C.A (callWith pos fx.1 fx.2 (backTo pos (starEach args C.env)) [])
    (PW C AV.is fz ρ Q) NoE s') NoE s
theorem ev_mcall {o : Expr} {x : Str} {apos pos : Pos} {args : List Expr} {pl : Sem Bool} (h : EV C (eval o C.env) ρ φ fun a φ₁ => Mth C ρ pos a x args φ₁ Q)
    (he : eval (.Call (.Attribute o x apos) args [] pos) C.env = (do
      let ov ← eval o C.env
      standAt apos.atName
      let (f, first) ← holding [ov] (getMethod ov x pl)
      callWith pos f first (backTo pos (starEach args C.env)) []) := by with_unfolding_all rfl) : EV C (eval (.Call (.Attribute o x apos) args [] pos) C.env) ρ φ Q := by
  intro fz s S
  refine MethodCall_ (wpAny_mono (h fz s S) (fun v s' => ?_) fun _ _ x => x) he
  rintro ⟨a, φ', hr, S', q⟩
  exact q v pl hr fz s' S'
/-- a method of an object's class -/
theorem mth_inst {pos : Pos} {a D f : Addr} {fs : List (Str × AV)} {x : Str} {e : Expr} {rest : List Expr} (ea : φ a = some (.inst D fs)) (L : ClsOk C.W.K D) (hf : findIn C.W.K (.ref D) x = some (some (.ref f))) (ht : isFn C.W.K (.ref f) = true) (hk : keepIn C.W.K (.ref f) = true)
    (hl : fs.lookup x = none) (h : EL C (spliced (backTo pos (starEach (e :: rest) C.env))) ρ φ fun vs φ₁ => Cal C ρ (.ref f) (.ref a :: vs) φ₁ Q) (G : Gd C n := by assumption)
    (he : starEach (e :: rest) C.env = (false, eval e C.env) :: starEach rest C.env := by with_unfolding_all rfl) (hp : (backTo pos (starEach rest C.env)).any (·.1) = false := by with_unfolding_all rfl) : Mth C ρ pos (.ref a) x (e :: rest) φ Q := by
  rintro _ pl rfl fz s S
  obtain ⟨⟨m, ψ, H⟩, _⟩ := S.1, S.2
  obtain ⟨es, k, I, hF⟩ := inst_of H ea
  refine method_inst H.fr G.ok.X I (L.pg x) hf ht (hF.none hl) ?_
  refine callWith_K G.ok.X hk (wpAny_mono (h fz s S) (fun vs s' => ?_) fun _ _ x => x) he hp
  rintro ⟨as, φ', hr, S', q⟩
  obtain ⟨⟨m', ψ', H'⟩, _⟩ := S'.1, S'.2
  exact ⟨H'.In G, q _ _ rfl (.cons rfl hr) fz s' S'⟩
theorem callWith_bm {M : Model} {A : Around} {E : Value → Shared → Prop} {s : Shared} {env : Env} {pos : Pos} {id : String} {first : List Value} {e : Expr} {rest : List Expr} {Q : Value → Shared → Prop}
    (h : wpAny M A (spliced (backTo pos (starEach (e :: rest) env))) (fun vs s₁ => wpAny M A (call (.builtin id) (first ++ vs)) Q E s₁) E s)
    (he : starEach (e :: rest) env = (false, eval e env) :: starEach rest env) (hp : (backTo pos (starEach rest env)).any (·.1) = false) : wpAny M A (callWith pos (.builtin id) first (backTo pos (starEach (e :: rest) env)) []) Q E s := by
  rw [he] at h ⊢
  exact Calls.callWith_builtin (by show (false || (backTo pos (starEach rest env)).any (·.1)) = false; rw [hp]; rfl) (evalArgs_plain h)
/-- a method of a built-in's -/
def Plain (φ : AH) (a : Addr) (T : String) : Prop := match φ a with
  | some (.list _) => T = "list"
  | some (.idict _ _) => T = "dict"
  | some (.sdict _) => T = "dict"
  | _ => False
theorem plain_of {fz m ψ} {s : Shared} (H : StC C fz ρ φ m ψ s.heap) {a : Addr} {T : String} (h : Plain φ a T) : s.TypeIs (.ref a) T ∧ ∀ b, Value.ref a = .ref b → ∃ o, s.heap.get? b = some o ∧ o.dict = none := by
  unfold Plain at h
  split at h
  · rename_i e
    obtain ⟨vs, k, c1, c2⟩ := H.ok.heap _ _ e
    subst h
    exact ⟨⟨_, c1, rfl⟩, fun b q => by cases q; exact ⟨_, c1, rfl⟩⟩
  · rename_i e
    obtain ⟨kvs, c1, c2⟩ := H.ok.heap _ _ e
    subst h
    exact ⟨c1.dictOf.typeIs, c1.dictOf.mapOf.noDict⟩
  · rename_i e
    obtain ⟨kvs, c1, c2⟩ := H.ok.heap _ _ e
    subst h
    exact ⟨c1.typeIs, c1.mapOf.noDict⟩
  · exact h.elim
theorem mth_builtin {pos : Pos} {a : Addr} {T id : String} {x : Str} {e : Expr} {rest : List Expr} (hp' : Plain φ a T) (pa : PlainAttrs T) (sl : Slot T x id) (ty : typeOf (.builtin id) = pure (.type "method_descriptor"))
    (h : EL C (spliced (backTo pos (starEach (e :: rest) C.env))) ρ φ fun vs φ₁ => Cal C ρ (.raw (.builtin id)) (.ref a :: vs) φ₁ Q)
    (he : starEach (e :: rest) C.env = (false, eval e C.env) :: starEach rest C.env := by with_unfolding_all rfl) (hp : (backTo pos (starEach rest C.env)).any (·.1) = false := by with_unfolding_all rfl) : Mth C ρ pos (.ref a) x (e :: rest) φ Q := by
  rintro _ pl rfl fz s S
  obtain ⟨⟨m, ψ, H⟩, _⟩ := S.1, S.2
  obtain ⟨h1, h2⟩ := plain_of H hp'
  refine getMethod_builtin h1 pa sl ty h2 ?_
  refine callWith_bm (wpAny_mono (h fz s S) (fun vs s' => ?_) fun _ _ x => x) he hp
  rintro ⟨as, φ', hr, S', q⟩
  exact q _ _ rfl (.cons rfl hr) fz s' S'
theorem mth_builtin0 {pos : Pos} {a : Addr} {T id : String} {x : Str} (hp' : Plain φ a T) (pa : PlainAttrs T) (sl : Slot T x id) (ty : typeOf (.builtin id) = pure (.type "method_descriptor"))
    (h : Cal C ρ (.raw (.builtin id)) [.ref a] φ Q) : Mth C ρ pos (.ref a) x [] φ Q := by
  rintro _ pl rfl fz s S
  obtain ⟨⟨m, ψ, H⟩, _⟩ := S.1, S.2
  obtain ⟨h1, h2⟩ := plain_of H hp'
  exact getMethod_builtin h1 pa sl ty h2 (callWith_method0 (h _ _ rfl (.cons rfl .nil) fz s S))

theorem StC.lo {fz m ψ h} (G : Gd C n) (H : StC C fz ρ φ m ψ h) {a : Addr} {o : AO} (e : φ a = some o) : (a == sysModules) = false := by
  have h1 := H.ok.own a (.inl ⟨o, e⟩)
  have h2 := modules_low G.ok.T.nolimit
  have : a ≠ sysModules := fun z => absurd h2 (by rw [← z]; exact Nat.not_lt.mpr h1)
  simpa using this

/-- lists -/
theorem sizeLine_ok {k : Nat} (h : k ≤ 1000000) : k ≤ sizeLine := by rw [sizeLine_eq]; omega
theorem sizeLine_ok' {k : Nat} (h : k ≤ 1000001) : k ≤ sizeLine := by rw [sizeLine_eq]; omega
theorem list_of {fz m ψ h} (H : StC C fz ρ φ m ψ h) {a : Addr} {l : List AV} (e : φ a = some (.list l)) : ∃ vs k, IsL h a vs k ∧ AreV l vs.toList ∧ vs.size = l.length := by
  obtain ⟨vs, k, c1, c2⟩ := H.ok.heap _ _ e
  exact ⟨vs, k, c1, c2, by rw [c2.length]; simp⟩
theorem cal_len_list {a : Addr} {l : List AV} (e : φ a = some (.list l)) (q : Q (.int l.length) φ) (hz : l.length ≤ 1000000) : Cal C ρ (.raw (.builtin "len")) [.ref a] φ Q := by
  rintro _ _ rfl (_ | ⟨rfl, _ | _⟩)
  refine WPx.of fun fz s m ψ H g o => ?_
  obtain ⟨vs, k, c1, c2, c3⟩ := list_of H e
  exact PyProof.Rows.len_list c1.isList (by omega) ⟨.int l.length, φ, ⟨_, by rw [c3]⟩, St.mk' H g o, q⟩
theorem cal_append {a : Addr} {l : List AV} {v : AV} (e : φ a = some (.list l)) (q : Q .none (upd φ a (.list (l ++ [v])))) (hz : l.length ≤ 1000000) : Cal C ρ (.raw (.builtin "list.append")) [.ref a, v] φ Q := by
  rintro _ _ rfl (_ | ⟨rfl, _ | ⟨hv, _ | _⟩⟩)
  refine WPx.of fun fz s m ψ H g o => ?_
  obtain ⟨vs, k, c1, c2, c3⟩ := list_of H e
  refine call_meets F.slot_list_append ⟨_, c1, rfl⟩ F.entry_list_append (F.args_list_append_2 _ _) (list_append a vs k _ (sizeLine_ok (by omega))) ⟨c1, ?_⟩
  refine ⟨.none, _, rfl, St.put (o' := .list (l ++ [v])) H g o e trivial trivial (Heap.SameBut.update ..) ⟨vs.push _, _, c1.update _, ?_⟩, q⟩
  rw [Array.toList_push]
  exact c2.snoc hv
theorem cal_reverse {a : Addr} {l : List AV} (e : φ a = some (.list l)) (q : Q .none (upd φ a (.list l.reverse))) (hz : l.length ≤ 1000000) : Cal C ρ (.raw (.builtin "list.reverse")) [.ref a] φ Q := by
  rintro _ _ rfl (_ | ⟨rfl, _ | _⟩)
  refine WPx.of fun fz s m ψ H g o => ?_
  obtain ⟨vs, k, c1, c2, c3⟩ := list_of H e
  refine call_meets F.slot_list_reverse ⟨_, c1, rfl⟩ F.entry_list_reverse (F.args_list_reverse_1 _) (AutoSeq1.list_reverse_list_0 a vs k (sizeLine_ok (by omega))) ⟨c1, ?_⟩
  refine ⟨.none, _, rfl, St.put (o' := .list l.reverse) H g o e trivial trivial (Heap.SameBut.update ..) ⟨vs.reverse, _, c1.update _, ?_⟩, q⟩
  rw [Array.toList_reverse]
  exact c2.reverse
theorem cal_pop {a : Addr} {l : List AV} {v : AV} (e : φ a = some (.list (l ++ [v]))) (q : Q v (upd φ a (.list l))) (hz : l.length ≤ 1000000) : Cal C ρ (.raw (.builtin "list.pop")) [.ref a] φ Q := by
  rintro _ _ rfl (_ | ⟨rfl, _ | _⟩)
  refine WPx.of fun fz s m ψ H g o => ?_
  obtain ⟨vs, k, c1, c2, c3⟩ := list_of H e
  have hl : vs.size = l.length + 1 := by rw [c3]; simp
  obtain ⟨y, hy, hi⟩ := c2.get (i := l.length) (a := v) (by simp)
  have hy' : vs[vs.size - 1]? = some y := by rw [hl, Nat.add_sub_cancel, ← Array.getElem?_toList]; exact hy
  refine call_meets F.slot_list_pop ⟨_, c1, rfl⟩ F.entry_list_pop (F.args_list_pop_1 _) (list_pop_last a vs k y hy' (sizeLine_ok' (by rw [hl]; omega))) ⟨c1, ?_⟩
  refine ⟨v, _, hi, St.put (o' := .list l) H g o e trivial trivial (Heap.SameBut.update ..) ⟨vs.eraseIdxIfInBounds (vs.size - 1), _, c1.update _, ?_⟩, q⟩
  have h3 := c2.take l.length
  rw [List.take_left' rfl] at h3
  have : (vs.eraseIdxIfInBounds (vs.size - 1)).toList = vs.toList.take l.length := by
    obtain ⟨k⟩ := vs
    simp only [List.eraseIdxIfInBounds_toArray, List.size_toArray] at hl ⊢
    rw [hl, Nat.add_sub_cancel, List.eraseIdx_eq_take_drop_succ, List.drop_eq_nil_of_le (by omega), List.append_nil]
  rw [this]; exact h3
theorem bin_addL {a b : Addr} {l k : List AV} (e : φ a = some (.list l)) (e' : φ b = some (.list k)) (q : ∀ d, φ d = none → Q (.ref d) (upd φ d (.list (l ++ k)))) (hz : l.length + k.length ≤ 1000000) : Bin C ρ .Add (.ref a) (.ref b) φ Q := by
  rintro _ _ rfl rfl
  refine WPx.of fun fz s m ψ H g o => ?_
  obtain ⟨vs, i, c1, c2, c3⟩ := list_of H e
  obtain ⟨us, j, d1, d2, d3⟩ := list_of H e'
  refine P.add_list c1 d1 ?_ (sizeLine_ok (by omega))
  obtain ⟨h1, h2⟩ := St.new (a := s.heap.objs.size) (h' := s.heap.push { cls := .type "list", data := .seq (vs ++ us) }) (o' := .list (l ++ k)) (d := s.drawn) (t := s.toks) H g o trivial (Nat.le_refl _) (fun b o e => Heap.get?_push_of_some _ e)
    ⟨vs ++ us, 0, Heap.get?_push_size _ rfl, by rw [Array.toList_append]; exact c2.append d2⟩
  exact ⟨.ref _, _, rfl, h2, q _ h1⟩
theorem ev_list {elts : List Expr} {pos : Pos} (h : EL C (spliced (backTo pos (starEach elts C.env))) ρ φ fun l φ₁ => l.length ≤ 1000000 ∧ ∀ d, φ₁ d = none → Q (.ref d) (upd φ₁ d (.list l))) : EV C (eval (.List elts pos) C.env) ρ φ Q := by
  intro fz s S
  refine List_ (wpAny_mono (h fz s S) (fun vs s' => ?_) fun _ _ x => x)
  rintro ⟨l, φ', hr, ⟨⟨m, ψ, H⟩, g, o⟩, hz, q⟩
  obtain ⟨h1, h2⟩ := St.new (a := s'.heap.objs.size) (h' := s'.heap.push { cls := .type "list", data := .seq vs.toArray }) (o' := .list l) (d := s'.drawn) (t := s'.toks) H g o trivial (Nat.le_refl _) (fun b o e => Heap.get?_push_of_some _ e)
    ⟨vs.toArray, 0, Heap.get?_push_size _ rfl, hr⟩
  exact wpAny_newObj_type ⟨.ref _, _, rfl, h2, q _ h1⟩ (by show vs.toArray.size ≤ sizeLine; rw [List.size_toArray]; exact sizeLine_ok (by rw [← hr.length]; exact hz))
theorem ev_tuple {elts : List Expr} {k : Nat} {pos : Pos} (h : EL C (spliced (backTo pos (starEach elts C.env))) ρ φ fun l φ₁ => l.length ≤ 1000000 ∧ ∀ d, φ₁ d = none → Q (.ref d) (upd φ₁ d (.tup l))) : EV C (eval (.Tuple elts k pos) C.env) ρ φ Q := by
  intro fz s S
  refine Tuple_ (wpAny_mono (h fz s S) (fun vs s' => ?_) fun _ _ x => x)
  rintro ⟨l, φ', hr, ⟨⟨m, ψ, H⟩, g, o⟩, hz, q⟩
  obtain ⟨h1, h2⟩ := St.new (a := s'.heap.objs.size) (h' := s'.heap.push { cls := .type "tuple", data := .seq vs.toArray }) (o' := .tup l) (d := s'.drawn) (t := s'.toks) H g o trivial (Nat.le_refl _) (fun b o e => Heap.get?_push_of_some _ e)
    ⟨vs.toArray, 0, Heap.get?_push_size _ rfl, hr⟩
  exact wpAny_newObj_type ⟨.ref _, _, rfl, h2, q _ h1⟩ (by show vs.toArray.size ≤ sizeLine; rw [List.size_toArray]; exact sizeLine_ok (by rw [← hr.length]; exact hz))

/-- items -/
theorem itm_list {a : Addr} {l : List AV} {i : Int} {v : AV} (e : φ a = some (.list l)) (h0 : 0 ≤ i) (h1 : i < 2 ^ 63) (hv : l[i.toNat]? = some v) (q : Q v φ) : Itm C ρ (.ref a) (.int i) φ Q := by
  rintro _ _ rfl ⟨t, rfl⟩
  refine WPx.of fun fz s m ψ H g o => ?_
  obtain ⟨vs, k, c1, c2, c3⟩ := list_of H e
  obtain ⟨y, hy, hi⟩ := c2.get hv
  exact wpAny_getItem_list c1.isList h0 h1 (by rw [← Array.getElem?_toList]; exact hy) ⟨v, φ, hi, St.mk' H g o, q⟩
theorem subt_of {a : Addr} {b : AV} {x i : Expr} {T id : String} (h : Itm C ρ (.ref a) b φ Q) (hT : ∀ fz (m : Str → Option Value) ψ (s : Shared), StC C fz ρ φ m ψ s.heap → s.TypeIs (.ref a) T)
    (hl : typeLookup (.type T) (Str.ofString "__getitem__") = pure (some (.builtin id))) (hs : ∀ v, b.is v → subscripted i false (.ref a) v = operate [.ref a, v] (getItem (.ref a) v)) : SubT C ρ x i (.ref a) b φ Q := by
  rintro _ v rfl hv
  refine WPx.of fun fz s m ψ H g o => ?_
  exact tail_any (hT fz m ψ s H) hl (h _ v rfl hv fz s ⟨⟨m, ψ, H⟩, g, o⟩) (hs v hv)
theorem subt_list {a : Addr} {l : List AV} {i : Int} {v : AV} {x e' : Expr} (e : φ a = some (.list l)) (h0 : 0 ≤ i) (h1 : i < 2 ^ 63) (hv : l[i.toNat]? = some v) (q : Q v φ)
    (hs : ∀ t, subscripted e' false (.ref a) (.int i t) = operate [.ref a, .int i t] (getItem (.ref a) (.int i t)) := by intro _; with_unfolding_all rfl) : SubT C ρ x e' (.ref a) (.int i) φ Q :=
  subt_of (itm_list e h0 h1 hv q) (fun fz m ψ s H => by obtain ⟨vs, k, c1, c2, c3⟩ := list_of H e; exact ⟨_, c1, rfl⟩) slot_list_getitem.lookup (by rintro v ⟨t, rfl⟩; exact hs t)

/-- dicts -/
noncomputable def dget {K : Type} [DecidableEq K] (k : K) (l : List (K × AV)) : Option AV := (l.find? fun p => decide (p.1 = k)).map (·.2)
noncomputable def dset {K : Type} [DecidableEq K] (k : K) (v : AV) (l : List (K × AV)) : List (K × AV) :=
  if l.any (fun p => decide (p.1 = k)) then l.map (fun p => if p.1 = k then (p.1, v) else p) else l ++ [(k, v)]
noncomputable def ddel {K : Type} [DecidableEq K] (k : K) (l : List (K × AV)) : List (K × AV) := l.filter fun p => decide (p.1 ≠ k)
theorem AreP.at {K : Type} [DecidableEq K] {l : List (K × AV)} {kvs : List (K × Value)} (h : AreP l kvs) (k : K) : (dget k l = none ∧ valueAt kvs k = none) ∨ ∃ v u, dget k l = some v ∧ valueAt kvs k = some u ∧ v.is u := by
  induction h with
  | nil => exact .inl ⟨rfl, rfl⟩
  | @cons p q l kvs hr _ ih =>
    obtain ⟨h1, h2⟩ := hr
    unfold dget valueAt at ih ⊢
    rw [List.find?_cons, List.find?_cons, ← h1]
    by_cases z : p.1 = k
    · rw [decide_eq_true z]; exact .inr ⟨_, _, rfl, rfl, h2⟩
    · rw [decide_eq_false z]; exact ih
theorem AreP.any {K : Type} [DecidableEq K] {l : List (K × AV)} {kvs : List (K × Value)} (h : AreP l kvs) (k : K) : (l.any fun p => decide (p.1 = k)) = kvs.any fun p => decide (p.1 = k) := by
  induction h with
  | nil => rfl
  | cons hr _ ih => rw [List.any_cons, List.any_cons, ih, hr.1]
theorem AreP.store {K : Type} [DecidableEq K] {l : List (K × AV)} {kvs : List (K × Value)} (h : AreP l kvs) (k : K) {v : AV} {u : Value} (hv : v.is u) : AreP (dset k v l) (stored kvs k u) := by
  unfold dset stored
  rw [h.any k]
  split
  · refine h.map (fun a b hab => ?_)
    obtain ⟨h1, h2⟩ := hab
    rw [h1]
    split
    · exact ⟨rfl, hv⟩
    · exact ⟨h1, h2⟩
  · exact h.snoc ⟨rfl, hv⟩
theorem AreP.del {K : Type} [DecidableEq K] {l : List (K × AV)} {kvs : List (K × Value)} (h : AreP l kvs) (k : K) : AreP (ddel k l) (without kvs k) := by
  unfold ddel without
  induction h with
  | nil => exact .nil
  | @cons p q l kvs hr _ ih =>
    rw [List.filter_cons, List.filter_cons, hr.1]
    split
    · exact .cons hr ih
    · exact ih
theorem idict_of {fz m ψ h} (H : StC C fz ρ φ m ψ h) {a : Addr} {l : List (Int × AV)} {ep : Nat} (e : φ a = some (.idict l ep)) : ∃ kvs, h.DictAt (intKind C.W.prog C.W.w) a kvs ep ∧ AreP l kvs ∧ kvs.length = l.length := by
  obtain ⟨kvs, c1, c2⟩ := H.ok.heap _ _ e
  exact ⟨kvs, c1, c2, c2.length.symm⟩
theorem sdict_of {fz m ψ h} (H : StC C fz ρ φ m ψ h) {a : Addr} {l : List (Str × AV)} (e : φ a = some (.sdict l)) : ∃ kvs, h.DictOf (strKind C.W.prog C.W.w) a kvs ∧ AreP l kvs ∧ kvs.length = l.length := by
  obtain ⟨kvs, c1, c2⟩ := H.ok.heap _ _ e
  exact ⟨kvs, c1, c2, c2.length.symm⟩
theorem itm_idict {a : Addr} {l : List (Int × AV)} {ep : Nat} {i : Int} {v : AV} (e : φ a = some (.idict l ep)) (hv : dget i l = some v) (q : Q v φ) : Itm C ρ (.ref a) (.int i) φ Q := by
  rintro _ _ rfl ⟨t, rfl⟩
  refine WPx.of fun fz s m ψ H g o => ?_
  obtain ⟨kvs, c1, c2, c3⟩ := idict_of H e
  rcases c2.at i with ⟨h1, _⟩ | ⟨v', u, h1, h2, h3⟩
  · rw [hv] at h1; cases h1
  · rw [hv] at h1; cases h1
    exact wpAny_getItem_of (intKind_is _ _ _ _) c1.dictOf.mapOf h2 ⟨v, φ, h3, St.mk' H g o, q⟩
theorem itm_sdict {a : Addr} {l : List (Str × AV)} {i : Str} {v : AV} (e : φ a = some (.sdict l)) (hv : dget i l = some v) (q : Q v φ) : Itm C ρ (.ref a) (.str i) φ Q := by
  rintro _ _ rfl ⟨t, rfl⟩
  refine WPx.of fun fz s m ψ H g o => ?_
  obtain ⟨kvs, c1, c2, c3⟩ := sdict_of H e
  rcases c2.at i with ⟨h1, _⟩ | ⟨v', u, h1, h2, h3⟩
  · rw [hv] at h1; cases h1
  · rw [hv] at h1; cases h1
    exact wpAny_getItem_of (strKind_is _ _ _ _) c1.mapOf h2 ⟨v, φ, h3, St.mk' H g o, q⟩
theorem subt_idict {a : Addr} {l : List (Int × AV)} {ep : Nat} {i : Int} {v : AV} {x e' : Expr} (e : φ a = some (.idict l ep)) (hv : dget i l = some v) (q : Q v φ)
    (hs : ∀ t, subscripted e' false (.ref a) (.int i t) = operate [.ref a, .int i t] (getItem (.ref a) (.int i t)) := by intro _; with_unfolding_all rfl) : SubT C ρ x e' (.ref a) (.int i) φ Q :=
  subt_of (itm_idict e hv q) (fun fz m ψ s H => by obtain ⟨kvs, c1, c2, c3⟩ := idict_of H e; exact c1.dictOf.typeIs) slot_dict_getitem.lookup (by rintro v ⟨t, rfl⟩; exact hs t)
theorem subt_sdict {a : Addr} {l : List (Str × AV)} {i : Str} {v : AV} {x e' : Expr} (e : φ a = some (.sdict l)) (hv : dget i l = some v) (q : Q v φ)
    (hs : ∀ t, subscripted e' false (.ref a) (.str i t) = operate [.ref a, .str i t] (getItem (.ref a) (.str i t)) := by intro _; with_unfolding_all rfl) : SubT C ρ x e' (.ref a) (.str i) φ Q :=
  subt_of (itm_sdict e hv q) (fun fz m ψ s H => by obtain ⟨kvs, c1, c2, c3⟩ := sdict_of H e; exact c1.typeIs) slot_dict_getitem.lookup (by rintro v ⟨t, rfl⟩; exact hs t)
theorem cmp_in {a : Addr} {l : List (Int × AV)} {ep : Nat} {i : Int} (e : φ a = some (.idict l ep)) (q : Q (.bool (dget i l).isSome) φ) (G : Gd C n := by assumption) : Cmp C ρ .In (.int i) (.ref a) φ Q := by
  rintro _ _ ⟨t, rfl⟩ rfl
  refine WPx.of fun fz s m ψ H g o => ?_
  obtain ⟨kvs, c1, c2, c3⟩ := idict_of H e
  refine wpAny_in_of (intKind_is _ _ _ _) (H.lo G e) c1.dictOf.mapOf ⟨.bool _, φ, rfl, St.mk' H g o, ?_⟩
  rcases c2.at i with ⟨h1, h2⟩ | ⟨v', u, h1, h2, h3⟩
  · rw [h1] at q; rw [h2]; exact q
  · rw [h1] at q; rw [h2]; exact q
theorem cal_len_idict {a : Addr} {l : List (Int × AV)} {ep : Nat} (e : φ a = some (.idict l ep)) (q : Q (.int l.length) φ) (hz : l.length ≤ 1000000) (G : Gd C n := by assumption) : Cal C ρ (.raw (.builtin "len")) [.ref a] φ Q := by
  rintro _ _ rfl (_ | ⟨rfl, _ | _⟩)
  refine WPx.of fun fz s m ψ H g o => ?_
  obtain ⟨kvs, c1, c2, c3⟩ := idict_of H e
  exact call_len_dict (H.lo G e) c1.dictOf (by omega) ⟨.int l.length, φ, ⟨_, by rw [c3]⟩, St.mk' H g o, q⟩
theorem cal_get {a : Addr} {l : List (Int × AV)} {ep : Nat} {i : Int} (e : φ a = some (.idict l ep)) (q : Q ((dget i l).getD .none) φ) (G : Gd C n := by assumption) : Cal C ρ (.raw (.builtin "dict.get")) [.ref a, .int i] φ Q := by
  rintro _ _ rfl (_ | ⟨rfl, _ | ⟨⟨t, rfl⟩, _ | _⟩⟩)
  refine WPx.of fun fz s m ψ H g o => ?_
  obtain ⟨kvs, c1, c2, c3⟩ := idict_of H e
  refine call_meetsIn F.slot_dict_get c1.dictOf.typeIs F.entry_dict_get (F.args_dict_get_2 _ _) (meets_dict_get (intKind C.W.prog C.W.w) a (intKind_is _ _ i t) (H.lo G e)) ⟨_, c1.dictOf.mapOf, ?_⟩
  rcases c2.at i with ⟨h1, h2⟩ | ⟨v', u, h1, h2, h3⟩
  · rw [h1] at q; rw [h2]; exact ⟨.none, φ, rfl, St.mk' H g o, q⟩
  · rw [h1] at q; rw [h2]; exact ⟨v', φ, h3, St.mk' H g o, q⟩
theorem cal_dpop {a : Addr} {l : List (Int × AV)} {ep : Nat} {i : Int} {v : AV} (e : φ a = some (.idict l ep)) (hv : dget i l = some v) (q : ∀ ep', Q v (upd φ a (.idict (ddel i l) ep'))) (hz : l.length ≤ 1000000) (G : Gd C n := by assumption) : Cal C ρ (.raw (.builtin "dict.pop")) [.ref a, .int i] φ Q := by
  rintro _ _ rfl (_ | ⟨rfl, _ | ⟨⟨t, rfl⟩, _ | _⟩⟩)
  refine WPx.of fun fz s m ψ H g o => ?_
  obtain ⟨kvs, c1, c2, c3⟩ := idict_of H e
  rcases c2.at i with ⟨h1, _⟩ | ⟨v', u, h1, h2, h3⟩
  · rw [hv] at h1; cases h1
  · rw [hv] at h1; cases h1
    refine call_meetsIn F.slot_dict_pop c1.dictOf.typeIs F.entry_dict_pop (F.args_dict_pop_2 _ _) (meets_dict_pop_there (intKind C.W.prog C.W.w) a (intKind_is _ _ i t) [] (.inl rfl) (by rfl)) ⟨kvs, u, c1.dictOf, sizeLine_ok (by omega), h2, fun h' hm hs => ?_⟩
    obtain ⟨ep', hm'⟩ := hm.dictAt
    exact ⟨v, _, h3, St.put (o' := .idict (ddel i l) ep') H g o e trivial trivial hs ⟨_, hm', c2.del i⟩, q ep'⟩

def SetI (C : FC) (ρ : Loc) (a i v : AV) (φ : AH) (P : AH → Prop) : Prop := ∀ u w x, a.is u → i.is w → v.is x → EU C (setItem u w x) ρ φ P
theorem setItem_listX {prog : Program} {w : World} {A : Around} {E : Value → Shared → Prop} {s : Shared} {l : Addr} {items : Array Value} {ne : Nat} {k : Int} {t : Tok} {v : Value} {Q : Unit → Shared → Prop} (hl : IsL s.heap l items ne)
    (h0 : 0 ≤ k) (hfit : k < 2 ^ 63) (hn : k < items.size) (hQ : Q () { s with heap := s.heap.update l (Obj.mapSeq (·.setIfInBounds k.toNat v)) }) :
    wpAny (model prog w) A (setItem (.ref l) (.int k t) v) Q E s := by
  have hT : s.TypeIs (.ref l) "list" := ⟨_, hl, rfl⟩
  unfold setItem
  try with_reducible refine wpAny_holding ?_
  first | refine wpAny_bind (wpAny_pure ?_) | skip
  refine wpAny_bind (wpAny_sequenceKey hT (by decide) ?_)
  refine wpAny_bind (wpAny_callSpecial?_slot (name := Str.ofString "__setitem__") hT slot_list_setitem
    (wpAny_call_entry slot_list_setitem hT entry_list_setitem ?_ (args_list_setitem _ _ _)))
  show wpAny _ _ (Builtin.List.listSubscript? (.int k t) >>= _) _ _ s
  refine wpAny_bind (wpAny_listSubscript_int (fitsIndex_of h0 hfit) ?_)
  clear hfit
  obtain ⟨j, rfl⟩ := Int.eq_ofNat_of_zero_le h0
  have hj : j < items.size := by omega
  have hx' : items[j]? = some items[j] := Array.getElem?_eq_getElem hj
  show wpAny _ _ ((seqItemAt l j >>= fun r => pure (r.map (j, ·))) >>= _) _ _ s
  refine wpAny_bind (wpAny_bind (wpAny_seqItemAt hl rfl (wpAny_pure ?_)))
  rw [hx']
  show wpAny _ _ (setSeqItemAt l j v >>= _) _ _ s
  refine wpAny_bind (wpAny_setSeqItemAt hl rfl ?_)
  first
    | exact wpAny_bind (wpAny_pure (wpAny_pure ⟨.none, rfl, wpAny_pure hQ⟩))
    | exact wpAny_pure ⟨.none, rfl, wpAny_pure hQ⟩
theorem seti_list {a : Addr} {l : List AV} {i : Int} {v : AV} (e : φ a = some (.list l)) (h0 : 0 ≤ i) (h1 : i < l.length) (q : P (upd φ a (.list (l.set i.toNat v)))) (hz : l.length ≤ 1000000) : SetI C ρ (.ref a) (.int i) v φ P := by
  rintro _ _ x rfl ⟨t, rfl⟩ hx
  refine WPx.of fun fz s m ψ H g o => ?_
  obtain ⟨vs, k, c1, c2, c3⟩ := list_of H e
  refine setItem_listX c1 h0 (by omega) (by omega) ⟨(), _, trivial, St.put (o' := .list (l.set i.toNat v)) H g o e trivial trivial (Heap.SameBut.update ..) ⟨vs.setIfInBounds i.toNat x, _, c1.update _, ?_⟩, q⟩
  rw [Array.toList_setIfInBounds]
  exact c2.set hx _
theorem setItem_there {prog : Program} {w : World} {A : Around} {E : Value → Shared → Prop} {s : Shared} {K : Type} [DecidableEq K] {knd : KeyKind prog w K} {d : Addr} {k : K} {key v : Value} {kvs : List (K × Value)} {ep : Nat} {Q : Unit → Shared → Prop}
    (hkey : knd.is k key = true) (hm : s.heap.DictAt knd d kvs ep) (hin : (kvs.any fun p => decide (p.1 = k)) = true)
    (hQ : ∀ h', h'.DictAt knd d (stored kvs k v) ep → Heap.SameBut d s.heap h' → Q () { s with heap := h', toks := s.toks + 1 }) (hsz : kvs.length ≤ sizeLine) :
    wpAny (model prog w) A (setItem (.ref d) key v) Q E s := by
  have hT := hm.dictOf.typeIs
  unfold setItem
  try with_reducible refine wpAny_holding ?_
  refine wpAny_bind (wpAny_sequenceKey hT (by decide) ?_)
  refine wpAny_bind (wpAny_callSpecial?_slot (name := Str.ofString "__setitem__") hT slot_dict_setitem
    (wpAny_call_entry slot_dict_setitem hT entry_dict_setitem ?_ (args_dict_setitem _ _ _)))
  show wpAny _ _ (Builtin.Dict.notOrdered "__setitem__" ⟨[.ref d, key, v], []⟩ >>= _) _ _ s
  refine wpAny_bind (wpAny_notOrdered_dict hT ?_)
  show wpAny _ _ (dictSet d key v >>= _) _ _ s
  obtain ⟨o, es, ho, hc, hd, hk, hp, hn⟩ := hm
  refine wpAny_bind ?_
  unfold dictSet
  try with_reducible refine wpAny_holding ?_
  refine wpAny_bind (knd.pyHash hkey ?_)
  unfold dictSetHashed
  try with_reducible refine wpAny_holding ?_
  refine wpAny_bind (wpAny_dictFind_of (s := { s with toks := s.toks + 1 }) hkey ho hd hk ?_)
  have hidx : (es.findIdx? fun e => knd.is k e.key) = kvs.findIdx? fun kv => decide (kv.1 = k) := by
    rw [← hp.findIdx k]; obtain ⟨l⟩ := es; simp
  cases hi : es.findIdx? fun e => knd.is k e.key with
  | some i =>
    refine wpAny_bind (wpAny_rule (wpAny_bind (wpAny_updateDict (s := { s with toks := s.toks + 1 }) ho hd (wpAny_point ?_))))
    refine wpAny_pure ⟨.none, rfl, wpAny_pure (hQ _ ⟨_, _, Heap.get?_update_self _ ho (Obj.isFreed_of_dict (Obj.data_mapDict hd _)), hc.mapDict _, Obj.data_mapDict hd _, hk.modify _ _, ?_, ?_⟩ (Heap.SameBut.update ..))⟩
    · rw [stored, if_pos hin]
      have hl : (es.toList.findIdx? fun e => knd.is k e.key) = some i := by rw [← hi]; obtain ⟨l⟩ := es; simp
      have := hp.modify hn hl v
      obtain ⟨l⟩ := es
      simpa using this
    · rw [stored, if_pos hin, keys_map_store]; exact hn
  | none =>
    exfalso
    rw [hi] at hidx
    obtain ⟨p, hp1, hp2⟩ := List.any_eq_true.mp hin
    have := List.findIdx?_eq_none_iff.mp hidx.symm p hp1
    rw [hp2] at this; cases this
theorem seti_there {a : Addr} {l : List (Int × AV)} {ep : Nat} {i : Int} {v : AV} (e : φ a = some (.idict l ep)) (hin : (l.any fun p => decide (p.1 = i)) = true) (q : P (upd φ a (.idict (dset i v l) ep))) (hz : l.length ≤ 1000000) : SetI C ρ (.ref a) (.int i) v φ P := by
  rintro _ _ x rfl ⟨t, rfl⟩ hx
  refine WPx.of fun fz s m ψ H g o => ?_
  obtain ⟨kvs, c1, c2, c3⟩ := idict_of H e
  refine setItem_there (intKind_is _ _ _ _) c1 (by rw [← c2.any i]; exact hin) (fun h' hm hs => ?_) (sizeLine_ok (by omega))
  exact ⟨(), _, trivial, St.put (o' := .idict (dset i v l) ep) H g o e trivial trivial hs ⟨_, hm, c2.store i hx⟩, q⟩
theorem seti_idict {a : Addr} {l : List (Int × AV)} {ep : Nat} {i : Int} {v : AV} (e : φ a = some (.idict l ep)) (q : ∀ ep', P (upd φ a (.idict (dset i v l) ep'))) (hz : l.length ≤ 1000000) : SetI C ρ (.ref a) (.int i) v φ P := by
  rintro _ _ x rfl ⟨t, rfl⟩ hx
  refine WPx.of fun fz s m ψ H g o => ?_
  obtain ⟨kvs, c1, c2, c3⟩ := idict_of H e
  refine wpAny_setItem_pairs (hsz := sizeLine_ok (by omega)) (intKind_is _ _ _ _) c1.dictOf fun h' hm hs => ?_
  obtain ⟨ep', hm'⟩ := hm.dictAt
  exact ⟨(), _, trivial, St.put (o' := .idict (dset i v l) ep') H g o e trivial trivial hs ⟨_, hm', c2.store i hx⟩, q ep'⟩
theorem seti_sdict {a : Addr} {l : List (Str × AV)} {i : Str} {v : AV} (e : φ a = some (.sdict l)) (q : P (upd φ a (.sdict (dset i v l)))) (hz : l.length ≤ 1000000) : SetI C ρ (.ref a) (.str i) v φ P := by
  rintro _ _ x rfl ⟨t, rfl⟩ hx
  refine WPx.of fun fz s m ψ H g o => ?_
  obtain ⟨kvs, c1, c2, c3⟩ := sdict_of H e
  refine wpAny_setItem_pairs (hsz := sizeLine_ok (by omega)) (strKind_is _ _ _ _) c1 fun h' hm hs => ?_
  exact ⟨(), _, trivial, St.put (o' := .sdict (dset i v l)) H g o e trivial trivial hs ⟨_, hm, c2.store i hx⟩, q⟩
end
end Mine

open PySem PySem.W PyProof.Rows PySem.Calls PySem.MeetsSeq PySem.MeetsSeq2 PySem.MeetsSeq3
set_option Elab.async false
set_option maxRecDepth 100000
set_option linter.unusedVariables false
namespace Mine

section
variable {C : FC} {ρ : Loc} {φ : AH} {n : Nat} {R : AF → Loc → AH → Prop} {P : Loc → AH → Prop}

/-- stores to names -/
theorem xu_local {x : Str} {v : Value} {a : AV} (hv : a.is v) (q : P ((x, a) :: ρ) φ) (G : Gd C n := by assumption) (hx : C.env.kindOf x = some .local := by with_unfolding_all rfl) (hc : C.cl.lookup x = none := by with_unfolding_all rfl) : XU C (storeName C.env x v) ρ φ P := by
  rintro fz s ⟨⟨m, ψ, H⟩, g, o⟩
  refine wpAny_storeName_local hx H.fr.ns (fun h' hn hs => ?_) (by rw [show C.env.scope.kind = .function from G.fn]; rfl)
  have hL := H.apart C.L (.inl rfl)
  have K : HOk C.W fz φ ψ h' := H.ok.agree (fun b c => hs.2 b fun z => hL.1 ((show b = C.L from z) ▸ c)) (H.fr.set hn hs).keep fun b ob e => ⟨(hs.2 b fun z => by rw [show b = C.L from z, hL.2] at e; cases e).trans (H.ok.frz b ob e).1, (H.ok.frz b ob e).2⟩
  have cell : ∀ y c ov, C.cl.lookup y = some c → s.heap.IsCell c ov → h'.IsCell c ov := fun y c ov hy hcell => hcell.sameBut hs (G.clL y c hy).1
  refine ⟨_, φ, ⟨⟨_, ψ, H.fr.set hn hs, K, H.apart, ?_, ?_, ?_⟩, g, o⟩, q⟩
  · intro y w e hy
    rw [List.lookup_cons] at e
    by_cases z : (y == x) = true
    · rw [z] at e; cases e
      exact ⟨v, if_pos (beq_iff_eq.mp z), hv⟩
    · rw [Bool.eq_false_iff.mpr z] at e
      obtain ⟨u, hu, hi⟩ := H.loc y w e hy
      exact ⟨u, by rw [if_neg fun q => z (by rw [q]; exact beq_self_eq_true x)]; exact hu, hi⟩
  · intro y w c e hy
    rw [List.lookup_cons] at e
    by_cases z : (y == x) = true
    · rw [beq_iff_eq.mp z, hc] at hy; cases hy
    · rw [Bool.eq_false_iff.mpr z] at e
      obtain ⟨u, hu, hi⟩ := H.cel y w c e hy
      exact ⟨u, cell y c _ hy hu, hi⟩
  · intro y c hy
    obtain ⟨ov, hu⟩ := H.there y c hy
    exact ⟨ov, cell y c _ hy hu⟩
theorem xu_cell {x : Str} {v : Value} {a : AV} {c : Addr} (hv : a.is v) (hc : C.cl.lookup x = some c) (q : P ((x, a) :: ρ) φ) (G : Gd C n := by assumption) (hx : C.env.kindOf x = some .cell := by with_unfolding_all rfl) : XU C (storeName C.env x v) ρ φ P := by
  rintro fz s ⟨⟨m, ψ, H⟩, g, o⟩
  obtain ⟨ov, hu⟩ := H.there x c hc
  refine wpAny_storeName_cell G.fn hx hc hu fun h' hn hs => ?_
  have hL := H.apart c (.inr ⟨x, hc⟩)
  have hlow := G.clL x c hc
  have keep : ∀ b ob, C.W.g.get? b = some ob → h'.get? b = some ob := fun b ob e => (hs.2 b fun z => absurd (Heap.lt_size e) (by rw [z]; exact Nat.not_lt.mpr hlow.2)).trans (H.fr.keep b ob e)
  have K : HOk C.W fz φ ψ h' := H.ok.agree (fun b d => hs.2 b fun z => hL.1 (z ▸ d)) keep fun b ob e => ⟨(hs.2 b fun z => by rw [z, hL.2] at e; cases e).trans (H.ok.frz b ob e).1, (H.ok.frz b ob e).2⟩
  have cell : ∀ y d w, y ≠ x → C.cl.lookup y = some d → s.heap.IsCell d w → h'.IsCell d w := fun y d w hne hy hcell => hcell.sameBut hs fun z => hne (G.cl1 y x d hy (z ▸ hc))
  refine ⟨_, φ, ⟨⟨m, ψ, ⟨H.fr.ns.sameBut hs (Ne.symm hlow.1), keep, H.fr.above⟩, K, H.apart, ?_, ?_, ?_⟩, g, o⟩, q⟩
  · intro y w e hy
    rw [List.lookup_cons] at e
    by_cases z : (y == x) = true
    · rw [beq_iff_eq.mp z, hc] at hy; cases hy
    · rw [Bool.eq_false_iff.mpr z] at e
      exact H.loc y w e hy
  · intro y w d e hy
    rw [List.lookup_cons] at e
    by_cases z : (y == x) = true
    · rw [z] at e; cases e
      rw [beq_iff_eq.mp z, hc] at hy; cases hy
      exact ⟨v, hn, hv⟩
    · rw [Bool.eq_false_iff.mpr z] at e
      obtain ⟨u, hu, hi⟩ := H.cel y w d e hy
      exact ⟨u, cell y d _ (fun q => z (by rw [q]; exact beq_self_eq_true x)) hy hu, hi⟩
  · intro y d hy
    by_cases z : y = x
    · subst z; rw [hc] at hy; cases hy; exact ⟨_, hn⟩
    · obtain ⟨ov, hu⟩ := H.there y d hy
      exact ⟨ov, cell y d _ z hy hu⟩

def Asn (C : FC) (t : Expr) (a : AV) (ρ : Loc) (φ : AH) (P : Loc → AH → Prop) : Prop := ∀ v, a.is v → XU C (assign t C.env v) ρ φ P
theorem XU.mono {t : Sem Unit} {P P' : Loc → AH → Prop} (h : XU C t ρ φ P) (k : ∀ ρ' φ', P ρ' φ' → P' ρ' φ') : XU C t ρ φ P' := by
  intro fz s S
  refine wpAny_mono (h fz s S) (fun v s' => ?_) fun _ _ x => x
  rintro ⟨ρ', φ', S', q⟩
  exact ⟨ρ', φ', S', k _ _ q⟩
theorem asn_name {x : Str} {pos : Pos} {a : AV} (q : P ((x, a) :: ρ) φ) (G : Gd C n := by assumption) (hx : C.env.kindOf x = some .local := by with_unfolding_all rfl) (hc : C.cl.lookup x = none := by with_unfolding_all rfl) : Asn C (.Name x pos) a ρ φ P :=
  fun v hv fz s S => PyProof.Rows.assign_Name (xu_local hv q G hx hc fz s S)
theorem asn_cell {x : Str} {pos : Pos} {a : AV} {c : Addr} (hc : C.cl.lookup x = some c) (q : P ((x, a) :: ρ) φ) (G : Gd C n := by assumption) (hx : C.env.kindOf x = some .cell := by with_unfolding_all rfl) : Asn C (.Name x pos) a ρ φ P :=
  fun v hv fz s S => PyProof.Rows.assign_Name (xu_cell hv hc q G hx fz s S)
/-- several targets, one after the other -/
def AsnAll (C : FC) : List Expr → List AV → Loc → AH → (Loc → AH → Prop) → Prop
  | [], [], ρ, φ, P => P ρ φ
  | t :: ts, a :: as, ρ, φ, P => Asn C t a ρ φ (fun ρ' φ' => AsnAll C ts as ρ' φ' P)
  | _, _, _, _, _ => False
theorem asn_tuple {elts : List Expr} {k : Nat} {pos : Pos} {t : Addr} {l : List AV} (e : φ t = some (.tup l)) (h : AsnAll C elts l ρ φ P) (hn : elts.length = l.length) (G : Gd C n := by assumption)
    (hA : assignEach elts C.env = elts.map (fun x => (false, fun v => assign x C.env v)) := by with_unfolding_all rfl) : Asn C (.Tuple elts k pos) (.ref t) ρ φ P := by
  rintro _ rfl fz s ⟨⟨m, ψ, H⟩, g, o⟩
  obtain ⟨vs, j, c1, c2⟩ := H.ok.heap _ _ e
  refine assign_Tuple_tuple G.room.h ⟨_, c1, rfl, j, rfl⟩ (by rw [hA, List.length_map, hn, c2.length]; simp) ?_ fun h' he => ?_
  · rw [hA, List.findIdx?_map]
    exact List.findIdx?_eq_none_iff.mpr fun x _ => rfl
  · have hk : ∀ b ob, s.heap.get? b = some ob → h'.get? b = some ob := fun b ob e => he b ob (Nat.ne_of_lt (Heap.lt_size e)) e
    rw [hA, List.map_map]
    have S : St C fz ρ φ { s with heap := h' } := St.grow H g o hk
    clear hA e c1 H hn
    revert S
    generalize ({ s with heap := h' } : Shared) = s'
    clear he hk
    intro S
    generalize vs.toList = us at c2
    induction c2 generalizing elts ρ φ s' with
    | nil =>
      cases elts with
      | nil => exact assignInOrder_nil ⟨_, _, S, h⟩
      | cons _ _ => exact h.elim
    | cons hr _ ih =>
      cases elts with
      | nil => exact h.elim
      | cons x xs =>
        refine assignInOrder_cons (wpAny_mono (h _ hr fz s' S) (fun _ s'' => ?_) fun _ _ x => x)
        rintro ⟨ρ', φ', S', q⟩
        exact ih q s'' S'

/-- what stands behind, by a name -/
def Imp (K R : AF → Loc → AH → Prop) : Prop := ∀ fl ρ φ, K fl ρ φ → R fl ρ φ
theorem Imp.go {K R : AF → Loc → AH → Prop} {fl : AF} {ρ : Loc} {φ : AH} (h : Imp K R) (k : K fl ρ φ) : R fl ρ φ := h fl ρ φ k
theorem Imp.refl (K : AF → Loc → AH → Prop) : Imp K K := fun _ _ _ h => h
/-- a block -/
def Then (C : FC) (rest : List Stmt) (R : AF → Loc → AH → Prop) : AF → Loc → AH → Prop
  | .next, ρ, φ => XS C (execs rest C.env) ρ φ R
  | f, ρ, φ => R f ρ φ
theorem xs_nil (q : R .next ρ φ) : XS C (execs [] C.env) ρ φ R := fun fz s S => wpAny_execs_nil ⟨.next, ρ, φ, rfl, S, q⟩
theorem xs_cons {st : Stmt} {rest : List Stmt} (h : XS C (exec st C.env) ρ φ (Then C rest R)) : XS C (execs (st :: rest) C.env) ρ φ R := by
  intro fz s S
  refine wpAny_execs_cons (wpAny_mono (h fz s S) (fun f s' => ?_) fun _ _ x => x)
  rintro ⟨b, ρ', φ', hb, S', q⟩
  cases b with
  | next => cases hb; exact q fz s' S'
  | brk => cases hb; exact ⟨.brk, ρ', φ', rfl, S', q⟩
  | cont => cases hb; exact ⟨.cont, ρ', φ', rfl, S', q⟩
  | ret v => obtain ⟨u, rfl, hu⟩ := hb; exact ⟨.ret v, ρ', φ', ⟨u, rfl, hu⟩, S', q⟩
theorem XS.mono {t : Sem Flow} {R R' : AF → Loc → AH → Prop} (h : XS C t ρ φ R) (k : ∀ f ρ' φ', R f ρ' φ' → R' f ρ' φ') : XS C t ρ φ R' := by
  intro fz s S
  refine wpAny_mono (h fz s S) (fun v s' => ?_) fun _ _ x => x
  rintro ⟨b, ρ', φ', hb, S', q⟩
  exact ⟨b, ρ', φ', hb, S', k _ _ _ q⟩
/-- names may be forgotten -/
theorem XS.sub {t : Sem Flow} {ρ' : Loc} (h : XS C t ρ' φ R) (k : Sub ρ' ρ) : XS C t ρ φ R := fun fz s S => h fz s (S.sub k)

theorem x_assign {x : Str} {pos' pos : Pos} {value : Expr} {rest : List Stmt} (h : EV C (eval value C.env) ρ φ fun a φ₁ => XS C (execs rest C.env) ((x, a) :: ρ) φ₁ R) (G : Gd C n := by assumption)
    (hs : swapsWith value (some (.Name x pos')) pos.line C.env = pure false := by with_unfolding_all rfl) (hx : C.env.kindOf x = some .local := by with_unfolding_all rfl) (hc : C.cl.lookup x = none := by with_unfolding_all rfl) : XS C (execs (.Assign [.Name x pos'] value pos :: rest) C.env) ρ φ R := by
  refine xs_cons fun fz s S => wpAny_Assign_Name (wpAny_mono (h fz s S) (fun v s' => ?_) fun _ _ x => x) hs
  rintro ⟨a, φ', hr, S', q⟩
  refine wpAny_mono (xu_local (P := fun ρ' φ'' => ρ' = (x, a) :: ρ ∧ φ'' = φ') hr ⟨rfl, rfl⟩ G hx hc fz s' S') (fun _ s'' => ?_) fun _ _ x => x
  rintro ⟨_, _, S'', rfl, rfl⟩
  exact ⟨.next, _, _, rfl, S'', q⟩
theorem x_assign_attr {o value : Expr} {x : Str} {pos' pos : Pos} {rest : List Stmt}
    (h : EV C (eval value C.env) ρ φ fun v φ₁ => EV C (eval o C.env) ρ φ₁ fun a φ₂ => SetA C ρ a x v φ₂ fun φ₃ => XS C (execs rest C.env) ρ φ₃ R)
    (hs : swapsWith value (some (.Attribute o x pos')) pos.line C.env = pure false := by with_unfolding_all rfl) : XS C (execs (.Assign [.Attribute o x pos'] value pos :: rest) C.env) ρ φ R := by
  refine xs_cons fun fz s S => plainObj_wpAny_Assign_Attribute (wpAny_mono (h fz s S) (fun v s' => ?_) fun _ _ x => x) hs
  rintro ⟨a, φ', hr, S', q⟩
  refine wpAny_mono (q fz s' S') (fun u s'' => ?_) fun _ _ x => x
  rintro ⟨b, φ'', hr', S'', q'⟩
  refine wpAny_mono (q' u v hr' hr fz s'' S'') (fun _ s₃ => ?_) fun _ _ x => x
  rintro ⟨_, φ₃, _, S₃, q₃⟩
  exact ⟨.next, ρ, φ₃, rfl, S₃, q₃⟩
theorem x_assign_sub {o i value : Expr} {pos' pos : Pos} {rest : List Stmt}
    (h : EV C (eval value C.env) ρ φ fun v φ₁ => EV C (eval o C.env) ρ φ₁ fun a φ₂ => EV C (eval i C.env) ρ φ₂ fun b φ₃ => SetI C ρ a b v φ₃ fun φ₄ => XS C (execs rest C.env) ρ φ₄ R)
    (hs : swapsWith value (some (.Subscript o i pos')) pos.line C.env = pure false := by with_unfolding_all rfl) : XS C (execs (.Assign [.Subscript o i pos'] value pos :: rest) C.env) ρ φ R := by
  refine xs_cons fun fz s S => wpAny_Assign_Subscript (wpAny_mono (h fz s S) (fun v s' => ?_) fun _ _ x => x) hs
  rintro ⟨a, φ', hr, S', q⟩
  refine wpAny_mono (q fz s' S') (fun u s'' => ?_) fun _ _ x => x
  rintro ⟨b, φ'', hr', S'', q'⟩
  refine wpAny_mono (q' fz s'' S'') (fun w s₃ => ?_) fun _ _ x => x
  rintro ⟨c, φ₃, hr₃, S₃, q₃⟩
  refine wpAny_mono (q₃ u w v hr' hr₃ hr fz s₃ S₃) (fun _ s₄ => ?_) fun _ _ x => x
  rintro ⟨_, φ₄, _, S₄, q₄⟩
  exact ⟨.next, ρ, φ₄, rfl, S₄, q₄⟩
theorem x_assign_tuple {elts : List Expr} {k : Nat} {tpos pos : Pos} {value : Expr} {rest : List Stmt}
    (h : EV C (eval value C.env) ρ φ fun a φ₁ => Asn C (.Tuple elts k tpos) a ρ φ₁ fun ρ' φ₂ => XS C (execs rest C.env) ρ' φ₂ R)
    (h1 : swapsWithSole [.Tuple elts k tpos] value pos.line C.env = pure false := by with_unfolding_all rfl) (h2 : swappedStores [.Tuple elts k tpos] value C.env = pure none := by with_unfolding_all rfl) : XS C (execs (.Assign [.Tuple elts k tpos] value pos :: rest) C.env) ρ φ R := by
  refine xs_cons fun fz s S => Assign_Tuple (wpAny_mono (h fz s S) (fun v s' => ?_) fun _ _ x => x) h1 h2
  rintro ⟨a, φ', hr, S', q⟩
  refine wpAny_mono (q v hr fz s' S') (fun _ s'' => ?_) fun _ _ x => x
  rintro ⟨ρ', φ'', S'', q'⟩
  exact ⟨.next, ρ', φ'', rfl, S'', q'⟩
theorem x_aug {x : Str} {pos' pos : Pos} {op : Operator} {value : Expr} {v : AV} {rest : List Stmt} (hv : ρ.lookup x = some v)
    (h : EV C (eval value C.env) ρ φ fun b φ₁ => Inp C ρ op v b φ₁ fun r φ₂ => XS C (execs rest C.env) ((x, r) :: ρ) φ₂ R) (G : Gd C n := by assumption)
    (hx : C.env.kindOf x = some .local := by with_unfolding_all rfl) (hc : C.cl.lookup x = none := by with_unfolding_all rfl) : XS C (execs (.AugAssign (.Name x pos') op value pos :: rest) C.env) ρ φ R := by
  refine xs_cons fun fz s S => wpAny_AugAssign_Name ?_
  obtain ⟨⟨m, ψ, H⟩, g, o⟩ := id S
  obtain ⟨u, hu, hi⟩ := H.loc x v hv hc
  refine wpAny_loadName_local G.fn hx H.fr.ns hu (wpAny_mono (h fz s S) (fun w s' => ?_) fun _ _ x => x)
  rintro ⟨b, φ', hr, S', q⟩
  refine wpAny_mono (q u w hi hr fz s' S') (fun y s'' => ?_) fun _ _ x => x
  rintro ⟨r, φ'', hr', S'', q'⟩
  refine wpAny_mono (xu_local (P := fun ρ' φ₃ => ρ' = (x, r) :: ρ ∧ φ₃ = φ'') hr' ⟨rfl, rfl⟩ G hx hc fz s'' S'') (fun _ s₃ => ?_) fun _ _ x => x
  rintro ⟨_, _, S₃, rfl, rfl⟩
  exact ⟨.next, _, _, rfl, S₃, q'⟩
theorem x_aug_attr {o value : Expr} {x : Str} {tpos pos : Pos} {op : Operator} {rest : List Stmt}
    (h : EV C (eval o C.env) ρ φ fun a φ₁ => Att C ρ a x φ₁ fun v φ₂ => EV C (eval value C.env) ρ φ₂ fun b φ₃ => Inp C ρ op v b φ₃ fun r φ₄ => SetA C ρ a x r φ₄ fun φ₅ => XS C (execs rest C.env) ρ φ₅ R) :
    XS C (execs (.AugAssign (.Attribute o x tpos) op value pos :: rest) C.env) ρ φ R := by
  refine xs_cons fun fz s S => wpAny_AugAssign_AttributeAny (wpAny_mono (h fz s S) (fun u s' => ?_) fun _ _ x => x)
  rintro ⟨a, φ', hr, S', q⟩
  refine wpAny_mono (q u hr fz s' S') (fun w s'' => ?_) fun _ _ x => x
  rintro ⟨v, φ'', hr', S'', q'⟩
  refine wpAny_mono (q' fz s'' S'') (fun y s₃ => ?_) fun _ _ x => x
  rintro ⟨b, φ₃, hr₃, S₃, q₃⟩
  refine wpAny_mono (q₃ w y hr' hr₃ fz s₃ S₃) (fun z s₄ => ?_) fun _ _ x => x
  rintro ⟨r, φ₄, hr₄, S₄, q₄⟩
  refine wpAny_mono (q₄ u z hr hr₄ fz s₄ S₄) (fun _ s₅ => ?_) fun _ _ x => x
  rintro ⟨_, φ₅, _, S₅, q₅⟩
  exact ⟨.next, ρ, φ₅, rfl, S₅, q₅⟩
theorem x_aug_sub {o i value : Expr} {pos' pos : Pos} {op : Operator} {rest : List Stmt}
    (h : EV C (eval o C.env) ρ φ fun a φ₁ => EV C (eval i C.env) ρ φ₁ fun c φ₂ => Itm C ρ a c φ₂ fun v φ₃ => EV C (eval value C.env) ρ φ₃ fun b φ₄ => Inp C ρ op v b φ₄ fun r φ₅ => SetI C ρ a c r φ₅ fun φ₆ => XS C (execs rest C.env) ρ φ₆ R)
    (hs : ∀ ov iv new, augStore i ov iv new = (do
            holding [new, ov, iv] (setItem ov iv new)
            release [new, ov, iv] []
            pure Flow.next) := by intros; with_unfolding_all rfl) :
    XS C (execs (.AugAssign (.Subscript o i pos') op value pos :: rest) C.env) ρ φ R := by
  refine xs_cons fun fz s S => wpAny_AugAssign_Subscript_any (wpAny_mono (h fz s S) (fun u s' => ?_) fun _ _ x => x) hs
  rintro ⟨a, φ', hr, S', q⟩
  refine wpAny_mono (q fz s' S') (fun w s'' => ?_) fun _ _ x => x
  rintro ⟨c, φ'', hr', S'', q'⟩
  refine wpAny_mono (q' u w hr hr' fz s'' S'') (fun y s₃ => ?_) fun _ _ x => x
  rintro ⟨v, φ₃, hr₃, S₃, q₃⟩
  refine wpAny_mono (q₃ fz s₃ S₃) (fun z s₄ => ?_) fun _ _ x => x
  rintro ⟨b, φ₄, hr₄, S₄, q₄⟩
  refine wpAny_mono (q₄ y z hr₃ hr₄ fz s₄ S₄) (fun t s₅ => ?_) fun _ _ x => x
  rintro ⟨r, φ₅, hr₅, S₅, q₅⟩
  refine wpAny_mono (q₅ u w t hr hr' hr₅ fz s₅ S₅) (fun _ s₆ => ?_) fun _ _ x => x
  rintro ⟨_, φ₆, _, S₆, q₆⟩
  exact ⟨.next, ρ, φ₆, rfl, S₆, q₆⟩
theorem x_if {test : Expr} {body orelse rest : List Stmt} {pos : Pos}
    (h : EB C (PySem.isTrue test C.env (eval test C.env)) ρ φ fun b φ₁ => (b = true → XS C (execs body C.env) ρ φ₁ (Then C rest R)) ∧ (b = false → XS C (execs orelse C.env) ρ φ₁ (Then C rest R))) : XS C (execs (.If test body orelse pos :: rest) C.env) ρ φ R := by
  refine xs_cons fun fz s S => wpAny_If (wpAny_mono (h fz s S) (fun v s' => ?_) fun _ _ x => x)
  rintro ⟨b, φ', rfl, S', q⟩
  cases b with
  | true => rw [if_pos rfl]; exact q.1 rfl fz s' S'
  | false => rw [if_neg (by simp)]; exact q.2 rfl fz s' S'
theorem x_expr {e : Expr} {pos : Pos} {rest : List Stmt} (h : EV C (eval e C.env) ρ φ fun _ φ₁ => XS C (execs rest C.env) ρ φ₁ R) (hi : interactive C.env = false := by with_unfolding_all rfl) (hs : swapsWith e none pos.line C.env = pure false := by with_unfolding_all rfl) :
    XS C (execs (.Expr e pos :: rest) C.env) ρ φ R := by
  refine xs_cons fun fz s S => wpAny_Expr_any (wpAny_mono (h fz s S) (fun v s' => ?_) fun _ _ x => x) hi hs
  rintro ⟨b, φ', hr, S', q⟩
  exact ⟨.next, ρ, φ', rfl, S', q⟩
theorem x_return {e : Expr} {pos : Pos} {rest : List Stmt} (h : EV C (eval e C.env) ρ φ fun a φ₁ => R (.ret a) ρ φ₁) : XS C (execs (.Return (some e) pos :: rest) C.env) ρ φ R := by
  refine xs_cons fun fz s S => wpAny_Return_some (wpAny_mono (h fz s S) (fun v s' => ?_) fun _ _ x => x)
  rintro ⟨b, φ', hr, S', q⟩
  exact ⟨.ret b, ρ, φ', ⟨v, rfl, hr⟩, S', q⟩
theorem x_break {pos : Pos} {rest : List Stmt} (q : R .brk ρ φ) : XS C (execs (.Break pos :: rest) C.env) ρ φ R :=
  xs_cons fun fz s S => wpAny_Break ⟨.brk, ρ, φ, rfl, S, q⟩
end
end Mine

open PySem PySem.W PyProof.Rows PySem.Calls PySem.MeetsSeq PySem.MeetsSeq2 PySem.MeetsSeq3
set_option Elab.async false
set_option maxRecDepth 100000
set_option linter.unusedVariables false
namespace Mine

/-- a state without a frame -/
def GSt (W : Wd) (fz : Addr → Option Obj) (φ : AH) (s : Shared) : Prop := (∃ ψ, HOk W fz φ ψ s.heap) ∧ W.g.objs.size ≤ s.heap.objs.size ∧ s.gens = W.gens ∧ s.os = W.os
/-- what a call of the text's own does -/
def Spec (W : Wd) (lvl : Nat) (f : Addr) (as : List AV) (φ : AH) (Q : AV → AH → Prop) : Prop :=
  ∀ A, Room A lvl → ∀ vs, AreV as vs → ∀ fz s, GSt W fz φ s → codeAny (model W.prog W.w) A (.call (.ref f) ⟨vs, []⟩)
    (fun r s' => match r with | .ok (.ret v) => ∃ b φ', AV.is b v ∧ GSt W fz φ' s' ∧ Q b φ' | _ => False) s
theorem Spec.mono {W : Wd} {lvl : Nat} {f : Addr} {as : List AV} {φ : AH} {Q Q' : AV → AH → Prop} (h : Spec W lvl f as φ Q) (k : ∀ a φ', Q a φ' → Q' a φ') : Spec W lvl f as φ Q' := by
  intro A r vs hv fz s S
  refine codeAny_mono (h A r vs hv fz s S) fun r s' z => ?_
  split at z
  · obtain ⟨b, φ', h1, h2, h3⟩ := z; exact ⟨b, φ', h1, h2, k _ _ h3⟩
  · exact z.elim

section
variable {C : FC} {ρ : Loc} {φ : AH} {n : Nat} {Q : AV → AH → Prop}
open Classical in
noncomputable def FC.hold (C : FC) (fz : Addr → Option Obj) (h : Heap) : Addr → Option Obj := fun b => if C.mine b then h.get? b else fz b
theorem StC.toG {fz : Addr → Option Obj} {m ψ h} (H : StC C fz ρ φ m ψ h) : HOk C.W (C.hold fz h) φ ψ h := by
  refine H.ok.agree (fun b _ => rfl) H.fr.keep fun b o e => ?_
  unfold FC.hold at e
  split at e
  · rename_i hb; exact ⟨e, (H.apart b hb).1⟩
  · exact H.ok.frz b o e
theorem StC.ofG {fz : Addr → Option Obj} {m ψ h φ' ψ' h'} (H : StC C fz ρ φ m ψ h) (K : HOk C.W (C.hold fz h) φ' ψ' h') : StC C fz ρ φ' m ψ' h' := by
  have key : ∀ b, C.mine b → h'.get? b = h.get? b ∧ ¬ cov φ' ψ' b := fun b hb => by
    obtain ⟨o, e⟩ := H.old hb
    have := K.frz b o (by unfold FC.hold; rw [if_pos hb]; exact e)
    exact ⟨this.1.trans e.symm, this.2⟩
  refine H.frame (K.agree (fun b _ => rfl) K.keep fun b o e => ?_) (fun b hb => (key b hb).1) fun b hb => (key b hb).2
  have hb : ¬ C.mine b := fun q => by rw [(H.apart b q).2] at e; cases e
  exact K.frz b o (by unfold FC.hold; rw [if_neg hb]; exact e)
theorem cal_spec {f : Addr} {as : List AV} {lvl : Nat} (h : Spec C.W lvl f as φ Q) (G : Gd C n := by assumption) (hl : lvl ≤ n := by decide) : Cal C ρ (.ref f) as φ Q := by
  rintro _ vs rfl hv fz s ⟨⟨m, ψ, H⟩, g, o⟩
  refine wpAny_call (codeAny_mono (h C.A (G.room.le hl) vs hv _ s ⟨⟨ψ, H.toG⟩, H.low, g, o⟩) fun r s' z => ?_)
  split at z
  · obtain ⟨b, φ', h1, ⟨⟨ψ', K⟩, _, g', o'⟩, h3⟩ := z
    exact ⟨b, φ', h1, ⟨⟨m, ψ', H.ofG K⟩, g', o'⟩, h3⟩
  · exact z.elim
end

/-- the function at f is the text's def st -/
def FnAt (K : Frag) (f : Addr) (qual : Str) (st : Stmt) : Prop :=
  ∃ oc od osl name doc pm an cdv ct, K.lookup f = some ⟨oc, od, .func (fnOf name qual (dArgs st) (dBody st) (dScope st) .none .none doc pm an cdv ct), osl⟩ ∧ codeIn K cdv qual = true

theorem Are.zip_rel {names : List Str} {as : List AV} {vs : List Value} (h : AreV as vs) : Are (fun p q => p.1 = q.1 ∧ AV.is p.2 q.2) (names.zip as) (names.zip vs) := by
  induction h generalizing names with
  | nil => simp; exact .nil
  | cons hr _ ih =>
    cases names with
    | nil => exact .nil
    | cons x xs => exact .cons ⟨rfl, hr⟩ ih
theorem Are.lookup_rel {l : Loc} {k : List (Str × Value)} (h : Are (fun p q => p.1 = q.1 ∧ AV.is p.2 q.2) l k) {x : Str} {v : AV} (e : l.lookup x = some v) : ∃ u, k.lookup x = some u ∧ v.is u := by
  induction h with
  | nil => cases e
  | @cons p q l k hr _ ih =>
    obtain ⟨y, a⟩ := p
    obtain ⟨z, b⟩ := q
    obtain ⟨h1, h2⟩ := hr
    dsimp only at h1 h2
    subst h1
    rw [List.lookup_cons] at e ⊢
    by_cases q : (x == y) = true
    · rw [q] at e ⊢; cases e; exact ⟨b, rfl, h2⟩
    · rw [Bool.eq_false_iff.mpr q] at e ⊢; exact ih e

theorem GSt.size {W : Wd} {fz φ s} (S : GSt W fz φ s) : W.g.objs.size ≤ s.heap.objs.size := S.2.1

abbrev Post (Q : AV → AH → Prop) : AF → Loc → AH → Prop := fun fl _ φ' => match fl with | .ret v => Q v φ' | .next => Q .none φ' | _ => False
theorem len1 {vs : List Value} (h : vs.length = 1) : ∃ a, vs = [a] := by
  cases vs with
  | nil => cases h
  | cons a l => cases l with
    | nil => exact ⟨a, rfl⟩
    | cons b l => cases h
theorem lenS {vs : List Value} {n : Nat} (h : vs.length = n + 1) : ∃ a l, vs = a :: l ∧ l.length = n := by
  cases vs with
  | nil => cases h
  | cons a l => exact ⟨a, l, rfl, Nat.succ.inj h⟩
/-- a def without cells: its body's walk is its spec -/
theorem spec_def {W : Wd} (ok : W.Ok) {lvl : Nat} {f : Addr} {qual : Str} {st : Stmt} {names : List Str} {as : List AV} {φ : AH} {Q : AV → AH → Prop} (hf : FnAt W.K f qual st)
    (hb : ∀ name doc pm an cdv ct (vs : List Value), vs.length = as.length → bindArgs (fnOf name qual (dArgs st) (dBody st) (dScope st) .none .none doc pm an cdv ct) ⟨vs, []⟩ = pure (names.zip vs))
    (hl : (names.all fun y => (dScope st).names.lookup y == some .local) = true)
    (h : ∀ A L cd, Gd ⟨W, A, envX qual (dScope st) L f cd []⟩ lvl → ∀ R, Imp (Post Q) R → XS ⟨W, A, envX qual (dScope st) L f cd []⟩ (execs (dBody st) (envX qual (dScope st) L f cd [])) (names.zip as).reverse φ R)
    (hk : (dScope st).kind = .function := by rfl) (hco : (dScope st).isCoroutine = false := by rfl) (hgen : (dScope st).isGenerator = false := by rfl) (hcell : ∀ x ∈ (dScope st).names, x.2 ≠ .cell := by decide) : Spec W (lvl + 1) f as φ Q := by
  intro A r vs hv fz s S
  obtain ⟨oc, od, osl, name, doc, pm, an, cdv, ct, ho, hcd⟩ := hf
  obtain ⟨⟨ψ, K⟩, hsz, g, o⟩ := id S
  have X : W.K.In s.heap := ok.X.keeps K.keep
  refine codeAny_call_def (fd := fnOf name qual (dArgs st) (dBody st) (dScope st) .none .none doc pm an cdv ct) (body := dBody st) (binds := names.zip vs) (by have := r.d; omega) (X _ _ ho) rfl (ok.T.nolimit.keeps K.keep) (codeRec_of X hcd) rfl
    (BindsTo.of_eq (hb name doc pm an cdv ct vs hv.length.symm)) hcell (fun x hx => ?_) (fun h₁ hns hk₁ => ?_) hco hgen hk
  · have := List.all_eq_true.mp hl x.1 (List.of_mem_zip hx).1
    exact beq_iff_eq.mp this
  · have G : Gd ⟨W, A.deeper (envX qual (dScope st) s.heap.objs.size f cdv []), envX qual (dScope st) s.heap.objs.size f cdv []⟩ lvl :=
      ⟨ok, r.deeper, hk, rfl, rfl, (fun x c e => by cases e), (fun x y c e => by cases e)⟩
    have K' := K.grow hk₁
    have hnone : s.heap.get? s.heap.objs.size = none := old_none (Nat.le_refl _)
    have SC : StC ⟨W, A.deeper (envX qual (dScope st) s.heap.objs.size f cdv []), envX qual (dScope st) s.heap.objs.size f cdv []⟩ fz (names.zip as).reverse φ (fun x => List.lookup x (names.zip vs).reverse) ψ h₁ := by
      refine ⟨⟨hns, K'.keep, hsz⟩, K', fun b hb => ?_, fun x v e _ => (hv.zip_rel (names := names)).reverse.lookup_rel e, (fun x v c e q => by cases q), (fun x c q => by cases q)⟩
      have hb' : b = s.heap.objs.size := by rcases hb with rfl | ⟨x, q⟩; rfl; cases q
      subst hb'
      exact ⟨(K.none_of hnone).2.2, (K.none_of hnone).2.1⟩
    refine wpAny_mono (h _ _ cdv G _ (Imp.refl _) fz ⟨h₁, s.gens, s.drawn, _, s.os⟩ ⟨⟨_, ψ, SC⟩, g, o⟩) (fun fl s' => ?_) fun _ _ x => x.elim
    rintro ⟨b, ρ', φ', hb, ⟨⟨m', ψ', H'⟩, g', o'⟩, q⟩
    cases b with
    | next => cases hb; exact ⟨.none, φ', rfl, ⟨⟨ψ', H'.ok⟩, H'.low, g', o'⟩, q⟩
    | brk => exact q.elim
    | cont => exact q.elim
    | ret v => obtain ⟨u, rfl, hu⟩ := hb; exact ⟨v, φ', hu, ⟨⟨ψ', H'.ok⟩, H'.low, g', o'⟩, q⟩

/-- an object of a class of the text's own -/
structure MkOk (K : Frag) (D fI : Addr) : Prop where
  mak : makesIn K D = true
  hi : findIn K (.ref D) "__init__" = some (some (.ref fI))
  hf : typeIn K (.ref fI) = some (.type "function")
theorem room_make {A : Around} {D : Addr} {vs : List Value} {n : Nat} (r : Room A (n + 1)) : ∃ A', A' = A.under (.builtin "type.__call__" ⟨.ref D :: vs, []⟩) ∧ A'.depth + 2 * n + 1 < recursionLimit ∧ A'.units + 8 * n + 200 < cLine ∧ A'.handled = none := by
  refine ⟨_, rfl, ?_, ?_, r.h⟩
  · rw [depth_under_make]; have := r.d; omega
  · have h1 : (A.under (.builtin "type.__call__" ⟨.ref D :: vs, []⟩)).units = A.units + Code.cUnits (.builtin "type.__call__" ⟨.ref D :: vs, []⟩) := rfl
    have h2 : Code.cUnits (.builtin "type.__call__" ⟨.ref D :: vs, []⟩) ≤ 8 := by
      first | decide | (simp [Code.cUnits, Code.frames, Code.isFrame])
    have := r.u; omega
section
variable {C : FC} {ρ : Loc} {φ : AH} {n : Nat} {Q : AV → AH → Prop}
theorem cal_cls {D fI : Addr} {as : List AV} {lvl : Nat} (M : MkOk C.W.K D fI)
    (h : ∀ x, φ x = none → Spec C.W lvl fI (.ref x :: as) (upd φ x (.inst D [])) (fun r φ' => r = .none ∧ Q (.ref x) φ')) (G : Gd C n := by assumption) (hl : lvl < n := by decide) : Cal C ρ (.ref D) as φ Q := by
  rintro _ vs rfl hv fz s ⟨⟨m, ψ, H⟩, g, o⟩
  obtain ⟨hh, gg, dd, tt, oo⟩ := s
  dsimp only at H g o
  have X : C.W.K.In hh := H.In G
  refine wpAny_call (make_core (makes_of X M.mak) (looks_findIn X M.hi) (fun self => bind_fn X self M.hf) (.inl rfl) ?_)
  have hk : ∀ b o, hh.get? b = some o → ((hh.push emptyDict).push (instObj D hh.objs.size)).get? b = some o := fun b o e => Heap.get?_push_of_some _ (Heap.get?_push_of_some _ e)
  have e1 : ((hh.push emptyDict).push (instObj D hh.objs.size)).get? (hh.objs.size + 1) = some (instObj D hh.objs.size) := by
    have := Heap.get?_push_size (hh.push emptyDict) (o := instObj D hh.objs.size) rfl
    rwa [Heap.size_push] at this
  have e2 : ((hh.push emptyDict).push (instObj D hh.objs.size)).get? hh.objs.size = some emptyDict := Heap.get?_push_of_some _ (Heap.get?_push_size _ rfl)
  obtain ⟨n1, H'⟩ := H.newInst (h' := (hh.push emptyDict).push (instObj D hh.objs.size)) (a := hh.objs.size + 1) (d := hh.objs.size) (D := D) (fs := []) (Nat.le_succ _) (Nat.le_refl _) (Nat.succ_ne_self _) hk ⟨by simp only [if_true]; exact e1, [], 0, by simp only [if_true]; exact e2, .nil⟩
  have hs := h _ n1 (C.A.under (.builtin "type.__call__" ⟨.ref D :: vs, []⟩)) ?_ (.ref (hh.objs.size + 1) :: vs) (.cons rfl hv) _ ⟨(hh.push emptyDict).push (instObj D hh.objs.size), gg, dd, tt, oo⟩ ⟨⟨_, H'.toG⟩, H'.low, g, o⟩
  · refine codeAny_mono hs fun r s' z => ?_
    split at z
    · obtain ⟨b, φ', h1, ⟨⟨ψ', K⟩, _, g', o'⟩, rfl, h3⟩ := z
      exact ⟨h1, .ref (hh.objs.size + 1), φ', rfl, ⟨⟨m, ψ', by
        have := H'.ofG K
        exact this⟩, g', o'⟩, h3⟩
    · exact z.elim
  · obtain ⟨A', rfl, h1, h2, h3⟩ := room_make (D := D) (vs := vs) (G.room.le (show lvl + 1 ≤ n from hl))
    exact ⟨by omega, h2, h3⟩
end
end Mine

open PySem PySem.W PyProof.Rows PySem.Calls PySem.MeetsSeq PySem.MeetsSeq2 PySem.MeetsSeq3
set_option Elab.async false
set_option maxRecDepth 100000
set_option linter.unusedVariables false
namespace Mine

noncomputable def frzAt (fz : Addr → Option Obj) (it : Addr) (o : Obj) : Addr → Option Obj := fun b => if b = it then some o else fz b
section
variable {C : FC} {fz : Addr → Option Obj} {ρ : Loc} {φ : AH} {m : Str → Option Value} {ψ : Addr → Addr} {h h' : Heap} {it : Addr} {o o' : Obj}
theorem StC.freeze (H : StC C fz ρ φ m ψ h) (e : h.get? it = some o) (nc : ¬ cov φ ψ it) (nm : ¬ C.mine it) : StC C (frzAt fz it o) ρ φ m ψ h := by
  refine ⟨H.fr, H.ok.agree (fun b _ => rfl) H.fr.keep fun b x q => ?_, fun b hb => ⟨(H.apart b hb).1, ?_⟩, H.loc, H.cel, H.there⟩
  · unfold frzAt at q
    split at q
    · rename_i z; cases q; rw [z]; exact ⟨e, nc⟩
    · exact H.ok.frz b x q
  · unfold frzAt; rw [if_neg fun (z : b = it) => nm (z ▸ hb)]; exact (H.apart b hb).2
theorem StC.frozen (H : StC C (frzAt fz it o) ρ φ m ψ h) : h.get? it = some o ∧ ¬ cov φ ψ it ∧ ¬ C.mine it := by
  have q : frzAt fz it o it = some o := by unfold frzAt; rw [if_pos rfl]
  refine ⟨(H.ok.frz it o q).1, (H.ok.frz it o q).2, fun hb => ?_⟩
  have := (H.apart it hb).2
  rw [q] at this; cases this
theorem StC.step (H : StC C (frzAt fz it o) ρ φ m ψ h) (low : C.W.g.objs.size ≤ it) (hs : Heap.SameBut it h h') (e : h'.get? it = some o') : StC C (frzAt fz it o') ρ φ m ψ h' := by
  obtain ⟨_, nc, nm⟩ := H.frozen
  have K : HOk C.W (frzAt fz it o') φ ψ h' := H.ok.agree (fun b c => hs.2 b fun z => nc (z ▸ c)) (fun b x q => (hs.2 b fun z => absurd (Heap.lt_size q) (by rw [z]; exact Nat.not_lt.mpr low)).trans (H.fr.keep b x q)) fun b x q => by
    unfold frzAt at q
    split at q
    · rename_i z; cases q; rw [z]; exact ⟨e, nc⟩
    · rename_i z
      have := H.ok.frz b x (by unfold frzAt; rw [if_neg z]; exact q)
      exact ⟨(hs.2 b z).trans this.1, this.2⟩
  have hm : ∀ b, C.mine b → h'.get? b = h.get? b := fun b hb => hs.2 b fun z => nm (z ▸ hb)
  have cell : ∀ x c ov, C.cl.lookup x = some c → h.IsCell c ov → h'.IsCell c ov := by
    rintro x c ov hx ⟨o, e, d⟩; exact ⟨o, by rw [hm c (.inr ⟨x, hx⟩)]; exact e, d⟩
  refine ⟨⟨?_, K.keep, H.fr.above⟩, K, fun b hb => ⟨(H.apart b hb).1, ?_⟩, H.loc, fun x v c e q => ?_, fun x c q => ?_⟩
  · obtain ⟨o, es, ep, e, r⟩ := H.fr.ns; exact ⟨o, es, ep, by rw [hm _ (.inl rfl)]; exact e, r⟩
  · have := (H.apart b hb).2
    unfold frzAt at this ⊢
    split at this
    · cases this
    · rename_i z; rw [if_neg z]; exact this
  · obtain ⟨u, a, b⟩ := H.cel x v c e q; exact ⟨u, cell x c _ q a, b⟩
  · obtain ⟨ov, a⟩ := H.there x c q; exact ⟨ov, cell x c _ q a⟩
theorem StC.thaw (H : StC C (frzAt fz it o) ρ φ m ψ h) (hf : fz it = none) (low : C.W.g.objs.size ≤ it) (hs : Heap.ExtBut it h h') : StC C fz ρ φ m ψ h' := by
  obtain ⟨_, nc, nm⟩ := H.frozen
  have ag : ∀ b, b ≠ it → (∃ x, h.get? b = some x) → h'.get? b = h.get? b := fun b hb ⟨x, e⟩ => by rw [e]; exact hs b x hb e
  have K : HOk C.W fz φ ψ h' := H.ok.agree (fun b c => ag b (fun z => nc (z ▸ c)) (H.ok.there c)) (fun b x q => hs b x (fun z => absurd (Heap.lt_size q) (by rw [z]; exact Nat.not_lt.mpr low)) (H.fr.keep b x q)) fun b x q => by
    have z : b ≠ it := fun z => by rw [z, hf] at q; cases q
    have := H.ok.frz b x (by unfold frzAt; rw [if_neg z]; exact q)
    exact ⟨hs b x z this.1, this.2⟩
  have hm : ∀ b, C.mine b → h'.get? b = h.get? b := fun b hb => ag b (fun z => nm (z ▸ hb)) (H.old hb)
  have cell : ∀ x c ov, C.cl.lookup x = some c → h.IsCell c ov → h'.IsCell c ov := by
    rintro x c ov hx ⟨o, e, d⟩; exact ⟨o, by rw [hm c (.inr ⟨x, hx⟩)]; exact e, d⟩
  refine ⟨⟨?_, K.keep, H.fr.above⟩, K, fun b hb => ⟨(H.apart b hb).1, ?_⟩, H.loc, fun x v c e q => ?_, fun x c q => ?_⟩
  · obtain ⟨o, es, ep, e, r⟩ := H.fr.ns; exact ⟨o, es, ep, by rw [hm _ (.inl rfl)]; exact e, r⟩
  · have := (H.apart b hb).2
    unfold frzAt at this
    split at this
    · cases this
    · exact this
  · obtain ⟨u, a, b⟩ := H.cel x v c e q; exact ⟨u, cell x c _ q a, b⟩
  · obtain ⟨ov, a⟩ := H.there x c q; exact ⟨ov, cell x c _ q a⟩
end

section
variable {C : FC} {ρ : Loc} {φ : AH} {n : Nat} {R : AF → Loc → AH → Prop} {P : Loc → AH → Prop}
/-- what stands behind a loop's turn -/
def LoopK (I : Nat → Loc → AH → Prop) (i : Nat) (R : AF → Loc → AH → Prop) : AF → Loc → AH → Prop
  | .next, ρ, φ => ∃ ρ', Sub ρ' ρ ∧ I (i + 1) ρ' φ
  | .cont, ρ, φ => ∃ ρ', Sub ρ' ρ ∧ I (i + 1) ρ' φ
  | .brk, ρ, φ => R .next ρ φ
  | .ret v, ρ, φ => R (.ret v) ρ φ

/-- an iterator: its states, what it gives -/
structure Iter (C : FC) (it : Addr) (items : List AV) (S : Nat → Obj → Prop) (T : AH → Prop) : Prop where
  low : C.W.g.objs.size ≤ it
  item : ∀ i x s o fz ρ φ m ψ, items[i]? = some x → S i o → s.heap.get? it = some o → StC C fz ρ φ m ψ s.heap → T φ →
    wpAny C.M C.A (pyNext (.ref it)) (fun r s' => ∃ v o', r = some v ∧ x.is v ∧ S (i + 1) o' ∧ Heap.SameBut it s.heap s'.heap ∧ s'.heap.get? it = some o' ∧ s'.gens = s.gens ∧ s'.os = s.os) (fun _ _ => False) s
  fin : ∀ s o fz ρ φ m ψ, S items.length o → s.heap.get? it = some o → StC C fz ρ φ m ψ s.heap → T φ →
    wpAny C.M C.A (pyNext (.ref it)) (fun r s' => r = none ∧ Heap.ExtBut it s.heap s'.heap ∧ s'.gens = s.gens ∧ s'.os = s.os) (fun _ _ => False) s

theorem forLoop_gen {target : Expr} {body : List Stmt} {it : Addr} {items : List AV} {S : Nat → Obj → Prop} {T : AH → Prop} (X : Iter C it items S T) (I : Nat → Loc → AH → Prop)
    (go : ∀ i o s v (Q : Unit → Shared → Prop), S i o → s.heap.get? it = some o → Q () s → (∀ a, AV.is a v → a ∈ items → wpAny C.M C.A (letOwnedTupleGo target (.ref it) v) Q (fun _ _ => False) s))
    (turn : ∀ i x ρ φ, items[i]? = some x → I i ρ φ → T φ ∧ Asn C target x ρ φ fun ρ₁ φ₁ => XS C (execs body C.env) ρ₁ φ₁ (LoopK I i R))
    (fin : ∀ ρ φ, I items.length ρ φ → T φ ∧ R .next ρ φ)
    {fz : Addr → Option Obj} {m ψ} {s : Shared} {o : Obj} (H : StC C fz ρ φ m ψ s.heap) (g : s.gens = C.W.gens) (os : s.os = C.W.os) (h0 : I 0 ρ φ) (hS : S 0 o) (he : s.heap.get? it = some o) (nc : ¬ cov φ ψ it) (nm : ¬ C.mine it) (hf : fz it = none) :
    codeAny C.M C.A (.forLoop target (.ref it) body [] C.env) (fun r s' => match r with | .ok f => PX C fz R f s' | .error _ => False) s := by
  refine codeAny_forLoop_any (fun k s => ∃ i ρ φ o, k + i = items.length ∧ St C (frzAt fz it o) ρ φ s ∧ S i o ∧ I i ρ φ) (fun k s hI => ?_) items.length ⟨0, ρ, φ, o, rfl, ⟨⟨m, ψ, H.freeze he nc nm⟩, g, os⟩, hS, h0⟩
  obtain ⟨i, ρ, φ, o, hk, ⟨⟨m, ψ, H⟩, g, os⟩, hS, hi⟩ := hI
  obtain ⟨he, nc, nm⟩ := H.frozen
  cases hx : items[i]? with
  | none =>
    have hlen : i = items.length := by have := List.getElem?_eq_none_iff.mp hx; omega
    subst hlen
    obtain ⟨hT, hR⟩ := fin ρ φ hi
    refine wpAny_mono (X.fin s o _ ρ φ m ψ hS he H hT) (fun r s' => ?_) fun _ _ x => x.elim
    rintro ⟨rfl, hs, g', o'⟩
    exact wpAny_execs_nil ⟨.next, ρ, φ, rfl, ⟨⟨m, ψ, H.thaw hf X.low hs⟩, g'.trans g, o'.trans os⟩, hR⟩
  | some x =>
    obtain ⟨hT, ht⟩ := turn i x ρ φ hx hi
    have hlt : i < items.length := (List.getElem?_eq_some_iff.mp hx).1
    refine wpAny_mono (X.item i x s o _ ρ φ m ψ hx hS he H hT) (fun r s' => ?_) fun _ _ x => x.elim
    rintro ⟨v, o', rfl, hv, hS', hs, he', g', os'⟩
    refine wpAny_mono (go (i + 1) o' s' v (fun _ s'' => s'' = s') hS' he' rfl x hv (List.mem_of_getElem? hx)) (fun _ s'' q => ?_) fun _ _ x => x.elim
    subst q
    have S' : St C (frzAt fz it o') ρ φ s'' := ⟨⟨m, ψ, H.step X.low hs he'⟩, g'.trans g, os'.trans os⟩
    refine wpAny_mono (ht v hv _ s'' S') (fun _ s₃ => ?_) fun _ _ x => x.elim
    rintro ⟨ρ₁, φ₁, S₃, hb⟩
    refine wpAny_mono (hb _ s₃ S₃) (fun f s₄ => ?_) fun _ _ x => x.elim
    rintro ⟨b, ρ₄, φ₄, hfl, S₄, q⟩
    cases b with
    | next => cases hfl; obtain ⟨ρ', hsub, q⟩ := q; exact ⟨k - 1, by omega, i + 1, ρ', φ₄, o', by omega, S₄.sub hsub, hS', q⟩
    | cont => cases hfl; obtain ⟨ρ', hsub, q⟩ := q; exact ⟨k - 1, by omega, i + 1, ρ', φ₄, o', by omega, S₄.sub hsub, hS', q⟩
    | brk =>
      cases hfl
      obtain ⟨⟨m', ψ', H'⟩, g₄, o₄⟩ := S₄
      exact ⟨.next, ρ₄, φ₄, rfl, ⟨⟨m', ψ', H'.thaw hf X.low (Heap.ExtBut.refl _ _)⟩, g₄, o₄⟩, q⟩
    | ret v =>
      obtain ⟨u, rfl, hu⟩ := hfl
      obtain ⟨⟨m', ψ', H'⟩, g₄, o₄⟩ := S₄
      exact ⟨.ret v, ρ₄, φ₄, ⟨u, rfl, hu⟩, ⟨⟨m', ψ', H'.thaw hf X.low (Heap.ExtBut.refl _ _)⟩, g₄, o₄⟩, q⟩

theorem iter_list {it l : Addr} {items : List AV} (low : C.W.g.objs.size ≤ it) (G : Gd C n) : Iter C it items (fun i o => o.cls = .type "list_iterator" ∧ o.data = .fields #[.ref l, .int i 0]) (fun φ => φ l = some (.list items)) where
  low := low
  item := fun i x s o fz ρ φ m ψ hx hS he H hT => by
    obtain ⟨vs, k, c1, c2, c3⟩ := list_of H hT
    obtain ⟨y, hy, hi⟩ := c2.get hx
    refine wpAny_pyNext_list_item (i := i) (x := y) ⟨o, he, hS⟩ c1.isList (by rw [← Array.getElem?_toList]; exact hy) fun h' hit hs => ?_
    obtain ⟨o', e', r⟩ := hit
    exact ⟨y, o', rfl, hi, r, hs, e', rfl, rfl⟩
  fin := fun s o fz ρ φ m ψ hS he H hT => by
    obtain ⟨vs, k, c1, c2, c3⟩ := list_of H hT
    exact wpAny_pyNext_list_end G.room.h ⟨o, he, hS⟩ c1.isList (Array.getElem?_eq_none (by omega)) fun h' hs => ⟨rfl, hs, rfl, rfl⟩

theorem x_for_list {target iter : Expr} {body rest : List Stmt} {pos : Pos}
    (h : EV C (eval iter C.env) ρ φ fun a φ₁ => ∃ l items, a = .ref l ∧ φ₁ l = some (.list items) ∧ ∃ I : Nat → Loc → AH → Prop, I 0 ρ φ₁ ∧
      (∀ i x ρ φ, items[i]? = some x → I i ρ φ → φ l = some (.list items) ∧ Asn C target x ρ φ fun ρ₁ φ₁ => ∀ R', Imp (LoopK I i (Then C rest R)) R' → XS C (execs body C.env) ρ₁ φ₁ R') ∧
      (∀ ρ φ, I items.length ρ φ → φ l = some (.list items) ∧ XS C (execs rest C.env) ρ φ R) ∧
      (∀ (s : Shared) it i a v, s.heap.IsListIter it l i → AV.is a v → a ∈ items → ∀ (Q : Unit → Shared → Prop), Q () s → wpAny C.M C.A (letOwnedTupleGo target (.ref it) v) Q (fun _ _ => False) s))
    (G : Gd C n := by assumption) (hs : ∀ x, foldedSetIterable iter C.env x = pure x := by intro _; with_unfolding_all rfl) : XS C (execs (.For target iter body [] pos :: rest) C.env) ρ φ R := by
  refine xs_cons fun fz s S => wpAny_For (wpAny_mono (h fz s S) (fun v s' => ?_) fun _ _ x => x) hs
  rintro ⟨a, φ', hr, ⟨⟨m, ψ, H⟩, g, o⟩, l, items, rfl, hl, I, h0, turn, fin, go⟩
  cases hr
  obtain ⟨vs, k, c1, c2, c3⟩ := list_of H hl
  refine wpAny_pyIter_list c1.isList ?_
  have hk : ∀ b ob, s'.heap.get? b = some ob → (s'.heap.push { cls := .type "list_iterator", data := .fields #[.ref l, .int 0 0] }).get? b = some ob := fun b ob e => Heap.get?_push_of_some _ e
  have hn : s'.heap.get? s'.heap.objs.size = none := old_none (Nat.le_refl _)
  obtain ⟨_, hfz, nc⟩ := H.ok.none_of hn
  obtain ⟨⟨m', ψ', H'⟩, g', o'⟩ : St C fz ρ φ' ⟨_, s'.gens, s'.drawn, s'.toks, s'.os⟩ := St.grow H g o hk
  have K := H.ok.grow hk
  have H2 : StC C fz ρ φ' m ψ (s'.heap.push { cls := .type "list_iterator", data := .fields #[.ref l, .int 0 0] }) := H.frame K (fun b hb => by obtain ⟨o, e⟩ := H.old hb; rw [hk _ _ e, e]) fun b hb => (H.apart b hb).1
  refine codeAny_mono (forLoop_gen (R := Then C rest R) (iter_list (l := l) (items := items) H.low G) I (fun i o s v Q hS he hQ a ha hm => go s _ i a v ⟨o, he, hS⟩ ha hm Q hQ) (fun i x ρ φ hx hi => ⟨(turn i x ρ φ hx hi).1, fun v hv => ((turn i x ρ φ hx hi).2 v hv).mono fun ρ₁ φ₁ h => h _ (Imp.refl _)⟩) (fun ρ φ hi => fin ρ φ hi)
    (s := ⟨_, s'.gens, s'.drawn, s'.toks, s'.os⟩) H2 g o h0 ⟨rfl, rfl⟩ (Heap.get?_push_size _ rfl) nc (fun q => by obtain ⟨o, e⟩ := H.old q; rw [hn] at e; cases e) hfz) fun r s₂ z => ?_
  cases r with
  | ok f => exact z
  | error e => exact z.elim
/-- a plain target takes each item as it comes -/
theorem go_name {x : Str} {p : Pos} {l : Addr} {items : List AV} : ∀ (s : Shared) it i a v, s.heap.IsListIter it l i → AV.is a v → a ∈ items → ∀ (Q : Unit → Shared → Prop), Q () s → wpAny C.M C.A (letOwnedTupleGo (.Name x p) (.ref it) v) Q (fun _ _ => False) s :=
  fun s it i a v _ _ _ Q q => wpAny_pure q
theorem go_tuple {elts : List Expr} {k : Nat} {p : Pos} {l : Addr} {items : List AV} (hr : ∀ a ∈ items, ∃ t, a = .ref t) : ∀ (s : Shared) it i a v, s.heap.IsListIter it l i → AV.is a v → a ∈ items → ∀ (Q : Unit → Shared → Prop), Q () s → wpAny C.M C.A (letOwnedTupleGo (.Tuple elts k p) (.ref it) v) Q (fun _ _ => False) s :=
  fun s it i a v hit ha hm Q q => by
    obtain ⟨t, rfl⟩ := hr a hm
    cases ha
    exact wpAny_letOwnedTupleGo_listiter hit q
end
end Mine

open PySem PySem.W PyProof.Rows PySem.Calls PySem.MeetsSeq PySem.MeetsSeq2 PySem.MeetsSeq3
set_option Elab.async false
set_option maxRecDepth 100000
set_option linter.unusedVariables false
namespace Mine
section
variable {C : FC} {ρ : Loc} {φ : AH} {n : Nat} {R : AF → Loc → AH → Prop} {P : Loc → AH → Prop} {Q : AV → AH → Prop}

theorem cal_range {k : Int} (q : ∀ r, φ r = none → Q (.ref r) (upd φ r (.rng k))) : Cal C ρ (.raw (.type "range")) [.int k] φ Q := by
  rintro _ _ rfl (_ | ⟨⟨t, rfl⟩, _ | _⟩)
  refine WPx.of fun fz s m ψ H g o => ?_
  obtain ⟨h1, h2⟩ := St.new (a := s.heap.objs.size) (h' := s.heap.push { cls := .type "range", data := .fields #[.int 0 s.toks, .int k t, .int 1 (s.toks + 1)] }) (o' := .rng k) (d := s.drawn) (t := s.toks + 1 + 1) H g o trivial (Nat.le_refl _) (fun b o e => Heap.get?_push_of_some _ e)
    ⟨s.toks, t, s.toks + 1, IsRange.new _ _ _ _ _ _ _⟩
  exact call_range_1 ⟨.ref _, _, rfl, h2, q _ h1⟩

theorem iter_range {it : Addr} {k : Nat} (low : C.W.g.objs.size ≤ it) (G : Gd C n) :
    Iter C it ((List.range k).map fun (i : Nat) => AV.int (i : Int)) (fun i o => o = { cls := .type "range_iterator", data := .fields #[rawInt i, rawInt ((k : Int) - i), rawInt 1] }) (fun _ => True) where
  low := low
  item := fun i x s o fz ρ φ m ψ hx hS he H hT => by
    rw [List.getElem?_map, Option.map_eq_some_iff] at hx
    obtain ⟨j, hj, rfl⟩ := hx
    have hlt : i < k := by have := (List.getElem?_eq_some_iff.mp hj).1; rwa [List.length_range] at this
    have hji : j = i := by rw [List.getElem?_range hlt] at hj; exact (Option.some.inj hj).symm
    subst hji hS
    refine wpAny_pyNext_range_item (x := (j : Int)) (left := (k : Int) - j) (step := 1) he (by omega) fun h' hit hs => ?_
    exact ⟨_, _, rfl, ⟨_, rfl⟩, (by
      rw [show ((j + 1 : Nat) : Int) = (j : Int) + 1 by omega, show (k : Int) - ((j : Int) + 1) = (k : Int) - j - 1 by omega]), hs, hit, rfl, rfl⟩
  fin := fun s o fz ρ φ m ψ hS he H hT => by
    rw [List.length_map, List.length_range] at hS
    subst hS
    refine wpAny_pyNext_range_end G.room.h (x := (k : Int)) (left := (k : Int) - k) (step := 1) he (by omega) fun h' hs => ⟨rfl, hs, rfl, rfl⟩
theorem go_plain {x : Str} {p : Pos} {it : Addr} (s : Shared) (v : Value) (Q : Unit → Shared → Prop) (q : Q () s) : wpAny C.M C.A (letOwnedTupleGo (.Name x p) (.ref it) v) Q (fun _ _ => False) s := wpAny_pure q
theorem x_for_range {x : Str} {px : Pos} {iter : Expr} {body rest : List Stmt} {pos : Pos}
    (h : EV C (eval iter C.env) ρ φ fun a φ₁ => ∃ l, ∃ k : Nat, a = .ref l ∧ φ₁ l = some (.rng k) ∧ k ≤ 1000000 ∧ ∃ I : Nat → Loc → AH → Prop, I 0 ρ φ₁ ∧
      (∀ i ρ φ, i < k → I i ρ φ → Asn C (.Name x px) (.int i) ρ φ fun ρ₁ φ₁ => ∀ R', Imp (LoopK I i (Then C rest R)) R' → XS C (execs body C.env) ρ₁ φ₁ R') ∧
      (∀ ρ φ, I k ρ φ → XS C (execs rest C.env) ρ φ R))
    (G : Gd C n := by assumption) (hs : ∀ x, foldedSetIterable iter C.env x = pure x := by intro _; with_unfolding_all rfl) : XS C (execs (.For (.Name x px) iter body [] pos :: rest) C.env) ρ φ R := by
  refine xs_cons fun fz s S => wpAny_For (wpAny_mono (h fz s S) (fun v s' => ?_) fun _ _ x => x) hs
  rintro ⟨a, φ', hr, ⟨⟨m, ψ, H⟩, g, o⟩, l, k, rfl, hl, hk1, I, h0, turn, fin⟩
  cases hr
  obtain ⟨t1, t2, t3, c1⟩ := H.ok.heap _ _ hl
  refine wpAny_pyIter_range c1 (small_one (by omega) (by omega) (by omega) (by omega)) ?_
  rw [rangeSize_one, show (if (0 : Int) < k then (k : Int) - 0 else 0) = (k : Int) by split <;> omega]
  have hk : ∀ b ob, s'.heap.get? b = some ob → (s'.heap.push { cls := .type "range_iterator", data := .fields #[rawInt 0, rawInt k, rawInt 1] }).get? b = some ob := fun b ob e => Heap.get?_push_of_some _ e
  have hn : s'.heap.get? s'.heap.objs.size = none := old_none (Nat.le_refl _)
  obtain ⟨_, hfz, nc⟩ := H.ok.none_of hn
  have K := H.ok.grow hk
  have H2 : StC C fz ρ φ' m ψ (s'.heap.push { cls := .type "range_iterator", data := .fields #[rawInt 0, rawInt k, rawInt 1] }) := H.frame K (fun b hb => by obtain ⟨o, e⟩ := H.old hb; rw [hk _ _ e, e]) fun b hb => (H.apart b hb).1
  refine codeAny_mono (forLoop_gen (R := Then C rest R) (iter_range (k := k) H.low G) I (fun i o s v Q hS he hQ a ha hm => go_plain s v Q hQ) (fun i x ρ φ hx hi => ⟨trivial, ?_⟩) (fun ρ φ hi => ⟨trivial, fin ρ φ (by rwa [List.length_map, List.length_range] at hi)⟩)
    (s := ⟨_, s'.gens, s'.drawn, s'.toks, s'.os⟩) (o := { cls := .type "range_iterator", data := .fields #[rawInt 0, rawInt k, rawInt 1] }) H2 g o h0 (by simp) (Heap.get?_push_size _ rfl) nc (fun q => by obtain ⟨o, e⟩ := H.old q; rw [hn] at e; cases e) hfz) fun r s₂ z => ?_
  · rw [List.getElem?_map, Option.map_eq_some_iff] at hx
    obtain ⟨j, hj, rfl⟩ := hx
    have hlt : i < k := by have := (List.getElem?_eq_some_iff.mp hj).1; rwa [List.length_range] at this
    have hji : j = i := by rw [List.getElem?_range hlt] at hj; exact (Option.some.inj hj).symm
    subst hji
    exact fun v hv => (turn j ρ φ hlt hi v hv).mono fun ρ₁ φ₁ h => h _ (Imp.refl _)
  · cases r with
    | ok f => exact z
    | error e => exact z.elim

theorem iter_dict {it d : Addr} {l : List (Int × AV)} {ep : Nat} (low : C.W.g.objs.size ≤ it) (G : Gd C n) :
    Iter C it (l.map fun p => AV.int p.1) (fun i o => o.cls = .type "dict_keyiterator" ∧ o.data = .fields #[.ref d, .int i 0, .int l.length 0, .int ep 0]) (fun φ => ∃ l', l'.map (·.1) = l.map (·.1) ∧ φ d = some (.idict l' ep)) where
  low := low
  item := fun i x s o fz ρ φ m ψ hx hS he H hT => by
    obtain ⟨l', hl', hT⟩ := hT
    obtain ⟨kvs, c1, c2, c3⟩ := idict_of H hT
    have hlen : l'.length = l.length := by rw [← List.length_map (f := (·.1)) (as := l'), hl', List.length_map]
    rw [List.getElem?_map, Option.map_eq_some_iff] at hx
    obtain ⟨p, hp, rfl⟩ := hx
    have hp' : (l'.map (·.1))[i]? = some p.1 := by rw [hl', List.getElem?_map, hp]; rfl
    rw [List.getElem?_map, Option.map_eq_some_iff] at hp'
    obtain ⟨p', hp', e1⟩ := hp'
    obtain ⟨q, hq, e2, e3⟩ := c2.get hp'
    refine wpAny_pyNext_dict_item (i := i) (k := p.1) (v := q.2) ⟨o, he, by rw [c3, hlen]; exact hS⟩ c1 (by rw [hq, ← e1, e2]) fun key h' hkey hit hs => ?_
    obtain ⟨o', e', r⟩ := hit
    obtain ⟨t, rfl⟩ := Value.isInt_shape hkey
    exact ⟨_, o', rfl, ⟨t, rfl⟩, by rw [c3, hlen] at r; exact r, hs, e', rfl, rfl⟩
  fin := fun s o fz ρ φ m ψ hS he H hT => by
    obtain ⟨l', hl', hT⟩ := hT
    obtain ⟨kvs, c1, c2, c3⟩ := idict_of H hT
    have hlen : l'.length = l.length := by rw [← List.length_map (f := (·.1)) (as := l'), hl', List.length_map]
    rw [List.length_map] at hS
    exact wpAny_pyNext_dict_end G.room.h (i := l.length) ⟨o, he, by rw [c3, hlen]; exact hS⟩ c1 (List.getElem?_eq_none (by rw [c3, hlen]; exact Nat.le_refl _)) fun h' hs => ⟨rfl, hs, rfl, rfl⟩
theorem x_for_dict {x : Str} {px : Pos} {iter : Expr} {body rest : List Stmt} {pos : Pos}
    (h : EV C (eval iter C.env) ρ φ fun a φ₁ => ∃ d l ep, a = .ref d ∧ φ₁ d = some (.idict l ep) ∧ ∃ I : Nat → Loc → AH → Prop, I 0 ρ φ₁ ∧
      (∀ i p ρ φ, l[i]? = some p → I i ρ φ → (∃ l', l'.map (·.1) = l.map (·.1) ∧ φ d = some (.idict l' ep)) ∧ Asn C (.Name x px) (.int p.1) ρ φ fun ρ₁ φ₁ => ∀ R', Imp (LoopK I i (Then C rest R)) R' → XS C (execs body C.env) ρ₁ φ₁ R') ∧
      (∀ ρ φ, I l.length ρ φ → (∃ l', l'.map (·.1) = l.map (·.1) ∧ φ d = some (.idict l' ep)) ∧ XS C (execs rest C.env) ρ φ R))
    (G : Gd C n := by assumption) (hs : ∀ x, foldedSetIterable iter C.env x = pure x := by intro _; with_unfolding_all rfl) : XS C (execs (.For (.Name x px) iter body [] pos :: rest) C.env) ρ φ R := by
  refine xs_cons fun fz s S => wpAny_For (wpAny_mono (h fz s S) (fun v s' => ?_) fun _ _ x => x) hs
  rintro ⟨a, φ', hr, ⟨⟨m, ψ, H⟩, g, o⟩, d, l, ep, rfl, hl, I, h0, turn, fin⟩
  cases hr
  obtain ⟨kvs, c1, c2, c3⟩ := idict_of H hl
  refine wpAny_pyIter_dict (H.lo G hl) c1 ?_
  rw [c3]
  have hk : ∀ b ob, s'.heap.get? b = some ob → (s'.heap.push { cls := .type "dict_keyiterator", data := .fields #[.ref d, .int 0 0, .int l.length 0, .int ep 0] }).get? b = some ob := fun b ob e => Heap.get?_push_of_some _ e
  have hn : s'.heap.get? s'.heap.objs.size = none := old_none (Nat.le_refl _)
  obtain ⟨_, hfz, nc⟩ := H.ok.none_of hn
  have K := H.ok.grow hk
  have H2 : StC C fz ρ φ' m ψ (s'.heap.push { cls := .type "dict_keyiterator", data := .fields #[.ref d, .int 0 0, .int l.length 0, .int ep 0] }) := H.frame K (fun b hb => by obtain ⟨o, e⟩ := H.old hb; rw [hk _ _ e, e]) fun b hb => (H.apart b hb).1
  refine codeAny_mono (forLoop_gen (R := Then C rest R) (iter_dict (d := d) (l := l) (ep := ep) H.low G) I (fun i o s v Q hS he hQ a ha hm => go_plain s v Q hQ) (fun i x ρ φ hx hi => ?_) (fun ρ φ hi => fin ρ φ (by rwa [List.length_map] at hi))
    (s := ⟨_, s'.gens, s'.drawn, s'.toks, s'.os⟩) H2 g o h0 ⟨rfl, rfl⟩ (Heap.get?_push_size _ rfl) nc (fun q => by obtain ⟨o, e⟩ := H.old q; rw [hn] at e; cases e) hfz) fun r s₂ z => ?_
  · rw [List.getElem?_map, Option.map_eq_some_iff] at hx
    obtain ⟨p, hp, rfl⟩ := hx
    exact ⟨(turn i p ρ φ hp hi).1, fun v hv => ((turn i p ρ φ hp hi).2 v hv).mono fun ρ₁ φ₁ h => h _ (Imp.refl _)⟩
  · cases r with
    | ok f => exact z
    | error e => exact z.elim

/-- what stands behind a while's turn -/
def WhileK (J : Nat → Loc → AH → Prop) (k : Nat) (R : AF → Loc → AH → Prop) : AF → Loc → AH → Prop
  | .next, ρ, φ => ∃ k', k' < k ∧ ∃ ρ', Sub ρ' ρ ∧ J k' ρ' φ
  | .cont, ρ, φ => ∃ k', k' < k ∧ ∃ ρ', Sub ρ' ρ ∧ J k' ρ' φ
  | .brk, ρ, φ => R .next ρ φ
  | .ret v, ρ, φ => R (.ret v) ρ φ
theorem x_while {test : Expr} {body rest : List Stmt} {pos : Pos} (J : Nat → Loc → AH → Prop) (k : Nat) (h0 : J k ρ φ)
    (turn : ∀ k ρ φ, J k ρ φ → EB C (PySem.isTrue test C.env (eval test C.env)) ρ φ fun b φ₁ => (b = true → ∀ R', Imp (WhileK J k (Then C rest R)) R' → XS C (execs body C.env) ρ φ₁ R') ∧ (b = false → XS C (execs rest C.env) ρ φ₁ R)) :
    XS C (execs (.While test body [] pos :: rest) C.env) ρ φ R := by
  refine xs_cons fun fz s S => wpAny_While ?_
  refine codeAny_whileLoop (fun k s => ∃ ρ φ, St C fz ρ φ s ∧ J k ρ φ) (fun k s hI => ?_) k ⟨ρ, φ, S, h0⟩
  obtain ⟨ρ, φ, S, hJ⟩ := hI
  refine wpAny_mono (turn k ρ φ hJ fz s S) (fun b s' => ?_) fun _ _ x => x.elim
  rintro ⟨b', φ', rfl, S', q⟩
  cases b' with
  | true =>
    rw [if_pos rfl]
    refine wpAny_mono (q.1 rfl _ (Imp.refl _) fz s' S') (fun f s'' => ?_) fun _ _ x => x.elim
    rintro ⟨fl, ρ', φ'', hfl, S'', q⟩
    cases fl with
    | next => cases hfl; obtain ⟨k', hk', ρ₁, hsub, hj⟩ := q; exact ⟨k', hk', ρ₁, φ'', S''.sub hsub, hj⟩
    | cont => cases hfl; obtain ⟨k', hk', ρ₁, hsub, hj⟩ := q; exact ⟨k', hk', ρ₁, φ'', S''.sub hsub, hj⟩
    | brk => cases hfl; exact ⟨.next, ρ', φ'', rfl, S'', q⟩
    | ret v => obtain ⟨u, rfl, hu⟩ := hfl; exact ⟨.ret v, ρ', φ'', ⟨u, rfl, hu⟩, S'', q⟩
  | false =>
    rw [if_neg (by simp)]
    exact wpAny_execs_nil ⟨.next, ρ, φ', rfl, S', q.2 rfl⟩
end
end Mine

open PySem PySem.W PyProof.Rows PySem.Calls PySem.MeetsSeq PySem.MeetsSeq2 PySem.MeetsSeq3
set_option Elab.async false
set_option maxRecDepth 100000
set_option linter.unusedVariables false
namespace Mine
noncomputable def compFC (C : FC) (scope : Scope) (cl : List (Str × Addr)) (a : Addr) : FC := ⟨C.W, C.A, compEnvC scope cl a C.env⟩
section
variable {C : FC} {ρ : Loc} {φ : AH} {n : Nat} {Q : AV → AH → Prop}

def Tests (C : FC) (ifs : List Expr) (ρ : Loc) (φ : AH) (B : Bool → AH → Prop) : Prop :=
  EB C (forIn ifs true fun c r => if r = true then do let ok ← PySem.isTrue c C.env (eval c C.env); pure (ForInStep.yield ok) else pure (ForInStep.yield r)) ρ φ B
theorem tests_nil {B : Bool → AH → Prop} (q : B true φ) : Tests C [] ρ φ B := fun fz s S => wpAny_tests_nil ⟨true, φ, rfl, S, q⟩
theorem tests_one {c : Expr} {B : Bool → AH → Prop} (h : EB C (PySem.isTrue c C.env (eval c C.env)) ρ φ B) : Tests C [c] ρ φ B := fun fz s S => wpAny_tests_one (h fz s S)

/-- the outer frame comes back, what the inner one shares with it too -/
theorem StC.back {fz fz' : Addr → Option Obj} {m ψ h φ' ψ' h'} {cl : List (Str × Addr)} {ρ₀ : Loc} (H : StC C fz ρ φ m ψ h) (K : HOk C.W fz' φ' ψ' h')
    (hf : ∀ b, (∀ y, cl.lookup y ≠ some b) → ∀ o, C.hold fz h b = some o → fz' b = some o)
    (hcl : ∀ y c, cl.lookup y = some c → C.cl.lookup y = some c) (nc : ∀ y c, cl.lookup y = some c → ¬ cov φ' ψ' c)
    (cel : ∀ y v c, ρ₀.lookup y = some v → cl.lookup y = some c → ∃ u, h'.IsCell c (some u) ∧ v.is u) (there : ∀ y c, cl.lookup y = some c → ∃ ov, h'.IsCell c ov)
    (hρ : ∀ y v c, cl.lookup y = some c → ρ.lookup y = some v → ρ₀.lookup y = some v) (cl1 : ∀ x y c, C.cl.lookup x = some c → C.cl.lookup y = some c → x = y) (clL : ∀ x c, C.cl.lookup x = some c → c ≠ C.L) : StC C fz ρ φ' m ψ' h' := by
  have out : ∀ b o, (∀ y, cl.lookup y ≠ some b) → C.hold fz h b = some o → h'.get? b = some o ∧ ¬ cov φ' ψ' b := fun b o q e => K.frz b o (hf b q o e)
  have mineHold : ∀ b, C.mine b → C.hold fz h b = h.get? b := fun b hb => by unfold FC.hold; rw [if_pos hb]
  have key : ∀ b, C.mine b → (∀ y, cl.lookup y ≠ some b) → h'.get? b = h.get? b ∧ ¬ cov φ' ψ' b := fun b hb q => by
    obtain ⟨o, e⟩ := H.old hb
    have := out b o q (by rw [mineHold b hb]; exact e)
    exact ⟨this.1.trans e.symm, this.2⟩
  have hL : ∀ y, cl.lookup y ≠ some C.L := fun y e => clL y _ (hcl y _ e) rfl
  have same : ∀ x c, C.cl.lookup x = some c → cl.lookup x = some c ∨ ∀ y, cl.lookup y ≠ some c := fun x c hx => by
    by_cases q : cl.lookup x = some c
    · exact .inl q
    · refine .inr fun y e => q ?_
      have := cl1 x y c hx (hcl y c e)
      rw [this]; exact e
  refine ⟨⟨?_, K.keep, H.fr.above⟩, K.agree (fun b _ => rfl) K.keep fun b o e => ?_, fun b hb => ⟨?_, (H.apart b hb).2⟩, H.loc, fun x v c e q => ?_, fun x c q => ?_⟩
  · obtain ⟨o, es, ep, e, r⟩ := H.fr.ns; exact ⟨o, es, ep, by rw [(key _ (.inl rfl) hL).1]; exact e, r⟩
  · have hb : ¬ C.mine b := fun q => by rw [(H.apart b q).2] at e; cases e
    exact out b o (fun y q => hb (.inr ⟨y, hcl y b q⟩)) (by unfold FC.hold; rw [if_neg hb]; exact e)
  · rcases hb with rfl | ⟨x, hx⟩
    · exact (key _ (.inl rfl) hL).2
    · rcases same x b hx with q | q
      · exact nc x b q
      · exact (key b (.inr ⟨x, hx⟩) q).2
  · rcases same x c q with z | z
    · exact cel x v c (hρ x v c z e) z
    · obtain ⟨u, ⟨o, a, d⟩, b⟩ := H.cel x v c e q
      exact ⟨u, ⟨o, by rw [(key c (.inr ⟨x, q⟩) z).1]; exact a, d⟩, b⟩
  · rcases same x c q with z | z
    · exact there x c z
    · obtain ⟨u, ⟨o, a, d⟩⟩ := H.there x c q
      exact ⟨u, ⟨o, by rw [(key c (.inr ⟨x, q⟩) z).1]; exact a, d⟩⟩

theorem comp_loop {elt iter : Expr} {x : Str} {px : Pos} {ifs : List Expr} {scope : Scope} {pos : Pos} {it l D : Addr} {items : List AV} {φ₁ : AH} {ρ₀ : Loc} (p : AV → Bool) (f : AV → AV) (G : Gd C n) (low : C.W.g.objs.size ≤ it)
    (hx : C.env.kindOf x = some .local) (hxc : C.cl.lookup x = none) (hz : items.length ≤ 1000000) (hl : ∀ out, upd φ₁ D (.list out) l = some (.list items))
    (hp : ∀ v ∈ items, ∀ out ρ', Sub ρ₀ ρ' → Tests C ifs ((x, v) :: ρ') (upd φ₁ D (.list out)) (fun b φ' => φ' = upd φ₁ D (.list out) ∧ b = p v))
    (he : ∀ v ∈ items, p v = true → ∀ out ρ', Sub ρ₀ ρ' → EV C (eval elt C.env) ((x, v) :: ρ') (upd φ₁ D (.list out)) fun y φ'' => φ'' = upd φ₁ D (.list out) ∧ y = f v)
    (hx0 : ρ₀.lookup x = none) {fz : Addr → Option Obj} {s : Shared} {o : Obj} {i : Nat} {out : List AV} {ρ' : Loc} (hS : o.cls = .type "list_iterator" ∧ o.data = .fields #[.ref l, .int i 0]) (S : St C (frzAt fz it o) ρ' (upd φ₁ D (.list out)) s) (hsub : Sub ρ₀ ρ')
    (hout : out = ((items.take i).filter p).map f) (hi : i ≤ items.length) (hfz : fz it = none) :
    codeAny C.M C.A (.compLoop (.ListComp elt [⟨.Name x px, iter, ifs, 0⟩] scope pos) 0 (.ref it) (.ref D) C.env)
      (fun r s' => r = .ok .next ∧ ∃ ρ', Sub ρ₀ ρ' ∧ St C fz ρ' (upd φ₁ D (.list ((items.filter p).map f))) s') s := by
  refine codeAny_compLoop_tests (fun k s => ∃ i out ρ' o, k + i = items.length ∧ o.cls = .type "list_iterator" ∧ o.data = .fields #[.ref l, .int i 0] ∧ St C (frzAt fz it o) ρ' (upd φ₁ D (.list out)) s ∧ Sub ρ₀ ρ' ∧ out = ((items.take i).filter p).map f)
    (fun k s hI => ?_) (items.length - i) ⟨i, out, ρ', o, by omega, hS.1, hS.2, S, hsub, hout⟩
  clear S hS hsub hout hi
  obtain ⟨i, out, ρ', o, hk, hS1, hS2, ⟨⟨m, ψ, H⟩, g, os⟩, hsub, hout⟩ := hI
  have X := iter_list (it := it) (l := l) (items := items) low G
  obtain ⟨heo, nc, nm⟩ := H.frozen
  cases hxi : items[i]? with
  | none =>
    have hlen : i = items.length := by have := List.getElem?_eq_none_iff.mp hxi; omega
    subst hlen
    refine wpAny_mono (X.fin s o _ ρ' _ m ψ ⟨hS1, hS2⟩ heo H (hl out)) (fun r s' => ?_) fun _ _ x => x.elim
    rintro ⟨rfl, hs, g', o'⟩
    rw [List.take_length] at hout
    subst hout
    exact ⟨rfl, ρ', hsub, ⟨⟨m, ψ, H.thaw hfz low hs⟩, g'.trans g, o'.trans os⟩⟩
  | some v =>
    have hlt : i < items.length := (List.getElem?_eq_some_iff.mp hxi).1
    have hmem := List.mem_of_getElem? hxi
    refine wpAny_mono (X.item i v s o _ ρ' _ m ψ hxi ⟨hS1, hS2⟩ heo H (hl out)) (fun r s' => ?_) fun _ _ x => x.elim
    rintro ⟨u, o', rfl, hv, hS', hs, he', g', os'⟩
    have S' : St C (frzAt fz it o') ρ' (upd φ₁ D (.list out)) s' := ⟨⟨m, ψ, H.step low hs he'⟩, g'.trans g, os'.trans os⟩
    have hsub' : Sub ρ₀ ((x, v) :: ρ') := fun y w e => by
      rw [List.lookup_cons]
      by_cases z : (y == x) = true
      · rw [beq_iff_eq.mp z, hx0] at e; cases e
      · rw [Bool.eq_false_iff.mpr z]; exact hsub y w e
    have htake : ∀ w, items[i]? = some w → (items.take (i + 1)) = items.take i ++ [w] := fun w e => by rw [List.take_add_one, e]; rfl
    refine wpAny_mono (asn_name (C := C) (pos := px) (P := fun ρ₁ φ₁' => ρ₁ = (x, v) :: ρ' ∧ φ₁' = upd φ₁ D (.list out)) ⟨rfl, rfl⟩ G hx hxc u hv _ s' S') (fun _ s₂ => ?_) fun _ _ x => x.elim
    rintro ⟨_, _, S₂, rfl, rfl⟩
    refine wpAny_mono (hp v hmem out ρ' hsub _ s₂ S₂) (fun ok s₃ => ?_) fun _ _ x => x.elim
    rintro ⟨_, _, rfl, S₃, rfl, rfl⟩
    cases hpv : p v with
    | true =>
      rw [if_pos rfl]
      refine wpAny_mono (he v hmem hpv out ρ' hsub _ s₃ S₃) (fun y s₄ => ?_) fun _ _ x => x.elim
      rintro ⟨_, _, hy, S₄, rfl, rfl⟩
      have hlen : out.length ≤ items.length := by
        rw [hout, List.length_map]
        exact Nat.le_trans (List.length_filter_le _ _) (by rw [List.length_take]; omega)
      refine wpAny_mono (cal_append (C := C) (ρ := (x, v) :: ρ') (φ := upd φ₁ D (.list out)) (a := D) (l := out) (v := f v) (Q := fun _ φ' => φ' = upd (upd φ₁ D (.list out)) D (.list (out ++ [f v]))) (upd_self ..) rfl (by omega) _ _ rfl (.cons rfl (.cons hy .nil)) _ s₄ S₄) (fun _ s₅ => ?_) fun _ _ x => x.elim
      rintro ⟨_, _, _, S₅, rfl⟩
      refine ⟨k - 1, by omega, i + 1, out ++ [f v], _, o', by omega, hS'.1, hS'.2, ?_, hsub', ?_⟩
      · have : upd (upd φ₁ D (.list out)) D (.list (out ++ [f v])) = upd φ₁ D (.list (out ++ [f v])) := by funext b; by_cases z : b = D <;> simp [upd, z]
        rw [← this]; exact S₅
      · rw [htake v hxi, List.filter_append, List.map_append, ← hout, List.filter_cons, hpv]; rfl
    | false =>
      rw [if_neg (by simp)]
      refine ⟨k - 1, by omega, i + 1, out, _, o', by omega, hS'.1, hS'.2, S₃, hsub', ?_⟩
      rw [htake v hxi, List.filter_append, List.map_append, ← hout, List.filter_cons, hpv]
      simp

theorem ev_comp {elt iter : Expr} {x : Str} {px : Pos} {ifs : List Expr} {scope : Scope} {pos : Pos} {cl : List (Str × Addr)} (p : AV → Bool) (f : AV → AV) (ρ₀ : Loc)
    (hclos : closureFor scope C.env = pure cl) (hcl : ∀ y c, cl.lookup y = some c → C.cl.lookup y = some c)
    (hρ : ∀ y v c, cl.lookup y = some c → ρ.lookup y = some v → ρ₀.lookup y = some v)
    (hρ' : ∀ y v, ρ₀.lookup y = some v → ρ.lookup y = some v ∧ ∃ c, cl.lookup y = some c)
    (h : EV C (eval iter C.env) ρ φ fun a φ₁ => ∃ l items, a = .ref l ∧ φ₁ l = some (.list items) ∧ items.length ≤ 1000000 ∧
      (∀ Ca D out, φ₁ D = none → Gd (compFC C scope cl Ca) n → ∀ v ∈ items, ∀ ρ', Sub ρ₀ ρ' →
        Tests (compFC C scope cl Ca) ifs ((x, v) :: ρ') (upd φ₁ D (.list out)) (fun b φ' => φ' = upd φ₁ D (.list out) ∧ b = p v) ∧
        (p v = true → EV (compFC C scope cl Ca) (eval elt (compFC C scope cl Ca).env) ((x, v) :: ρ') (upd φ₁ D (.list out)) fun y φ'' => φ'' = upd φ₁ D (.list out) ∧ y = f v)) ∧
      (∀ D, φ₁ D = none → Q (.ref D) (upd φ₁ D (.list ((items.filter p).map f)))))
    (G : Gd C n := by assumption) (hcell : ∀ y ∈ scope.names, y.2 ≠ .cell := by decide) (hkind : scope.kind = .function := by with_unfolding_all rfl)
    (hnames : ∀ y ∈ scope.names, y.2 = .local → scope.names.lookup y.1 = some .local := by decide) (hx : scope.names.lookup x = some .local := by with_unfolding_all rfl) (hxc : cl.lookup x = none := by with_unfolding_all rfl) (hx0 : ρ₀.lookup x = none := by with_unfolding_all rfl)
    (hs : ∀ x, foldedSetIterable iter C.env x = pure x := by intro _; with_unfolding_all rfl) : EV C (eval (.ListComp elt [⟨.Name x px, iter, ifs, 0⟩] scope pos) C.env) ρ φ Q := by
  intro fz s S
  rw [eval_ListComp]
  refine wpAny_comprehension_free (use := none) rfl hs hclos hkind hnames (wpAny_mono (h fz s S) (fun v s₁ => ?_) fun _ _ x => x)
  rintro ⟨a, φ₁, hr, ⟨⟨m, ψ, H⟩, g, o⟩, l, items, rfl, hl, hz, hpe, hq⟩
  cases hr
  obtain ⟨vs, k, c1, c2, c3⟩ := list_of H hl
  refine wpAny_pyIter_list c1.isList ?_
  generalize hh1 : s₁.heap.push { cls := .type "list_iterator", data := .fields #[.ref l, .int 0 0] } = h1
  refine wpAny_newObj_type (wpAny_newFunctionEnv hcell (by intro y hy; simp at hy) (fun h3 hns hsb => ?_) hkind)
  dsimp only at hns hsb ⊢
  generalize hh2 : h1.push { cls := .type "list", dict := none, data := .seq ([] : List Value).toArray } = h2 at hns hsb
  have z1 : h1.objs.size = s₁.heap.objs.size + 1 := by rw [← hh1, Heap.size_push]
  have z2 : h2.objs.size = h1.objs.size + 1 := by rw [← hh2, Heap.size_push]
  have k1 : ∀ b ob, s₁.heap.get? b = some ob → h1.get? b = some ob := fun b ob e => hh1 ▸ Heap.get?_push_of_some _ e
  have k2 : ∀ b ob, h1.get? b = some ob → h2.get? b = some ob := fun b ob e => hh2 ▸ Heap.get?_push_of_some _ e
  have k3 : ∀ b ob, h2.get? b = some ob → h3.get? b = some ob := fun b ob e => hsb.extBut b ob (Nat.ne_of_lt (Heap.lt_size e)) (Heap.get?_push_of_some _ e)
  have ei : h3.get? s₁.heap.objs.size = some { cls := .type "list_iterator", data := .fields #[.ref l, .int 0 0] } := k3 _ _ (k2 _ _ (hh1 ▸ Heap.get?_push_size _ rfl))
  have eD : h3.get? h1.objs.size = some { cls := .type "list", data := .seq #[] } := k3 _ _ (hh2 ▸ Heap.get?_push_size _ rfl)
  have n0 : ∀ b, s₁.heap.objs.size ≤ b → s₁.heap.get? b = none := fun b hb => old_none hb
  have lowL := H.low
  -- the heap part
  have K1 := H.ok.grow (h' := h1) k1
  have K2 : HOk C.W fz (upd φ₁ h1.objs.size (.list [])) ψ h3 := K1.new (o' := .list []) trivial (by omega) (old_none (Nat.le_refl _)) (fun b ob e => k3 _ _ (k2 _ _ e)) ⟨#[], 0, eD, .nil⟩
  have nD : φ₁ h1.objs.size = none := (H.ok.none_of (n0 _ (by omega))).1
  have nmine : ∀ b, s₁.heap.objs.size ≤ b → ¬ C.mine b := fun b hb q => by obtain ⟨ob, e⟩ := H.old q; rw [n0 b hb] at e; cases e
  have ncov : ∀ b, C.mine b → ¬ cov (upd φ₁ h1.objs.size (.list [])) ψ b := by
    rintro b hb (⟨y, e⟩ | ⟨c, K, fs, e, z⟩)
    · by_cases q : b = h1.objs.size
      · have t : s₁.heap.objs.size ≤ h1.objs.size := by omega
        exact nmine b (q ▸ t) hb
      · rw [upd_ne q] at e; exact (H.apart b hb).1 (.inl ⟨y, e⟩)
    · by_cases q : c = h1.objs.size
      · subst q; rw [upd_self] at e; cases e
      · rw [upd_ne q] at e; exact (H.apart b hb).1 (.inr ⟨c, K, fs, e, z⟩)
  have covlt : ∀ b, cov (upd φ₁ h1.objs.size (.list [])) ψ b → b = h1.objs.size ∨ b < s₁.heap.objs.size := by
    rintro b (⟨y, e⟩ | ⟨c, K, fs, e, z⟩)
    · by_cases q : b = h1.objs.size
      · exact .inl q
      · rw [upd_ne q] at e; obtain ⟨ob, e⟩ := H.ok.there (.inl ⟨y, e⟩); exact .inr (Heap.lt_size e)
    · by_cases q : c = h1.objs.size
      · subst q; rw [upd_self] at e; cases e
      · rw [upd_ne q] at e; obtain ⟨ob, e⟩ := H.ok.there (.inr ⟨c, K, fs, e, z⟩); exact .inr (Heap.lt_size e)
  -- the inner frame
  have G' : Gd (compFC C scope cl h2.objs.size) n := ⟨G.ok, G.room, by show (relabel scope C.env).kind = _; exact hkind, G.gl, G.bi,
    fun y c e => ⟨fun q => nmine h2.objs.size (by omega) (.inr ⟨y, by rw [← (show c = h2.objs.size from q)]; exact hcl y c e⟩), (G.clL y c (hcl y c e)).2⟩, fun y y' c e e' => G.cl1 y y' c (hcl y c e) (hcl y' c e')⟩
  classical
  let fz' : Addr → Option Obj := fun b => if (compFC C scope cl h2.objs.size).mine b then none else C.hold fz s₁.heap b
  have hold3 : ∀ b ob, C.hold fz s₁.heap b = some ob → h3.get? b = some ob ∧ ¬ cov (upd φ₁ h1.objs.size (.list [])) ψ b := fun b ob e => by
    unfold FC.hold at e
    split at e
    · rename_i hb; exact ⟨k3 _ _ (k2 _ _ (k1 _ _ e)), ncov b hb⟩
    · exact K2.frz b ob e
  have SC : StC (compFC C scope cl h2.objs.size) fz' ρ₀ (upd φ₁ h1.objs.size (.list [])) (fun x => List.lookup x []) ψ h3 := by
    refine ⟨⟨hns, K2.keep, by show C.W.g.objs.size ≤ h2.objs.size; omega⟩, K2.agree (fun b _ => rfl) K2.keep fun b ob e => ?_, fun b hb => ⟨?_, if_pos hb⟩, fun y v e q => ?_, fun y v c e q => ?_, fun y c q => ?_⟩
    · have e : (if (compFC C scope cl h2.objs.size).mine b then none else C.hold fz s₁.heap b) = some ob := e
      split at e
      · cases e
      · exact hold3 b ob e
    · rcases hb with rfl | ⟨y, hy⟩
      · intro q
        rcases covlt _ q with z | z
        · have z : h2.objs.size = h1.objs.size := z
          omega
        · have z : h2.objs.size < s₁.heap.objs.size := z
          omega
      · exact ncov b (.inr ⟨y, hcl y b hy⟩)
    · obtain ⟨_, c, hc⟩ := hρ' y v e
      rw [show (compFC C scope cl h2.objs.size).cl.lookup y = cl.lookup y from rfl, hc] at q; cases q
    · obtain ⟨e1, _⟩ := hρ' y v e
      obtain ⟨u, ⟨ob, a, d⟩, b⟩ := H.cel y v c e1 (hcl y c q)
      exact ⟨u, ⟨ob, k3 _ _ (k2 _ _ (k1 _ _ a)), d⟩, b⟩
    · obtain ⟨u, ⟨ob, a, d⟩⟩ := H.there y c (hcl y c q)
      exact ⟨u, ⟨ob, k3 _ _ (k2 _ _ (k1 _ _ a)), d⟩⟩
  have nit : ¬ cov (upd φ₁ h1.objs.size (.list [])) ψ s₁.heap.objs.size := fun q => by
    rcases covlt _ q with z | z
    · have z : s₁.heap.objs.size = h1.objs.size := z
      omega
    · exact absurd z (Nat.lt_irrefl _)
  have nmi : ¬ (compFC C scope cl h2.objs.size).mine s₁.heap.objs.size := by
    rintro (q | ⟨y, q⟩)
    · have : s₁.heap.objs.size = h2.objs.size := q; omega
    · exact nmine _ (Nat.le_refl _) (.inr ⟨y, hcl y _ q⟩)
  have hfzi : fz' s₁.heap.objs.size = none := by
    show (if (compFC C scope cl h2.objs.size).mine s₁.heap.objs.size then none else C.hold fz s₁.heap s₁.heap.objs.size) = none
    rw [if_neg nmi]
    cases q : C.hold fz s₁.heap s₁.heap.objs.size with
    | none => rfl
    | some ob =>
      unfold FC.hold at q
      rw [if_neg (nmine _ (Nat.le_refl _))] at q
      have := (H.ok.frz _ _ q).1
      rw [n0 _ (Nat.le_refl _)] at this; cases this
  have loop : ∀ s₃ : Shared, s₃ = ⟨h3, s₁.gens, s₁.drawn, s₁.toks + ([] : List (Str × Value)).length, s₁.os⟩ →
      codeAny C.M C.A (.compLoop (.ListComp elt [⟨.Name x px, iter, ifs, 0⟩] scope pos) 0 (.ref s₁.heap.objs.size) (.ref h1.objs.size) (compEnvC scope cl h2.objs.size C.env))
        (compPost C.M C.A NoE none (PW C AV.is fz ρ Q) (.ref h1.objs.size) h2.objs.size) s₃ := by
    rintro s₃ rfl
    have hlup : ∀ out, upd φ₁ h1.objs.size (.list out) l = some (.list items) := fun out => by
      rw [upd_ne]
      · exact hl
      · intro z; rw [z, nD] at hl; cases hl
    have W := comp_loop (C := compFC C scope cl h2.objs.size) (n := n) (elt := elt) (iter := iter) (px := px) (pos := pos) (scope := scope) (ifs := ifs) (D := h1.objs.size) (φ₁ := φ₁) (ρ₀ := ρ₀) (x := x) (it := s₁.heap.objs.size) (l := l) (items := items) p f G' lowL (lookup_relabel_local hx) hxc hz hlup
      (fun v hv out ρ' hsub => (hpe h2.objs.size h1.objs.size out nD G' v hv ρ' hsub).1) (fun v hv hpv out ρ' hsub => (hpe h2.objs.size h1.objs.size out nD G' v hv ρ' hsub).2 hpv) hx0
      (fz := fz') (s := ⟨h3, s₁.gens, s₁.drawn, s₁.toks + ([] : List (Str × Value)).length, s₁.os⟩) (i := 0) (out := []) (ρ' := ρ₀) ⟨rfl, rfl⟩ ⟨⟨_, ψ, SC.freeze ei nit nmi⟩, g, o⟩ (Sub.refl _) rfl (Nat.zero_le _) hfzi
    refine codeAny_mono W fun r s' z => ?_
    obtain ⟨rfl, ρ', hsub, ⟨m', ψ', H'⟩, g', o'⟩ := z
    refine ⟨m', H'.fr.ns, fun h' hsb' => ⟨.ref h1.objs.size, _, rfl, ⟨⟨m, ψ', ?_⟩, g', o'⟩, hq _ nD⟩⟩
    have hCa : ¬ cov (upd φ₁ h1.objs.size (.list ((items.filter p).map f))) ψ' h2.objs.size ∧ fz' h2.objs.size = none := H'.apart _ (.inl rfl)
    have K' : HOk C.W fz' (upd φ₁ h1.objs.size (.list ((items.filter p).map f))) ψ' h' := H'.ok.agree (fun b c => hsb'.2 b fun z => hCa.1 ((show b = h2.objs.size from z) ▸ c))
      (fun b ob e => (hsb'.2 b fun z => by
        have t : h2.objs.size < C.W.g.objs.size := (show b = h2.objs.size from z) ▸ Heap.lt_size e
        have u : C.W.g.objs.size ≤ s₁.heap.objs.size := lowL
        omega).trans (H'.fr.keep b ob e))
      fun b ob e => ⟨(hsb'.2 b fun z => by rw [show b = h2.objs.size from z, hCa.2] at e; cases e).trans (H'.ok.frz b ob e).1, (H'.ok.frz b ob e).2⟩
    have keepCell : ∀ y c ov, cl.lookup y = some c → s'.heap.IsCell c ov → h'.IsCell c ov := fun y c ov hy hc => hc.sameBut hsb' (G'.clL y c hy).1
    refine H.back (ρ₀ := ρ₀) (cl := cl) K' (fun b hb ob e => ?_) hcl (fun y c hy => (H'.apart c (.inr ⟨y, hy⟩)).1) (fun y v c e q => ?_) (fun y c q => ?_) hρ G.cl1 (fun y c e => (G.clL y c e).1)
    · show (if (compFC C scope cl h2.objs.size).mine b then none else C.hold fz s₁.heap b) = some ob
      rw [if_neg, e]
      rintro (q | ⟨y, q⟩)
      · have q : b = h2.objs.size := q
        unfold FC.hold at e
        rw [q, if_neg (nmine _ (by omega))] at e
        have := (H.ok.frz _ _ e).1
        rw [n0 _ (by omega)] at this; cases this
      · exact hb y q
    · obtain ⟨u, hu, hi⟩ := H'.cel y v c (hsub y v e) q
      exact ⟨u, keepCell y c _ q hu, hi⟩
    · obtain ⟨ov, hu⟩ := H'.there y c q
      exact ⟨ov, keepCell y c _ q hu⟩
  exact codeAny_compStart_list (loop _ rfl) (wpAny_pyIter_listiter ⟨_, ei, rfl, rfl⟩ (loop _ rfl))
end
end Mine

open PySem PySem.W PyProof.Rows PySem.Calls PySem.MeetsSeq PySem.MeetsSeq2 PySem.MeetsSeq3
set_option Elab.async false
set_option maxRecDepth 100000
set_option linter.unusedVariables false
namespace Mine

theorem lookup_snoc {α : Type} (x y : Str) (v : α) : ∀ l : List (Str × α), (l ++ [(y, v)]).lookup x = match l.lookup x with | some u => some u | none => if x = y then some v else none
  | [] => by
    rw [List.nil_append, List.lookup_cons]
    by_cases z : x = y
    · subst z; rw [beq_self_eq_true]; simp
    · have : (x == y) = false := by simpa using z
      rw [this]; simp [z]
  | (k, w) :: r => by
    rw [List.cons_append, List.lookup_cons, List.lookup_cons]
    cases q : (x == k) with
    | true => rfl
    | false => exact lookup_snoc x y v r
theorem bindL_eq (kd : Str → Option NameKind) (x : Str) : ∀ (bs : List (Str × Value)) (m : Str → Option Value), kd x = some .local → bindL kd bs m x = match bs.reverse.lookup x with | some u => some u | none => m x
  | [], m, _ => rfl
  | (n, v) :: r, m, h => by
    unfold bindL
    rw [bindL_eq kd x r _ h, List.reverse_cons, lookup_snoc]
    cases r.reverse.lookup x with
    | some u => rfl
    | none =>
      dsimp only
      by_cases z : x = n
      · subst z; rw [if_pos h]; simp
      · rw [if_neg z]; split
        · simp [z]
        · rfl
theorem bindC_eq (kd : Str → Option NameKind) (x : Str) : ∀ (bs : List (Str × Value)) (m : Str → Option Value), kd x ≠ some .local → bindC kd bs m x = match bs.reverse.lookup x with | some u => some u | none => m x
  | [], m, _ => rfl
  | (n, v) :: r, m, h => by
    unfold bindC
    rw [bindC_eq kd x r _ h, List.reverse_cons, lookup_snoc]
    cases r.reverse.lookup x with
    | some u => rfl
    | none =>
      dsimp only
      by_cases z : x = n
      · subst z; rw [if_neg h]; simp
      · rw [if_neg z]; split
        · rfl
        · simp [z]
theorem lookup_mem {α : Type} {x : Str} {v : α} : ∀ {l : List (Str × α)}, l.lookup x = some v → x ∈ l.map (·.1)
  | (k, w) :: r, e => by
    rw [List.lookup_cons] at e
    cases q : (x == k) with
    | true => rw [beq_iff_eq.mp q]; simp
    | false => rw [q] at e; simp only [List.map_cons, List.mem_cons]; exact .inr (lookup_mem e)

/-- a def with cells -/
theorem spec_defC {W : Wd} (ok : W.Ok) {lvl : Nat} {f : Addr} {qual : Str} {st : Stmt} {names : List Str} {as : List AV} {φ : AH} {Q : AV → AH → Prop} (hf : FnAt W.K f qual st)
    (hb : ∀ name doc pm an cdv ct (vs : List Value), vs.length = as.length → bindArgs (fnOf name qual (dArgs st) (dBody st) (dScope st) .none .none doc pm an cdv ct) ⟨vs, []⟩ = pure (names.zip vs))
    (hl : ∀ n, (names.all fun y => ((dScope st).names.lookup y == some .local && (cellsFrom n (dScope st).names []).lookup y == none) || ((dScope st).names.lookup y == some .cell && ((cellsFrom n (dScope st).names []).lookup y).isSome)) = true)
    (h : ∀ A L cd, Gd ⟨W, A, envX qual (dScope st) L f cd (cellsFrom (L + 1) (dScope st).names [])⟩ lvl → ∀ R, Imp (Post Q) R → XS ⟨W, A, envX qual (dScope st) L f cd (cellsFrom (L + 1) (dScope st).names [])⟩ (execs (dBody st) (envX qual (dScope st) L f cd (cellsFrom (L + 1) (dScope st).names []))) (names.zip as).reverse φ R)
    (hk : (dScope st).kind = .function := by rfl) (hco : (dScope st).isCoroutine = false := by rfl) (hgen : (dScope st).isGenerator = false := by rfl) : Spec W (lvl + 1) f as φ Q := by
  intro A r vs hv fz s S
  obtain ⟨oc, od, osl, name, doc, pm, an, cdv, ct, ho, hcd⟩ := hf
  obtain ⟨⟨ψ, K⟩, hsz, g, o⟩ := id S
  have X : W.K.In s.heap := ok.X.keeps K.keep
  have kind : ∀ n, ∀ x ∈ names.zip vs, ((dScope st).names.lookup x.1 = some .local ∧ (cellsFrom n (dScope st).names []).lookup x.1 = none) ∨ ((dScope st).names.lookup x.1 = some .cell ∧ ((cellsFrom n (dScope st).names []).lookup x.1).isSome = true) := fun n x hx => by
    have := List.all_eq_true.mp (hl n) x.1 (List.of_mem_zip hx).1
    simpa using this
  refine codeAny_call_cells (fd := fnOf name qual (dArgs st) (dBody st) (dScope st) .none .none doc pm an cdv ct) (body := dBody st) (binds := names.zip vs) (by have := r.d; omega) (X _ _ ho) rfl (ok.T.nolimit.keeps K.keep) (codeRec_of X hcd) rfl
    (hb name doc pm an cdv ct vs hv.length.symm) rfl (fun x hx => (kind _ x hx).imp (·.1) id) (fun s₁ x => ?_) hco hgen hk
  have ab : ∀ y c, (cellsFrom (s.heap.objs.size + 1) (dScope st).names []).lookup y = some c → s.heap.objs.size < c := fun y c e => x.above y c (mem_of_lookup e)
  have G : Gd ⟨W, A.deeper (envX qual (dScope st) s.heap.objs.size f cdv (cellsFrom (s.heap.objs.size + 1) (dScope st).names [])), envX qual (dScope st) s.heap.objs.size f cdv (cellsFrom (s.heap.objs.size + 1) (dScope st).names [])⟩ lvl :=
    ⟨ok, r.deeper, hk, rfl, rfl, fun y c e => ⟨Nat.ne_of_gt (ab y c e), Nat.le_trans hsz (Nat.le_of_lt (ab y c e))⟩, fun y z c e e' => name_of_addr x.apart (mem_of_lookup e) (mem_of_lookup e')⟩
  obtain ⟨h₁, tk, rfl, hk₁⟩ := x.done
  have K' := K.grow hk₁
  have hmine : ∀ b, FC.mine ⟨W, A.deeper (envX qual (dScope st) s.heap.objs.size f cdv (cellsFrom (s.heap.objs.size + 1) (dScope st).names [])), envX qual (dScope st) s.heap.objs.size f cdv (cellsFrom (s.heap.objs.size + 1) (dScope st).names [])⟩ b → s.heap.objs.size ≤ b := by
    rintro b (rfl | ⟨y, q⟩)
    · exact Nat.le_refl _
    · exact Nat.le_of_lt (ab y b q)
  have rel := (hv.zip_rel (names := names)).reverse
  have SC : StC ⟨W, A.deeper (envX qual (dScope st) s.heap.objs.size f cdv (cellsFrom (s.heap.objs.size + 1) (dScope st).names [])), envX qual (dScope st) s.heap.objs.size f cdv (cellsFrom (s.heap.objs.size + 1) (dScope st).names [])⟩ fz (names.zip as).reverse φ
      (bindL (fun y => (dScope st).names.lookup y) (names.zip vs) fun _ => none) ψ h₁ := by
    refine ⟨⟨x.toInCall.ns, K'.keep, hsz⟩, K', fun b hb => ⟨(K.none_of (old_none (hmine b hb))).2.2, (K.none_of (old_none (hmine b hb))).2.1⟩, fun y v e q => ?_, fun y v c e q => ?_, fun y c q => ⟨_, x.cell y c q⟩⟩
    · obtain ⟨u, hu, hi⟩ := rel.lookup_rel e
      have hm : y ∈ (names.zip vs).map (·.1) := by have := lookup_mem hu; simpa using this
      obtain ⟨p, hp, rfl⟩ := List.mem_map.mp hm
      rcases kind _ p hp with ⟨k1, k2⟩ | ⟨k1, k2⟩
      · exact ⟨u, by rw [bindL_eq _ _ _ _ k1, hu], hi⟩
      · rw [show (cellsFrom (s.heap.objs.size + 1) (dScope st).names []).lookup p.1 = none from q] at k2; cases k2
    · obtain ⟨u, hu, hi⟩ := rel.lookup_rel e
      have hm : y ∈ (names.zip vs).map (·.1) := by have := lookup_mem hu; simpa using this
      obtain ⟨p, hp, rfl⟩ := List.mem_map.mp hm
      rcases kind _ p hp with ⟨k1, k2⟩ | ⟨k1, k2⟩
      · rw [show (cellsFrom (s.heap.objs.size + 1) (dScope st).names []).lookup p.1 = some c from q] at k2; cases k2
      · have hc := x.cell p.1 c q
        rw [bindC_eq _ _ _ _ (fun z => by have z : (dScope st).names.lookup p.1 = some .local := z; rw [k1] at z; cases z), hu] at hc
        exact ⟨u, hc, hi⟩
  refine wpAny_mono (h _ _ cdv G _ (Imp.refl _) fz ⟨h₁, s.gens, s.drawn, _, s.os⟩ ⟨⟨_, ψ, SC⟩, g, o⟩) (fun fl s' => ?_) fun _ _ x => x.elim
  rintro ⟨b, ρ', φ', hb, ⟨⟨m', ψ', H'⟩, g', o'⟩, q⟩
  cases b with
  | next => cases hb; exact ⟨.none, φ', rfl, ⟨⟨ψ', H'.ok⟩, H'.low, g', o'⟩, q⟩
  | brk => exact q.elim
  | cont => exact q.elim
  | ret v => obtain ⟨u, rfl, hu⟩ := hb; exact ⟨v, φ', hu, ⟨⟨ψ', H'.ok⟩, H'.low, g', o'⟩, q⟩
end Mine

open PySem PySem.W PyProof.Rows PySem.Calls PySem.MeetsSeq PySem.MeetsSeq2 PySem.MeetsSeq3
set_option Elab.async false
set_option maxRecDepth 100000
set_option linter.unusedVariables false
namespace Mine
section
variable {C : FC} {ρ : Loc} {φ : AH} {n : Nat} {R : AF → Loc → AH → Prop} {P : Loc → AH → Prop} {Q : AV → AH → Prop}

theorem St.new' {fz : Addr → Option Obj} {s : Shared} {m ψ h'} (H : StC C fz ρ φ m ψ s.heap) (hg : s.gens = C.W.gens) (ho : s.os = C.W.os) {a : Addr} {o' : AO} (hn' : o'.notInst) (e : s.heap.get? a = none) (low : C.W.g.objs.size ≤ a) (hk : ∀ b o, s.heap.get? b = some o → h'.get? b = some o) (hc : Cell C.W.prog C.W.w h' ψ a o') {d : Drawn} {t : Nat} :
    φ a = none ∧ St C fz ρ (upd φ a o') ⟨h', s.gens, d, t, s.os⟩ := by
  refine ⟨(H.ok.none_of e).1, St.frame H hg ho (H.ok.new hn' low e hk hc) (fun b hb => by obtain ⟨o, q⟩ := H.old hb; rw [hk _ _ q, q]) ?_⟩
  rintro b hb (⟨x, z⟩ | ⟨c, D, gs, z, y⟩)
  · by_cases q : b = a
    · obtain ⟨o, w⟩ := H.old hb; rw [q, e] at w; cases w
    · rw [upd_ne q] at z; exact (H.apart b hb).1 (.inl ⟨_, z⟩)
  · by_cases q : c = a
    · subst q; rw [upd_self] at z; injection z with z; subst z; exact hn'.elim
    · rw [upd_ne q] at z; exact (H.apart b hb).1 (.inr ⟨c, D, gs, z, y⟩)
theorem AreP.keys {K : Type} {l : List (K × AV)} {kvs : List (K × Value)} (h : AreP l kvs) : kvs.map (·.1) = l.map (·.1) := by
  induction h with
  | nil => rfl
  | cons hr _ ih => rw [List.map_cons, List.map_cons, ih, hr.1]
/-- dict displays -/
theorem ev_dict0 {pos : Pos} (q : ∀ d ep, φ d = none → Q (.ref d) (upd φ d (.idict [] ep))) : EV C (eval (.Dict [] [] pos) C.env) ρ φ Q :=
  WPx.of fun fz s m ψ H g o => by
    have e0 := Heap.DictOf.new (knd := intKind C.W.prog C.W.w) s.heap
    obtain ⟨ep, e1⟩ := e0.dictAt
    obtain ⟨h1, h2⟩ := St.new (a := s.heap.objs.size) (h' := s.heap.push { cls := .type "dict", data := .dict #[] }) (o' := .idict [] ep) (d := s.drawn) (t := s.toks) H g o trivial (Nat.le_refl _) (fun b o e => Heap.get?_push_of_some _ e)
      ⟨[], e1, .nil⟩
    exact wpAny_Dict_empty ⟨.ref _, _, rfl, h2, q _ _ h1⟩
abbrev EP (C : FC) (t : Sem (List (Value × Value))) (ρ : Loc) (φ : AH) (R : List (AV × AV) → AH → Prop) : Prop := WPx C t (Are fun p q => p.1.is q.1 ∧ p.2.is q.2) ρ φ R
theorem ep_nil {pos : Pos} {ks : List (Option Expr)} {R : List (AV × AV) → AH → Prop} (q : R [] φ) : EP C (evalPairs (pairTrees [] [] C.env pos)) ρ φ R := fun fz s S => evalPairs_nil ⟨[], φ, .nil, S, q⟩
theorem ep_cons {k v : Expr} {ks : List (Option Expr)} {vs : List Expr} {pos : Pos} {R : List (AV × AV) → AH → Prop}
    (h : EV C (eval k C.env) ρ φ fun a φ₁ => EV C (eval v C.env) ρ φ₁ fun b φ₂ => EP C (evalPairs (pairTrees ks vs C.env pos)) ρ φ₂ fun l φ₃ => R ((a, b) :: l) φ₃) : EP C (evalPairs (pairTrees (some k :: ks) (v :: vs) C.env pos)) ρ φ R := by
  intro fz s S
  refine evalPairs_cons (wpAny_mono (h fz s S) (fun a s₁ => ?_) fun _ _ x => x)
  rintro ⟨a', φ₁, ha, S₁, q⟩
  refine wpAny_bind (wpAny_mono (q fz s₁ S₁) (fun b s₂ => ?_) fun _ _ x => x)
  rintro ⟨b', φ₂, hb, S₂, q⟩
  refine wpAny_bind (wpAny_standAt (wpAny_pure (wpAny_mono (q fz s₂ S₂) (fun l s₃ => ?_) fun _ _ x => x)))
  rintro ⟨l', φ₃, hl, S₃, q⟩
  exact ⟨(a', b') :: l', φ₃, .cons ⟨ha, hb⟩ hl, S₃, q⟩
theorem carries_int {prog : Program} {w : World} {l : List (Int × AV)} : ∀ {vs : List (Value × Value)}, Are (fun (p : AV × AV) (q : Value × Value) => p.1.is q.1 ∧ p.2.is q.2) (l.map fun p => (.int p.1, p.2)) vs → ∃ kvs, Carries (intKind prog w) vs kvs ∧ AreP l kvs ∧ kvs.map (·.1) = l.map (·.1) := by
  induction l with
  | nil => intro vs h; cases h; exact ⟨[], trivial, .nil, rfl⟩
  | cons p l ih =>
    intro vs h
    cases h with
    | @cons _ q _ _ h r =>
      obtain ⟨kvs, c1, c2, c3⟩ := ih r
      obtain ⟨⟨t, hk⟩, hv⟩ := h
      refine ⟨(p.1, q.2) :: kvs, ⟨?_, rfl, c1⟩, .cons ⟨rfl, hv⟩ c2, congrArg (p.1 :: ·) c3⟩
      rw [hk]; exact intKind_is _ _ _ _
theorem carries_str {prog : Program} {w : World} {l : List (Str × AV)} : ∀ {vs : List (Value × Value)}, Are (fun (p : AV × AV) (q : Value × Value) => p.1.is q.1 ∧ p.2.is q.2) (l.map fun p => (.str p.1, p.2)) vs → ∃ kvs, Carries (strKind prog w) vs kvs ∧ AreP l kvs ∧ kvs.map (·.1) = l.map (·.1) := by
  induction l with
  | nil => intro vs h; cases h; exact ⟨[], trivial, .nil, rfl⟩
  | cons p l ih =>
    intro vs h
    cases h with
    | @cons _ q _ _ h r =>
      obtain ⟨kvs, c1, c2, c3⟩ := ih r
      obtain ⟨⟨t, hk⟩, hv⟩ := h
      refine ⟨(p.1, q.2) :: kvs, ⟨?_, rfl, c1⟩, .cons ⟨rfl, hv⟩ c2, congrArg (p.1 :: ·) c3⟩
      rw [hk]; exact strKind_is _ _ _ _
theorem ev_dictI {keys : List (Option Expr)} {values : List Expr} {pos : Pos}
    (h : ∀ d ep, φ d = none → EP C (evalPairs (pairTrees keys values C.env pos)) ρ (upd φ d (.idict [] ep)) fun ps φ' => ∃ l ep', ps = l.map (fun p => (.int p.1, p.2)) ∧ φ' d = some (.idict [] ep') ∧ (l.map (·.1)).Nodup ∧ ∀ ep'', Q (.ref d) (upd φ' d (.idict l ep'')))
    (hall : keys.all (·.isSome) = true := by with_unfolding_all rfl) (hl : keys.length = values.length := by with_unfolding_all rfl) (h0 : keys ≠ [] := by exact List.cons_ne_nil _ _) (hlen : keys.length ≤ 15 := by decide) : EV C (eval (.Dict keys values pos) C.env) ρ φ Q :=
  WPx.of fun fz s m ψ H g o => by
    obtain ⟨ep, e1⟩ := (Heap.DictOf.new (knd := intKind C.W.prog C.W.w) s.heap).dictAt
    obtain ⟨h1, h2⟩ := St.new (a := s.heap.objs.size) (h' := s.heap.push { cls := .type "dict", data := .dict #[] }) (o' := .idict [] ep) (d := s.drawn) (t := s.toks) H g o trivial (Nat.le_refl _) (fun b o e => Heap.get?_push_of_some _ e)
      ⟨[], e1, .nil⟩
    refine wpAny_Dict_walk (knd := intKind C.W.prog C.W.w) hall hl h0 hlen (wpAny_mono (h _ _ h1 fz _ h2) (fun vs s₁ => ?_) fun _ _ x => x)
    rintro ⟨ps, φ', hr, ⟨⟨m', ψ', H'⟩, g', o'⟩, l, ep', rfl, e', hn, q⟩
    obtain ⟨kvs, c1, c2, c3⟩ := carries_int (prog := C.W.prog) (w := C.W.w) hr
    obtain ⟨kvs', d1, d2, d3⟩ := idict_of H' e'
    have : kvs' = [] := by cases kvs' with
      | nil => rfl
      | cons _ _ => cases d3
    subst this
    refine ⟨kvs, c1, d1.dictOf, fun h' hm hs => ?_⟩
    rw [merged_nil_of_nodup _ (by rw [c3]; exact hn)] at hm
    obtain ⟨ep'', hm'⟩ := hm.dictAt
    exact ⟨.ref _, _, rfl, St.put (o' := .idict l ep'') H' g' o' e' trivial trivial hs ⟨_, hm', c2⟩, q ep''⟩
theorem ev_dictS {keys : List (Option Expr)} {values : List Expr} {pos : Pos}
    (h : ∀ d, φ d = none → EP C (evalPairs (pairTrees keys values C.env pos)) ρ (upd φ d (.sdict [])) fun ps φ' => ∃ l, ps = l.map (fun p => (.str p.1, p.2)) ∧ φ' d = some (.sdict []) ∧ (l.map (·.1)).Nodup ∧ Q (.ref d) (upd φ' d (.sdict l)))
    (hall : keys.all (·.isSome) = true := by with_unfolding_all rfl) (hl : keys.length = values.length := by with_unfolding_all rfl) (h0 : keys ≠ [] := by exact List.cons_ne_nil _ _) (hlen : keys.length ≤ 15 := by decide) : EV C (eval (.Dict keys values pos) C.env) ρ φ Q :=
  WPx.of fun fz s m ψ H g o => by
    have e1 := Heap.DictOf.new (knd := strKind C.W.prog C.W.w) s.heap
    obtain ⟨h1, h2⟩ := St.new (a := s.heap.objs.size) (h' := s.heap.push { cls := .type "dict", data := .dict #[] }) (o' := .sdict []) (d := s.drawn) (t := s.toks) H g o trivial (Nat.le_refl _) (fun b o e => Heap.get?_push_of_some _ e)
      ⟨[], e1, .nil⟩
    refine wpAny_Dict_walk (knd := strKind C.W.prog C.W.w) hall hl h0 hlen (wpAny_mono (h _ h1 fz _ h2) (fun vs s₁ => ?_) fun _ _ x => x)
    rintro ⟨ps, φ', hr, ⟨⟨m', ψ', H'⟩, g', o'⟩, l, rfl, e', hn, q⟩
    obtain ⟨kvs, c1, c2, c3⟩ := carries_str (prog := C.W.prog) (w := C.W.w) hr
    obtain ⟨kvs', d1, d2, d3⟩ := sdict_of H' e'
    have : kvs' = [] := by cases kvs' with
      | nil => rfl
      | cons _ _ => cases d3
    subst this
    refine ⟨kvs, c1, d1, fun h' hm hs => ?_⟩
    rw [merged_nil_of_nodup _ (by rw [c3]; exact hn)] at hm
    exact ⟨.ref _, _, rfl, St.put (o' := .sdict l) H' g' o' e' trivial trivial hs ⟨_, hm, c2⟩, q⟩

/-- a < b <= c -/
theorem ev_chain {l r₁ r₂ : Expr} {op₁ op₂ : CmpOp} {pos : Pos}
    (h : EV C (eval l C.env) ρ φ fun a φ₁ => EV C (eval r₁ C.env) ρ φ₁ fun b φ₂ => Cmp C ρ op₁ a b φ₂ fun c φ₃ => Tru C ρ c φ₃ fun t φ₄ =>
      (t = true → EV C (eval r₂ C.env) ρ φ₄ fun d φ₅ => Cmp C ρ op₂ b d φ₅ Q) ∧ (t = false → Q c φ₄))
    (hm : lastMarks [op₁, op₂] [r₁, r₂] = false := by with_unfolding_all rfl) : EV C (eval (.Compare l [op₁, op₂] [r₁, r₂] pos) C.env) ρ φ Q := by
  intro fz s S
  refine Compare_chain (wpAny_mono (h fz s S) (fun v s₁ => ?_) fun _ _ x => x) hm
  rintro ⟨a, φ₁, ha, S₁, q⟩
  refine chain_link (wpAny_mono (q fz s₁ S₁) (fun u s₂ => ?_) fun _ _ x => x)
  rintro ⟨b, φ₂, hb, S₂, q⟩
  refine wpAny_mono (q v u ha hb fz s₂ S₂) (fun c s₃ => ?_) fun _ _ x => x
  rintro ⟨c', φ₃, hc, S₃, q⟩
  refine wpAny_mono (q c hc fz s₃ S₃) (fun t s₄ => ?_) fun _ _ x => x
  rintro ⟨t', φ₄, rfl, S₄, q⟩
  cases t' with
  | true =>
    rw [if_pos rfl]
    refine chain_last (wpAny_mono (q.1 rfl fz s₄ S₄) (fun d s₅ => ?_) fun _ _ x => x)
    rintro ⟨d', φ₅, hd, S₅, q⟩
    exact q u d hb hd fz s₅ S₅
  | false => rw [if_neg (by simp)]; exact ⟨c', φ₄, hc, S₄, q.2 rfl⟩

/-- slices -/
def Slc (C : FC) (ρ : Loc) (o l u : AV) (φ : AH) (Q : AV → AH → Prop) : Prop := ∀ ov lv uv, o.is ov → l.is lv → u.is uv → ∀ fz (s : Shared) m ψ, StC C fz ρ φ m ψ s.heap → ∃ a vs lo hi items, ov = .ref a ∧ s.heap.IsList a vs ∧ vs.size ≤ sizeLine ∧ IsPart lv lo ∧ IsPart uv hi ∧
  AreV items (slicePick vs lo hi none).toList ∧ ∀ d, φ d = none → Q (.ref d) (upd φ d (.list items))
theorem ep_none (q : Q .none φ) : EV C (evalPart none C.env) ρ φ Q := fun fz s S => evalPart_none_step ⟨.none, φ, rfl, S, q⟩
theorem ev_slice {value : Expr} {lower upper : Option Expr} {p pos : Pos} (h : EV C (eval value C.env) ρ φ fun o φ₁ => EV C (evalPart lower C.env) ρ φ₁ fun l φ₂ => EV C (evalPart upper C.env) ρ φ₂ fun u φ₃ => Slc C ρ o l u φ₃ Q)
    (ht : ∀ o r, letTemporaryGo value o r = pure () := by intro _ _; with_unfolding_all rfl) : EV C (eval (.Subscript value (.Slice lower upper none p) pos) C.env) ρ φ Q := by
  intro fz s S
  refine wpAny_Subscript_list_slice (wpAny_mono (h fz s S) (fun v s₁ => ?_) fun _ _ x => x) ht
  rintro ⟨a, φ₁, ha, S₁, q⟩
  refine wpAny_mono (q fz s₁ S₁) (fun u s₂ => ?_) fun _ _ x => x
  rintro ⟨b, φ₂, hb, S₂, q⟩
  refine wpAny_mono (q fz s₂ S₂) (fun c s₃ => ?_) fun _ _ x => x
  rintro ⟨c', φ₃, hc, ⟨⟨m, ψ, H⟩, g, o⟩, q⟩
  obtain ⟨l, vs, lo, hi, items, rfl, hl, hsz, pl, pu, hp, q⟩ := q v u c ha hb hc fz s₃ m ψ H
  refine ⟨l, vs, lo, hi, rfl, hl, hsz, pl, pu, ?_⟩
  have hk : ∀ b ob, s₃.heap.get? b = some ob → ((s₃.heap.push { cls := .type "slice", data := .fields #[u, c, .none] }).push { cls := .type "list", data := .seq (slicePick vs lo hi none) }).get? b = some ob := fun b ob e => Heap.get?_push_of_some _ (Heap.get?_push_of_some _ e)
  obtain ⟨h1, h2⟩ := St.new (a := s₃.heap.objs.size + 1) (o' := .list items) (d := s₃.drawn) (t := s₃.toks) H g o trivial (Nat.le_succ _) hk ⟨slicePick vs lo hi none, 0, by
    have := Heap.get?_push_size (s₃.heap.push { cls := .type "slice", data := .fields #[u, c, .none] }) (o := { cls := .type "list", data := .seq (slicePick vs lo hi none) }) rfl
    rwa [Heap.size_push] at this, hp⟩
  exact ⟨.ref _, _, rfl, h2, q _ h1⟩
theorem slc_upto {a : Addr} {l : List AV} {b : Nat} (e : φ a = some (.list l)) (q : ∀ d, φ d = none → Q (.ref d) (upd φ d (.list (l.take b)))) (hz : l.length ≤ 1000000) : Slc C ρ (.ref a) .none (.int b) φ Q := by
  rintro _ _ _ rfl rfl ⟨t, rfl⟩ fz s m ψ H
  obtain ⟨vs, k, c1, c2, c3⟩ := list_of H e
  exact ⟨a, vs, none, some (b : Int), l.take b, rfl, c1.isList, sizeLine_ok (by omega), .none, .int _ _, by rw [slicePick_upto']; exact c2.take b, q⟩
theorem slc_last {a : Addr} {l : List AV} {k : Nat} (e : φ a = some (.list l)) (q : ∀ d, φ d = none → Q (.ref d) (upd φ d (.list (l.drop (l.length - k))))) (hk : 1 ≤ k) (hz : l.length ≤ 1000000) : Slc C ρ (.ref a) (.int (-(k : Int))) .none φ Q := by
  rintro _ _ _ rfl ⟨t, rfl⟩ rfl fz s m ψ H
  obtain ⟨vs, j, c1, c2, c3⟩ := list_of H e
  exact ⟨a, vs, some (-(k : Int)), none, l.drop (l.length - k), rfl, c1.isList, sizeLine_ok (by omega), .int _ _, .none, by rw [slicePick_last _ _ hk, c3]; exact c2.drop _, q⟩
theorem ints_are {ns : List Int} {vs : List Value} (h : IntsAre vs ns) : AreV (ns.map .int) vs := by
  induction h with
  | nil => exact .nil
  | cons k t r ih => exact .cons ⟨t, rfl⟩ ih
theorem are_ints {ns : List Int} : ∀ {vs : List Value}, AreV (ns.map .int) vs → IntsAre vs ns := by
  induction ns with
  | nil => intro vs h; cases h; exact .nil
  | cons n ns ih =>
    intro vs h
    cases h with
    | cons h r => obtain ⟨t, hv⟩ := h; rw [hv]; exact .cons n t (ih r)
/-- the script's own list -/
theorem slc_base {a : Addr} {vs : List Value} {ns : List Int} {b : Nat} (hl : C.W.g.IsList a vs.toArray) (hi : IntsAre vs ns) (q : ∀ d, φ d = none → Q (.ref d) (upd φ d (.list ((ns.take b).map .int)))) (hz : ns.length ≤ 1000000) : Slc C ρ (.ref a) .none (.int b) φ Q := by
  rintro _ _ _ rfl rfl ⟨t, rfl⟩ fz s m ψ H
  have hlen := (ints_are hi).length
  rw [List.length_map] at hlen
  obtain ⟨o, ho, r⟩ := hl
  refine ⟨a, vs.toArray, none, some (b : Int), (ns.map .int).take b, rfl, ⟨o, H.fr.keep _ _ ho, r⟩, sizeLine_ok (by simp; omega), .none, .int _ _, by rw [slicePick_upto']; exact (ints_are hi).take b, ?_⟩
  rw [← List.map_take]; exact q

/-- lists of ints -/
theorem cmp_eqL {a b : Addr} {l k : List Int} (e : φ a = some (.list (l.map .int))) (e' : φ b = some (.list (k.map .int))) (q : Q (.bool (decide (l = k))) φ) (G : Gd C n := by assumption) : Cmp C ρ .Eq (.ref a) (.ref b) φ Q := by
  rintro _ _ rfl rfl
  refine WPx.of fun fz s m ψ H g o => ?_
  obtain ⟨vs, i, c1, c2, c3⟩ := list_of H e
  obtain ⟨us, j, d1, d2, d3⟩ := list_of H e'
  exact eq_intsK (by simpa using c1.isList) (are_ints c2) (by simpa using d1.isList) (are_ints d2) (by have := G.room.u; omega) ⟨.bool _, φ, rfl, St.mk' H g o, q⟩
theorem cmp_neL {a b : Addr} {l k : List Int} (e : φ a = some (.list (l.map .int))) (e' : φ b = some (.list (k.map .int))) (q : Q (.bool (!decide (l = k))) φ) (G : Gd C n := by assumption) : Cmp C ρ .NotEq (.ref a) (.ref b) φ Q := by
  rintro _ _ rfl rfl
  refine WPx.of fun fz s m ψ H g o => ?_
  obtain ⟨vs, i, c1, c2, c3⟩ := list_of H e
  obtain ⟨us, j, d1, d2, d3⟩ := list_of H e'
  exact ne_intsK (by simpa using c1.isList) (are_ints c2) (by simpa using d1.isList) (are_ints d2) (by have := G.room.u; omega) ⟨.bool _, φ, rfl, St.mk' H g o, q⟩
theorem cal_abs {a : Int} (q : Q (.int (if a < 0 then -a else a)) φ) : Cal C ρ (.raw (.builtin "abs")) [.int a] φ Q := by
  rintro _ _ rfl (_ | ⟨⟨t, rfl⟩, _ | _⟩)
  refine WPx.of fun fz s m ψ H g o => call_abs_int fun u tk => ⟨.int _, φ, ⟨_, rfl⟩, St.mk' H g o, q⟩
theorem cal_sorted_list {a : Addr} {l : List Int} (e : φ a = some (.list (l.map .int))) (hz : l.length < 64)
    (q : ∀ d (ns : List Int), φ d = none → ns.Perm l → ns.Pairwise (· ≤ ·) → Q (.ref d) (upd φ d (.list (ns.map .int)))) : Cal C ρ (.raw (.builtin "sorted")) [.ref a] φ Q := by
  rintro _ _ rfl (_ | ⟨rfl, _ | _⟩)
  refine WPx.of fun fz s m ψ H g o => ?_
  obtain ⟨vs, i, c1, c2, c3⟩ := list_of H e
  have hlen : vs.toList.length < 64 := by rw [← c2.length, List.length_map]; exact hz
  refine sorted_ints (vs := vs.toList) (by simpa using c1.isList) (are_ints c2) hlen fun out ns' h1 h2 h3 => ?_
  obtain ⟨ep, h4⟩ := sortedAll_at s.heap vs.toList out
  obtain ⟨z1, z2⟩ := St.new (a := s.heap.objs.size + 1) (o' := .list (ns'.map .int)) (d := s.drawn) (t := s.toks) H g o trivial (Nat.le_succ _) (fun b o e => sortedAll_old e) ⟨out, ep, h4, ints_are h1⟩
  exact ⟨.ref _, _, rfl, z2, q _ _ z1 h2 h3⟩
theorem sortedHeap_keep {h : Heap} {a b : Addr} {vs : List Value} {out : Array Value} {o : Obj} (hb : b ≠ a) (e : h.get? b = some o) : (sortedHeap h a vs out).get? b = some o := (sortedHeap_old hb (Heap.lt_size e)).trans e
theorem cal_sorted_dict {a : Addr} {l : List (Int × AV)} {ep : Nat} (e : φ a = some (.idict l ep)) (hz : l.length < 64)
    (q : ∀ d (ns : List Int), φ d = none → ns.Perm (l.map (·.1)) → ns.Pairwise (· ≤ ·) → Q (.ref d) (upd φ d (.list (ns.map .int)))) (G : Gd C n := by assumption) : Cal C ρ (.raw (.builtin "sorted")) [.ref a] φ Q := by
  rintro _ _ rfl (_ | ⟨rfl, _ | _⟩)
  refine WPx.of fun fz s m ψ H g o => ?_
  obtain ⟨kvs, c1, c2, c3⟩ := idict_of H e
  refine Calls.call_function_entry kind_sorted plain_sorted entry_sorted (args_sorted1 _) ?_
  unfold Builtin.«sorted»
  refine wpAny_bind (m := checkCount "sorted" 1 1 _) (wpAny_pure ?_)
  refine wpAny_bind (kdu_collect (kdl_dict (knd := intKind C.W.prog C.W.w) (kvs := kvs) (ep := ep) (H.lo G e)) (by show C.A.in1.handled = none; exact G.room.h) c1 (sizeLine_ok (by omega)) fun h' tk acc hk hacc => ?_)
  have hl : acc.toList.length = kvs.length := by rw [Array.length_toList]; exact hacc.1
  refine wpAny_bind (wpAny_newList ?_ (by rw [hl]; exact sizeLine_ok (by omega)))
  have hI : IntsAre acc.toList (kvs.map (·.1)) := by
    have : ∀ (ks : List (Int × Value)) (us : List Value), us.length = ks.length → (∀ (j : Nat) (v : Value), us[j]? = some v → ∃ k x, ks[j]? = some (k, x) ∧ (intKind C.W.prog C.W.w).is k v = true) → IntsAre us (ks.map (·.1)) := by
      intro ks
      induction ks with
      | nil => intro us hu _; cases us with
        | nil => exact .nil
        | cons _ _ => cases hu
      | cons p ks ih =>
        intro us hu hj
        cases us with
        | nil => cases hu
        | cons u us =>
          obtain ⟨k, x, e1, e2⟩ := hj 0 u rfl
          cases e1
          obtain ⟨t, rfl⟩ := Value.isInt_shape e2
          exact .cons _ _ (ih us (by simpa using hu) fun j v hv => hj (j + 1) v hv)
    exact this kvs acc.toList hl fun j v e => hacc.2 j v (by rw [← Array.getElem?_toList]; exact e)
  have hoL : (h'.push (seqObj "list" acc.toList.toArray 0)).get? h'.objs.size = some (seqObj "list" acc.toList.toArray 0) := Heap.get?_push_size _ rfl
  refine wpAny_bind (wpAny_holding (wpAny_call_entry slot_list_sort ⟨_, hoL, rfl⟩ entry_list_sort (list_sort_tree hoL hI (by rw [hl]; omega) fun out ns' h1 h2 h3 => ⟨_, rfl, ?_⟩) (args_list_sort _)))
  refine wpAny_pure ⟨_, rfl, ?_⟩
  obtain ⟨ep', h4⟩ := sortedHeap_at (out := out) hoL
  have hnone : s.heap.get? h'.objs.size = none := by
    cases z : s.heap.get? h'.objs.size with
    | none => rfl
    | some ob => exact absurd (Heap.lt_size (hk _ _ z)) (Nat.lt_irrefl _)
  have hlow : C.W.g.objs.size ≤ h'.objs.size := by
    obtain ⟨ob, _, e₁, _⟩ := c1
    exact Nat.le_trans (H.ok.own a (.inl ⟨_, e⟩)) (Nat.le_of_lt (Heap.lt_size (hk _ _ e₁)))
  obtain ⟨z1, z2⟩ := St.new' (a := h'.objs.size) (h' := sortedHeap (h'.push (seqObj "list" acc.toList.toArray 0)) h'.objs.size acc.toList out) (o' := .list (ns'.map .int)) (d := s.drawn) (t := tk) H g o trivial hnone hlow
    (fun b o e => sortedHeap_keep (Nat.ne_of_lt (Heap.lt_size (hk _ _ e))) (Heap.get?_push_of_some _ (hk _ _ e))) ⟨out, ep', h4, ints_are h1⟩
  refine ⟨.ref _, _, rfl, z2, q _ _ z1 (h2.trans ?_) h3⟩
  have : kvs.map (·.1) = l.map (·.1) := by
    exact AreP.keys c2
  rw [this]
end
end Mine

open PySem PySem.W PyProof.Rows PySem.Calls PySem.MeetsSeq PySem.MeetsSeq2 PySem.MeetsSeq3
set_option Elab.async false
set_option maxRecDepth 100000
set_option linter.unusedVariables false
namespace Mine

structure Rec where
  key : Int
  fn : Int
  term : AV
  ik : AV
  birth : Int
  death : Int
  next : Int
structure Prc where
  fn : Int
  kind : Str
  codes : AV
  terms : AV
  first : Int
  last : Int
structure Mdl where
  keys : List Int
  rc : Int → Rec
  nxt : Int
  gen : Int
  pks : List Int
  pr : Int → Prc
noncomputable def fset {β : Type} (f : Int → β) (k : Int) (v : β) : Int → β := fun j => if j = k then v else f j
theorem fset_self {β : Type} (f : Int → β) (k : Int) (v : β) : fset f k v k = v := if_pos rfl
theorem fset_ne {β : Type} {f : Int → β} {k j : Int} {v : β} (h : j ≠ k) : fset f k v j = f j := if_neg h
noncomputable def Mdl.setR (m : Mdl) (k : Int) (r : Rec) : Mdl := { m with rc := fset m.rc k r }
noncomputable def Mdl.setP (m : Mdl) (f : Int) (p : Prc) : Mdl := { m with pr := fset m.pr f p }
noncomputable def Mdl.new (m : Mdl) (fn : Int) (t i : AV) : Mdl := { m with keys := m.keys ++ [m.nxt], rc := fset m.rc m.nxt ⟨m.nxt, fn, t, i, m.gen + 1, -1, -1⟩, nxt := m.nxt + 1, gen := m.gen + 1 }
noncomputable def Mdl.nx (m : Mdl) : Int → Int := fun k => (m.rc k).next
noncomputable def vis (r : Rec) (g : Int) : Bool := decide (r.birth ≤ g) && (decide (r.death < 0) || decide (g < r.death))
noncomputable def liv (r : Rec) : Bool := decide (r.death < 0)

def Path (keys : List Int) (nx : Int → Int) : Int → List Int → Prop
  | p, [] => p < 0
  | p, k :: c => p = k ∧ 0 ≤ k ∧ k ∈ keys ∧ Path keys nx (nx k) c
def Seg (nx : Int → Int) : Int → List Int → Int → Prop
  | p, [], q => p = q
  | p, k :: c, q => p = k ∧ Seg nx (nx k) c q
theorem Seg.snoc {nx : Int → Int} : ∀ {c : List Int} {p q : Int}, Seg nx p c q → Seg nx p (c ++ [q]) (nx q)
  | [], p, q, h => ⟨h, rfl⟩
  | k :: c, p, q, h => ⟨h.1, Seg.snoc h.2⟩
theorem Seg.split {nx : Int → Int} {keys : List Int} : ∀ {c d : List Int} {p q : Int}, Seg nx p c q → Path keys nx p d → (∀ k ∈ c, 0 ≤ k) → ∃ d', d = c ++ d' ∧ Path keys nx q d'
  | [], d, p, q, h, hp, _ => ⟨d, rfl, (show p = q from h) ▸ hp⟩
  | k :: c, [], p, q, h, hp, h0 => by
    have h1 := h0 k (List.mem_cons_self ..)
    have h2 : p < 0 := hp
    have h3 := h.1
    omega
  | k :: c, j :: d, p, q, h, hp, h0 => by
    obtain ⟨h1, h2⟩ := h
    obtain ⟨p1, p2, p3, p4⟩ := hp
    subst h1 p1
    obtain ⟨d', e, hd⟩ := Seg.split h2 p4 fun x hx => h0 x (List.mem_cons_of_mem _ hx)
    exact ⟨d', by rw [e]; rfl, hd⟩
theorem Seg.path {nx : Int → Int} {keys : List Int} : ∀ {c : List Int} {p q : Int}, Seg nx p c q → q < 0 → (∀ k ∈ c, 0 ≤ k ∧ k ∈ keys) → Path keys nx p c
  | [], p, q, h, hq, _ => (show p = q from h) ▸ hq
  | k :: c, p, q, h, hq, h0 => ⟨h.1, (h0 k (List.mem_cons_self ..)).1, (h0 k (List.mem_cons_self ..)).2, Seg.path h.2 hq fun x hx => h0 x (List.mem_cons_of_mem _ hx)⟩
theorem Path.mem {keys : List Int} {nx : Int → Int} : ∀ {c : List Int} {p : Int}, Path keys nx p c → ∀ k ∈ c, 0 ≤ k ∧ k ∈ keys
  | [], _, _, k, hk => by cases hk
  | j :: c, p, h, k, hk => by
    rcases List.mem_cons.mp hk with rfl | hk
    · exact ⟨h.2.1, h.2.2.1⟩
    · exact Path.mem h.2.2.2 k hk
theorem Path.frame {keys keys' : List Int} {nx nx' : Int → Int} : ∀ {c : List Int} {p : Int}, Path keys nx p c → (∀ k ∈ c, nx' k = nx k ∧ k ∈ keys') → Path keys' nx' p c
  | [], _, h, _ => h
  | j :: c, p, h, hf => ⟨h.1, h.2.1, (hf j (List.mem_cons_self ..)).2, by rw [(hf j (List.mem_cons_self ..)).1]; exact Path.frame h.2.2.2 fun k hk => hf k (List.mem_cons_of_mem _ hk)⟩
theorem Path.first {keys : List Int} {nx : Int → Int} {c : List Int} {p : Int} (h : Path keys nx p c) : (0 ≤ p ↔ c ≠ []) ∧ (0 ≤ p → c.head? = some p) := by
  cases c with
  | nil => have : p < 0 := h; exact ⟨⟨fun z => by omega, fun z => absurd rfl z⟩, fun z => by omega⟩
  | cons k c => obtain ⟨h1, h2, _⟩ := h; exact ⟨⟨fun _ => by simp, fun _ => by omega⟩, fun _ => by simp [h1]⟩
theorem Path.seg {keys : List Int} {nx : Int → Int} : ∀ {c d : List Int} {p : Int}, Path keys nx p (c ++ d) → ∃ q, Seg nx p c q ∧ Path keys nx q d
  | [], d, p, h => ⟨p, rfl, h⟩
  | k :: c, d, p, h => by obtain ⟨q, h1, h2⟩ := Path.seg h.2.2.2; exact ⟨q, ⟨h.1, h1⟩, h2⟩
theorem Path.join {keys : List Int} {nx : Int → Int} : ∀ {c d : List Int} {p q : Int}, Seg nx p c q → (∀ k ∈ c, 0 ≤ k ∧ k ∈ keys) → Path keys nx q d → Path keys nx p (c ++ d)
  | [], d, p, q, h, _, hd => (show p = q from h) ▸ hd
  | k :: c, d, p, q, h, h0, hd => ⟨h.1, (h0 k (List.mem_cons_self ..)).1, (h0 k (List.mem_cons_self ..)).2, Path.join h.2 (fun x hx => h0 x (List.mem_cons_of_mem _ hx)) hd⟩
theorem Seg.frame {nx nx' : Int → Int} : ∀ {c : List Int} {p q : Int}, Seg nx p c q → (∀ k ∈ c, nx' k = nx k) → Seg nx' p c q
  | [], _, _, h, _ => h
  | j :: c, p, q, h, hf => ⟨h.1, by rw [hf j (List.mem_cons_self ..)]; exact Seg.frame h.2 fun k hk => hf k (List.mem_cons_of_mem _ hk)⟩

structure Good (m : Mdl) (ch : Int → List Int) : Prop where
  knd : m.keys.Nodup
  kin : ∀ k, k ∈ m.keys ↔ ∃ f ∈ m.pks, k ∈ ch f
  path : ∀ f ∈ m.pks, Path m.keys m.nx (m.pr f).first (ch f)
  last : ∀ f ∈ m.pks, (m.pr f).last = (ch f).getLastD (-1)
  nodup : ∀ f ∈ m.pks, (ch f).Nodup
  fn : ∀ f ∈ m.pks, ∀ k ∈ ch f, (m.rc k).fn = f
  key : ∀ k ∈ m.keys, (m.rc k).key = k
  born : ∀ k ∈ m.keys, 1 ≤ (m.rc k).birth ∧ (m.rc k).birth ≤ m.gen
  died : ∀ k ∈ m.keys, (m.rc k).death < 0 ∨ ((m.rc k).birth < (m.rc k).death ∧ (m.rc k).death ≤ m.gen)
  rng : ∀ k ∈ m.keys, 0 ≤ k ∧ k < m.nxt
  pfn : ∀ f ∈ m.pks, (m.pr f).fn = f
  kind : ∀ f ∈ m.pks, (m.pr f).kind ≠ "dynamic" → ch f = []
  pnd : m.pks.Nodup
  gen0 : 0 ≤ m.gen
  nxt0 : 0 ≤ m.nxt
def snd (m : Mdl) (k f : Int) : Prop := (m.rc k).key = k ∧ (m.rc k).fn = f ∧ 1 ≤ (m.rc k).birth ∧ (m.rc k).birth ≤ m.gen ∧ ((m.rc k).death < 0 ∨ ((m.rc k).birth < (m.rc k).death ∧ (m.rc k).death ≤ m.gen))
def Snd (m : Mdl) : Prop := ∀ f ∈ m.pks, ∃ c, Path m.keys m.nx (m.pr f).first c ∧ c.Nodup ∧ (∀ k ∈ c, snd m k f) ∧ (m.pr f).last = c.getLastD (-1) ∧ ((m.pr f).kind ≠ "dynamic" → c = [])
theorem Good.sound {m : Mdl} {ch : Int → List Int} (g : Good m ch) {f k : Int} (hf : f ∈ m.pks) (hk : k ∈ ch f) : k ∈ m.keys ∧ snd m k f := by
  have h := (g.kin k).mpr ⟨f, hf, hk⟩
  exact ⟨h, g.key k h, g.fn f hf k hk, (g.born k h).1, (g.born k h).2, g.died k h⟩
theorem Good.vis {m : Mdl} {ch : Int → List Int} (g : Good m ch) {k : Int} (h : k ∈ m.keys) : vis (m.rc k) m.gen = liv (m.rc k) := by
  have h1 := g.born k h
  have h2 := g.died k h
  unfold Mine.vis liv
  rcases h2 with h2 | h2
  · simp [h1.2, h2]
  · have e1 : ¬ (m.rc k).death < 0 := by omega
    have e2 : ¬ m.gen < (m.rc k).death := by omega
    simp [h1.2, e1, e2]

noncomputable def Mdl.setFirst (m : Mdl) (f v : Int) : Mdl := m.setP f { m.pr f with first := v }
noncomputable def Mdl.setLast (m : Mdl) (f v : Int) : Mdl := m.setP f { m.pr f with last := v }
noncomputable def Mdl.setNext (m : Mdl) (k v : Int) : Mdl := m.setR k { m.rc k with next := v }
/-- a new clause at the end -/
noncomputable def Mdl.app (m : Mdl) (f : Int) (t i : AV) : Mdl :=
  if (m.pr f).first < 0 then ((m.new (m.pr f).fn t i).setFirst f m.nxt).setLast f m.nxt else ((m.new (m.pr f).fn t i).setNext (m.pr f).last m.nxt).setLast f m.nxt
/-- a new clause at the front -/
noncomputable def Mdl.preEnd (m : Mdl) (f k : Int) : Mdl := (m.setNext k (m.pr f).first).setFirst f k
noncomputable def Mdl.pre (m : Mdl) (f : Int) (t i : AV) : Mdl :=
  if (m.pr f).first < 0 then ((m.new (m.pr f).fn t i).setLast f m.nxt).preEnd f m.nxt else (m.new (m.pr f).fn t i).preEnd f m.nxt
theorem Good.fresh {m : Mdl} {ch : Int → List Int} (g : Good m ch) : m.nxt ∉ m.keys := fun h => by have := g.rng _ h; omega
theorem getLastD_mem {c : List Int} (h : c ≠ []) (d : Int) : c.getLastD d ∈ c := by
  rw [List.getLastD_eq_getLast?, List.getLast?_eq_some_getLast h]
  exact List.getLast_mem h
theorem split_last {c : List Int} (h : c ≠ []) (d : Int) : ∃ c', c = c' ++ [c.getLastD d] := by
  refine ⟨c.dropLast, ?_⟩
  rw [List.getLastD_eq_getLast?, List.getLast?_eq_some_getLast h]
  exact (List.dropLast_concat_getLast h).symm
end Mine

open PySem PySem.W PyProof.Rows PySem.Calls PySem.MeetsSeq PySem.MeetsSeq2 PySem.MeetsSeq3
set_option Elab.async false
set_option maxRecDepth 100000
set_option linter.unusedVariables false
namespace Mine
section
variable {C : FC} {ρ : Loc} {φ : AH} {n : Nat} {Q : AV → AH → Prop}
theorem x_assign_comp {elt iter : Expr} {x yt : Str} {px py spos : Pos} {rest : List Stmt} {R : AF → Loc → AH → Prop} {ifs : List Expr} {scope : Scope} {pos : Pos} {cl : List (Str × Addr)} (p : AV → Bool) (f : AV → AV) (ρ₀ : Loc)
    (hclos : closureFor scope C.env = pure cl) (hcl : ∀ y c, cl.lookup y = some c → C.cl.lookup y = some c)
    (hρ : ∀ y v c, cl.lookup y = some c → ρ.lookup y = some v → ρ₀.lookup y = some v)
    (hρ' : ∀ y v, ρ₀.lookup y = some v → ρ.lookup y = some v ∧ ∃ c, cl.lookup y = some c)
    (h : EV C (eval iter C.env) ρ φ fun a φ₁ => ∃ l items, a = .ref l ∧ φ₁ l = some (.list items) ∧ items.length ≤ 1000000 ∧
      (∀ Ca D out, φ₁ D = none → Gd (compFC C scope cl Ca) n → ∀ v ∈ items, ∀ ρ', Sub ρ₀ ρ' →
        Tests (compFC C scope cl Ca) ifs ((x, v) :: ρ') (upd φ₁ D (.list out)) (fun b φ' => φ' = upd φ₁ D (.list out) ∧ b = p v) ∧
        (p v = true → EV (compFC C scope cl Ca) (eval elt (compFC C scope cl Ca).env) ((x, v) :: ρ') (upd φ₁ D (.list out)) fun y φ'' => φ'' = upd φ₁ D (.list out) ∧ y = f v)) ∧
      (∀ D, φ₁ D = none → XS C (execs rest C.env) ((yt, .ref D) :: ρ) (upd φ₁ D (.list ((items.filter p).map f))) R))
    (G : Gd C n := by assumption) (hcell : ∀ y ∈ scope.names, y.2 ≠ .cell := by decide) (hkind : scope.kind = .function := by with_unfolding_all rfl)
    (hnames : ∀ y ∈ scope.names, y.2 = .local → scope.names.lookup y.1 = some .local := by decide) (hx : scope.names.lookup x = some .local := by with_unfolding_all rfl) (hxc : cl.lookup x = none := by with_unfolding_all rfl) (hx0 : ρ₀.lookup x = none := by with_unfolding_all rfl)
    (hs : ∀ x, foldedSetIterable iter C.env x = pure x := by intro _; with_unfolding_all rfl) (hsw : swapsWith (.ListComp elt [⟨.Name x px, iter, ifs, 0⟩] scope pos) (some (.Name yt py)) spos.line C.env = pure true := by with_unfolding_all rfl) (hy : C.env.kindOf yt = some .local := by with_unfolding_all rfl) (hyc : C.cl.lookup yt = none := by with_unfolding_all rfl) : XS C (execs (.Assign [.Name yt py] (.ListComp elt [⟨.Name x px, iter, ifs, 0⟩] scope pos) spos :: rest) C.env) ρ φ R := by
  refine xs_cons fun fz s S => ?_
  rw [exec_Assign_Name_used _ _ _ _ hsw]
  refine wpAny_bind (wpAny_standAt (wpAny_bind ?_))
  show wpAny _ C.A (do let _ ← comprehension (.ListComp elt [⟨.Name x px, iter, ifs, 0⟩] scope pos) scope C.env _ (newList []) false (eval iter C.env) (some (assign (.Name yt py) C.env))) _ _ s
  refine wpAny_bind (wpAny_mono (wpAny_comprehension_free (use := some (assign (.Name yt py) C.env)) (Q := fun _ s' => ∃ D ρ' φ', ρ' = (yt, AV.ref D) :: ρ ∧ St C fz ρ' φ' s' ∧ XS C (execs rest C.env) ρ' φ' R) rfl hs hclos hkind hnames (wpAny_mono (h fz s S) (fun v s₁ => ?_) fun _ _ x => x)) (fun _ s' hq => by
    obtain ⟨D, ρ', φ', rfl, S', q⟩ := hq
    exact wpAny_pure (wpAny_pure ⟨.next, _, _, rfl, S', q⟩)) fun _ _ e => e)
  rintro ⟨a, φ₁, hr, ⟨⟨m, ψ, H⟩, g, o⟩, l, items, rfl, hl, hz, hpe, hq⟩
  cases hr
  obtain ⟨vs, k, c1, c2, c3⟩ := list_of H hl
  refine wpAny_pyIter_list c1.isList ?_
  generalize hh1 : s₁.heap.push { cls := .type "list_iterator", data := .fields #[.ref l, .int 0 0] } = h1
  refine wpAny_newObj_type (wpAny_newFunctionEnv hcell (by intro y hy; simp at hy) (fun h3 hns hsb => ?_) hkind)
  dsimp only at hns hsb ⊢
  generalize hh2 : h1.push { cls := .type "list", dict := none, data := .seq ([] : List Value).toArray } = h2 at hns hsb
  have z1 : h1.objs.size = s₁.heap.objs.size + 1 := by rw [← hh1, Heap.size_push]
  have z2 : h2.objs.size = h1.objs.size + 1 := by rw [← hh2, Heap.size_push]
  have k1 : ∀ b ob, s₁.heap.get? b = some ob → h1.get? b = some ob := fun b ob e => hh1 ▸ Heap.get?_push_of_some _ e
  have k2 : ∀ b ob, h1.get? b = some ob → h2.get? b = some ob := fun b ob e => hh2 ▸ Heap.get?_push_of_some _ e
  have k3 : ∀ b ob, h2.get? b = some ob → h3.get? b = some ob := fun b ob e => hsb.extBut b ob (Nat.ne_of_lt (Heap.lt_size e)) (Heap.get?_push_of_some _ e)
  have ei : h3.get? s₁.heap.objs.size = some { cls := .type "list_iterator", data := .fields #[.ref l, .int 0 0] } := k3 _ _ (k2 _ _ (hh1 ▸ Heap.get?_push_size _ rfl))
  have eD : h3.get? h1.objs.size = some { cls := .type "list", data := .seq #[] } := k3 _ _ (hh2 ▸ Heap.get?_push_size _ rfl)
  have n0 : ∀ b, s₁.heap.objs.size ≤ b → s₁.heap.get? b = none := fun b hb => old_none hb
  have lowL := H.low
  -- the heap part
  have K1 := H.ok.grow (h' := h1) k1
  have K2 : HOk C.W fz (upd φ₁ h1.objs.size (.list [])) ψ h3 := K1.new (o' := .list []) trivial (by omega) (old_none (Nat.le_refl _)) (fun b ob e => k3 _ _ (k2 _ _ e)) ⟨#[], 0, eD, .nil⟩
  have nD : φ₁ h1.objs.size = none := (H.ok.none_of (n0 _ (by omega))).1
  have nmine : ∀ b, s₁.heap.objs.size ≤ b → ¬ C.mine b := fun b hb q => by obtain ⟨ob, e⟩ := H.old q; rw [n0 b hb] at e; cases e
  have ncov : ∀ b, C.mine b → ¬ cov (upd φ₁ h1.objs.size (.list [])) ψ b := by
    rintro b hb (⟨y, e⟩ | ⟨c, K, fs, e, z⟩)
    · by_cases q : b = h1.objs.size
      · have t : s₁.heap.objs.size ≤ h1.objs.size := by omega
        exact nmine b (q ▸ t) hb
      · rw [upd_ne q] at e; exact (H.apart b hb).1 (.inl ⟨y, e⟩)
    · by_cases q : c = h1.objs.size
      · subst q; rw [upd_self] at e; cases e
      · rw [upd_ne q] at e; exact (H.apart b hb).1 (.inr ⟨c, K, fs, e, z⟩)
  have covlt : ∀ b, cov (upd φ₁ h1.objs.size (.list [])) ψ b → b = h1.objs.size ∨ b < s₁.heap.objs.size := by
    rintro b (⟨y, e⟩ | ⟨c, K, fs, e, z⟩)
    · by_cases q : b = h1.objs.size
      · exact .inl q
      · rw [upd_ne q] at e; obtain ⟨ob, e⟩ := H.ok.there (.inl ⟨y, e⟩); exact .inr (Heap.lt_size e)
    · by_cases q : c = h1.objs.size
      · subst q; rw [upd_self] at e; cases e
      · rw [upd_ne q] at e; obtain ⟨ob, e⟩ := H.ok.there (.inr ⟨c, K, fs, e, z⟩); exact .inr (Heap.lt_size e)
  -- the inner frame
  have G' : Gd (compFC C scope cl h2.objs.size) n := ⟨G.ok, G.room, by show (relabel scope C.env).kind = _; exact hkind, G.gl, G.bi,
    fun y c e => ⟨fun q => nmine h2.objs.size (by omega) (.inr ⟨y, by rw [← (show c = h2.objs.size from q)]; exact hcl y c e⟩), (G.clL y c (hcl y c e)).2⟩, fun y y' c e e' => G.cl1 y y' c (hcl y c e) (hcl y' c e')⟩
  classical
  let fz' : Addr → Option Obj := fun b => if (compFC C scope cl h2.objs.size).mine b then none else C.hold fz s₁.heap b
  have hold3 : ∀ b ob, C.hold fz s₁.heap b = some ob → h3.get? b = some ob ∧ ¬ cov (upd φ₁ h1.objs.size (.list [])) ψ b := fun b ob e => by
    unfold FC.hold at e
    split at e
    · rename_i hb; exact ⟨k3 _ _ (k2 _ _ (k1 _ _ e)), ncov b hb⟩
    · exact K2.frz b ob e
  have SC : StC (compFC C scope cl h2.objs.size) fz' ρ₀ (upd φ₁ h1.objs.size (.list [])) (fun x => List.lookup x []) ψ h3 := by
    refine ⟨⟨hns, K2.keep, by show C.W.g.objs.size ≤ h2.objs.size; omega⟩, K2.agree (fun b _ => rfl) K2.keep fun b ob e => ?_, fun b hb => ⟨?_, if_pos hb⟩, fun y v e q => ?_, fun y v c e q => ?_, fun y c q => ?_⟩
    · have e : (if (compFC C scope cl h2.objs.size).mine b then none else C.hold fz s₁.heap b) = some ob := e
      split at e
      · cases e
      · exact hold3 b ob e
    · rcases hb with rfl | ⟨y, hy⟩
      · intro q
        rcases covlt _ q with z | z
        · have z : h2.objs.size = h1.objs.size := z
          omega
        · have z : h2.objs.size < s₁.heap.objs.size := z
          omega
      · exact ncov b (.inr ⟨y, hcl y b hy⟩)
    · obtain ⟨_, c, hc⟩ := hρ' y v e
      rw [show (compFC C scope cl h2.objs.size).cl.lookup y = cl.lookup y from rfl, hc] at q; cases q
    · obtain ⟨e1, _⟩ := hρ' y v e
      obtain ⟨u, ⟨ob, a, d⟩, b⟩ := H.cel y v c e1 (hcl y c q)
      exact ⟨u, ⟨ob, k3 _ _ (k2 _ _ (k1 _ _ a)), d⟩, b⟩
    · obtain ⟨u, ⟨ob, a, d⟩⟩ := H.there y c (hcl y c q)
      exact ⟨u, ⟨ob, k3 _ _ (k2 _ _ (k1 _ _ a)), d⟩⟩
  have nit : ¬ cov (upd φ₁ h1.objs.size (.list [])) ψ s₁.heap.objs.size := fun q => by
    rcases covlt _ q with z | z
    · have z : s₁.heap.objs.size = h1.objs.size := z
      omega
    · exact absurd z (Nat.lt_irrefl _)
  have nmi : ¬ (compFC C scope cl h2.objs.size).mine s₁.heap.objs.size := by
    rintro (q | ⟨y, q⟩)
    · have : s₁.heap.objs.size = h2.objs.size := q; omega
    · exact nmine _ (Nat.le_refl _) (.inr ⟨y, hcl y _ q⟩)
  have hfzi : fz' s₁.heap.objs.size = none := by
    show (if (compFC C scope cl h2.objs.size).mine s₁.heap.objs.size then none else C.hold fz s₁.heap s₁.heap.objs.size) = none
    rw [if_neg nmi]
    cases q : C.hold fz s₁.heap s₁.heap.objs.size with
    | none => rfl
    | some ob =>
      unfold FC.hold at q
      rw [if_neg (nmine _ (Nat.le_refl _))] at q
      have := (H.ok.frz _ _ q).1
      rw [n0 _ (Nat.le_refl _)] at this; cases this
  have loop : ∀ s₃ : Shared, s₃ = ⟨h3, s₁.gens, s₁.drawn, s₁.toks + ([] : List (Str × Value)).length, s₁.os⟩ →
      codeAny C.M C.A (.compLoop (.ListComp elt [⟨.Name x px, iter, ifs, 0⟩] scope pos) 0 (.ref s₁.heap.objs.size) (.ref h1.objs.size) (compEnvC scope cl h2.objs.size C.env))
        (compPost C.M C.A NoE (some (assign (.Name yt py) C.env)) (fun _ s' => ∃ D ρ' φ', ρ' = (yt, AV.ref D) :: ρ ∧ St C fz ρ' φ' s' ∧ XS C (execs rest C.env) ρ' φ' R) (.ref h1.objs.size) h2.objs.size) s₃ := by
    rintro s₃ rfl
    have hlup : ∀ out, upd φ₁ h1.objs.size (.list out) l = some (.list items) := fun out => by
      rw [upd_ne]
      · exact hl
      · intro z; rw [z, nD] at hl; cases hl
    have W := comp_loop (C := compFC C scope cl h2.objs.size) (n := n) (elt := elt) (iter := iter) (px := px) (pos := pos) (scope := scope) (ifs := ifs) (D := h1.objs.size) (φ₁ := φ₁) (ρ₀ := ρ₀) (x := x) (it := s₁.heap.objs.size) (l := l) (items := items) p f G' lowL (lookup_relabel_local hx) hxc hz hlup
      (fun v hv out ρ' hsub => (hpe h2.objs.size h1.objs.size out nD G' v hv ρ' hsub).1) (fun v hv hpv out ρ' hsub => (hpe h2.objs.size h1.objs.size out nD G' v hv ρ' hsub).2 hpv) hx0
      (fz := fz') (s := ⟨h3, s₁.gens, s₁.drawn, s₁.toks + ([] : List (Str × Value)).length, s₁.os⟩) (i := 0) (out := []) (ρ' := ρ₀) ⟨rfl, rfl⟩ ⟨⟨_, ψ, SC.freeze ei nit nmi⟩, g, o⟩ (Sub.refl _) rfl (Nat.zero_le _) hfzi
    refine codeAny_mono W fun r s' z => ?_
    obtain ⟨rfl, ρ', hsub, ⟨m', ψ', H'⟩, g', o'⟩ := z
    have back : ∀ h', Heap.SameBut h2.objs.size s'.heap h' → StC C fz ρ (upd φ₁ h1.objs.size (.list ((items.filter p).map f))) m ψ' h' := by
      intro h' hsb'
      have hCa : ¬ cov (upd φ₁ h1.objs.size (.list ((items.filter p).map f))) ψ' h2.objs.size ∧ fz' h2.objs.size = none := H'.apart _ (.inl rfl)
      have K' : HOk C.W fz' (upd φ₁ h1.objs.size (.list ((items.filter p).map f))) ψ' h' := H'.ok.agree (fun b c => hsb'.2 b fun z => hCa.1 ((show b = h2.objs.size from z) ▸ c))
        (fun b ob e => (hsb'.2 b fun z => by
          have t : h2.objs.size < C.W.g.objs.size := (show b = h2.objs.size from z) ▸ Heap.lt_size e
          have u : C.W.g.objs.size ≤ s₁.heap.objs.size := lowL
          omega).trans (H'.fr.keep b ob e))
        fun b ob e => ⟨(hsb'.2 b fun z => by rw [show b = h2.objs.size from z, hCa.2] at e; cases e).trans (H'.ok.frz b ob e).1, (H'.ok.frz b ob e).2⟩
      have keepCell : ∀ y c ov, cl.lookup y = some c → s'.heap.IsCell c ov → h'.IsCell c ov := fun y c ov hy hc => hc.sameBut hsb' (G'.clL y c hy).1
      refine H.back (ρ₀ := ρ₀) (cl := cl) K' (fun b hb ob e => ?_) hcl (fun y c hy => (H'.apart c (.inr ⟨y, hy⟩)).1) (fun y v c e q => ?_) (fun y c q => ?_) hρ G.cl1 (fun y c e => (G.clL y c e).1)
      · show (if (compFC C scope cl h2.objs.size).mine b then none else C.hold fz s₁.heap b) = some ob
        rw [if_neg, e]
        rintro (q | ⟨y, q⟩)
        · have q : b = h2.objs.size := q
          unfold FC.hold at e
          rw [q, if_neg (nmine _ (by omega))] at e
          have := (H.ok.frz _ _ e).1
          rw [n0 _ (by omega)] at this; cases this
        · exact hb y q
      · obtain ⟨u, hu, hi⟩ := H'.cel y v c (hsub y v e) q
        exact ⟨u, keepCell y c _ q hu, hi⟩
      · obtain ⟨ov, hu⟩ := H'.there y c q
        exact ⟨ov, keepCell y c _ q hu⟩
    have S0 : St C fz ρ (upd φ₁ h1.objs.size (.list ((items.filter p).map f))) s' := ⟨⟨m, ψ', back _ ⟨rfl, fun _ _ => rfl⟩⟩, g', o'⟩
    obtain ⟨oC, esC, epC, eC, rC⟩ := H'.fr.ns
    have nmC : ¬ C.mine h2.objs.size := nmine _ (by omega)
    have fzC : fz h2.objs.size = none := by
      cases q : fz h2.objs.size with
      | none => rfl
      | some ob => have := (H.ok.frz _ _ q).1; rw [n0 _ (by omega)] at this; cases this
    have H0 := (back s'.heap ⟨rfl, fun _ _ => rfl⟩).freeze eC (H'.apart _ (.inl rfl)).1 nmC
    show wpAny _ C.A (assign (.Name yt py) C.env (.ref h1.objs.size)) _ _ s'
    refine PyProof.Rows.assign_Name (wpAny_mono (xu_local (C := C) (P := fun ρ' φ' => ρ' = (yt, AV.ref h1.objs.size) :: ρ ∧ φ' = upd φ₁ h1.objs.size (.list ((items.filter p).map f))) (a := .ref h1.objs.size) rfl ⟨rfl, rfl⟩ G hy hyc _ s' ⟨⟨m, ψ', H0⟩, g', o'⟩) (fun _ s'' => ?_) fun _ _ x => x.elim)
    rintro ⟨_, _, ⟨⟨m2, ψ2, H2⟩, g2, o2⟩, rfl, rfl⟩
    refine ⟨m', ⟨oC, esC, epC, H2.frozen.1, rC⟩, fun h' hsb' => ⟨_, _, _, rfl, ⟨⟨m2, ψ2, H2.thaw fzC (Nat.le_trans lowL (by show s₁.heap.objs.size ≤ h2.objs.size; omega)) hsb'.extBut⟩, g2, o2⟩, hq _ nD⟩⟩
  exact codeAny_compStart_list (loop _ rfl) (wpAny_pyIter_listiter ⟨_, ei, rfl, rfl⟩ (loop _ rfl))
end
end Mine

open PySem PySem.W PyProof.Rows PySem.Calls PySem.MeetsSeq PySem.MeetsSeq2 PySem.MeetsSeq3
set_option Elab.async false
set_option maxRecDepth 100000
set_option linter.unusedVariables false
namespace Mine
open PySem.SeqAt

/-- what a tuple of the law's own holds -/
inductive PK where
  | s (x : Str) | i (n : Int)
deriving DecidableEq
noncomputable def PK.av : PK → AV
  | .s x => .str x
  | .i n => .int n
def TupAt (g : Heap) (φ : AH) (a : Addr) (ks : List PK) : Prop := φ a = some (.tup (ks.map PK.av)) ∨ ∃ vs, g.IsTuple a vs ∧ AreV (ks.map PK.av) vs.toList

section
variable {C : FC} {ρ : Loc} {φ : AH} {n : Nat} {Q : AV → AH → Prop} {P : Loc → AH → Prop} {R : AF → Loc → AH → Prop}
theorem bin_fdiv {a b : Int} (hb : b ≠ 0) (hz : b.natAbs < 1073741824) (q : Q (.int (a.fdiv b)) φ) : Bin C ρ .FloorDiv (.int a) (.int b) φ Q := by
  rintro _ _ ⟨t, rfl⟩ ⟨u, rfl⟩; exact WPx.of fun fz s m ψ H g o => floordiv_int hb ⟨.int _, φ, ⟨_, rfl⟩, St.mk' H g o, q⟩ (Or.inl (PyProof.noPylong_small hz))
theorem tup_of {fz m ψ h} (H : StC C fz ρ φ m ψ h) {a : Addr} {ks : List PK} (e : TupAt C.W.g φ a ks) : ∃ vs, h.IsTuple a vs ∧ AreV (ks.map PK.av) vs.toList := by
  rcases e with e | ⟨vs, ⟨o, ho, r⟩, k⟩
  · obtain ⟨vs, j, c1, c2⟩ := H.ok.heap _ _ e
    exact ⟨vs, ⟨_, c1, rfl, j, rfl⟩, c2⟩
  · exact ⟨vs, ⟨o, H.fr.keep _ _ ho, r⟩, k⟩
theorem eqAt_str_int {A : Around} {s : Shared} (x : Str) (t : Tok) (i : Int) (u : Tok) : EqAt A s (.str x t) (.int i u) false := by
  first
    | exact EqAt.str_int x t i u
    | exact EqAt.str_int ..
theorem eqAt_int_str {A : Around} {s : Shared} (x : Str) (t : Tok) (i : Int) (u : Tok) : EqAt A s (.int i u) (.str x t) false := by
  first
    | exact EqAt.int_str i u x t
    | exact EqAt.int_str ..
theorem pk_eqAt {A : Around} {s : Shared} {k j : PK} {v u : Value} (hk : k.av.is v) (hj : j.av.is u) : EqAt A s v u (decide (k = j)) := by
  cases k with
  | s x =>
    obtain ⟨t, rfl⟩ := hk
    cases j with
    | s y =>
      obtain ⟨t', rfl⟩ := hj
      have : decide (PK.s x = PK.s y) = (x == y) := by
        by_cases z : x = y <;> simp [z]
      rw [this]; exact (eqGives_str x y t t').at A s
    | i y =>
      obtain ⟨t', rfl⟩ := hj
      have : decide (PK.s x = PK.i y) = false := by simp
      rw [this]; exact eqAt_str_int x t y t'
  | i x =>
    obtain ⟨t, rfl⟩ := hk
    cases j with
    | s y =>
      obtain ⟨t', rfl⟩ := hj
      have : decide (PK.i x = PK.s y) = false := by simp
      rw [this]; exact eqAt_int_str y t' x t
    | i y =>
      obtain ⟨t', rfl⟩ := hj
      have : decide (PK.i x = PK.i y) = (x == y) := by
        by_cases z : x = y <;> simp [z]
      rw [this]; exact EqAt.int_int x t y t'
theorem pk_all (ks js : List PK) : ((List.range (min ks.length js.length)).all (fun j => decide (ks[j]? = js[j]?)) && ks.length == js.length) = decide (ks = js) := by
  rw [Bool.eq_iff_iff, decide_eq_true_iff, Bool.and_eq_true, List.all_eq_true, beq_iff_eq]
  constructor
  · rintro ⟨h1, h2⟩
    refine List.ext_getElem? fun i => ?_
    by_cases z : i < ks.length
    · exact of_decide_eq_true (h1 i (List.mem_range.mpr (by omega)))
    · rw [List.getElem?_eq_none (by omega), List.getElem?_eq_none (by omega)]
  · rintro rfl
    exact ⟨fun i _ => by simp, rfl⟩
theorem rc_tup {A : Around} {s : Shared} {a b : Addr} {ks js : List PK} {vs us : Array Value} (hl : s.heap.IsTuple a vs) (hk : AreV (ks.map PK.av) vs.toList) (hb : s.heap.IsTuple b us) (hj : AreV (js.map PK.av) us.toList) (hu : A.units < cLine) : RcAt A s (.ref a) (.ref b) (decide (ks = js)) := by
  have e1 : vs.size = ks.length := by have := hk.length; simpa using this.symm
  have e2 : us.size = js.length := by have := hj.length; simpa using this.symm
  have := RcAt.tuples (e := fun j => decide (ks[j]? = js[j]?)) hl hb hu fun j h1 h2 => ?_
  · rw [e1, e2, pk_all] at this; exact this
  · have k1 : ks[j]? = some ks[j] := List.getElem?_eq_getElem (by omega)
    have k2 : js[j]? = some js[j] := List.getElem?_eq_getElem (by omega)
    obtain ⟨v, hv, iv⟩ := hk.get (i := j) (a := ks[j].av) (by rw [List.getElem?_map, k1]; rfl)
    obtain ⟨u, hu, iu⟩ := hj.get (i := j) (a := js[j].av) (by rw [List.getElem?_map, k2]; rfl)
    rw [Array.getElem?_toList, Array.getElem?_eq_getElem h1] at hv
    rw [Array.getElem?_toList, Array.getElem?_eq_getElem h2] at hu
    cases hv
    cases hu
    have := pk_eqAt (A := A.in1) (s := s) iv iu
    show EqAt _ _ _ _ (decide (ks[j]? = js[j]?))
    rw [k1, k2]
    have q : decide (some ks[j] = some js[j]) = decide (ks[j] = js[j]) := by
      by_cases z : ks[j] = js[j] <;> simp [z]
    rw [q]; exact this
theorem in1_units (A : Around) (h : A.units + 200 < cLine) : A.in1.units < cLine := by
  have : A.in1.units ≤ A.units + 100 := by
    first
      | exact Nat.le_add_right _ _
      | (show A.units + _ ≤ _; omega)
  omega
theorem cmp_eqT {a b : Addr} {ks js : List PK} (e : TupAt C.W.g φ a ks) (e' : TupAt C.W.g φ b js) (q : Q (.bool (decide (ks = js))) φ) (G : Gd C n := by assumption) : Cmp C ρ .Eq (.ref a) (.ref b) φ Q := by
  rintro _ _ rfl rfl
  refine WPx.of fun fz s m ψ H g o => ?_
  obtain ⟨vs, c1, c2⟩ := tup_of H e
  obtain ⟨us, d1, d2⟩ := tup_of H e'
  exact rc_tup c1 c2 d1 d2 (by have := G.room.u; omega) _ _ _ _ ⟨.bool _, φ, rfl, St.mk' H g o, q⟩
theorem cmp_inT {v t a b : Addr} {tk : Addr → List PK} (et : φ t = some (.tup [.ref a, .ref b])) (e : TupAt C.W.g φ v (tk v)) (e1 : TupAt C.W.g φ a (tk a)) (e2 : TupAt C.W.g φ b (tk b)) (q : Q (.bool (decide (tk a = tk v) || decide (tk b = tk v))) φ) (G : Gd C n := by assumption) : Cmp C ρ .In (.ref v) (.ref t) φ Q := by
  rintro _ _ rfl rfl
  refine WPx.of fun fz s m ψ H g o => ?_
  obtain ⟨us, j, d1, d2⟩ := H.ok.heap _ _ et
  obtain ⟨vs, c1, c2⟩ := tup_of H e
  obtain ⟨⟨us⟩, hus⟩ : ∃ us', us' = us := ⟨us, rfl⟩
  subst hus
  cases d2 with
  | cons h1 d2 => cases d2 with
    | cons h2 d2 => cases d2 with
      | nil =>
        cases h1
        cases h2
        refine in_tupleAt (fun y => match y with | .ref x => decide (tk x = tk v) | _ => false) ⟨_, d1, rfl, j, rfl⟩ (fun y hy => ?_) ⟨.bool _, φ, rfl, St.mk' H g o, ?_⟩
        · have key : ∀ x, TupAt C.W.g φ x (tk x) → EqAt C.A.in1 s (.ref x) (.ref v) (decide (tk x = tk v)) := fun x hx => by
            by_cases z : x = v
            · subst z; rw [decide_eq_true rfl]; exact EqAt.same _
            · obtain ⟨ws, w1, w2⟩ := tup_of H hx
              exact EqAt.of_refs z (rc_tup w1 w2 c1 c2 (in1_units _ (by have := G.room.u; omega)))
          simp only [List.mem_toArray, List.mem_cons, List.not_mem_nil, or_false] at hy
          rcases hy with rfl | rfl
          · exact key _ e1
          · exact key _ e2
        · simpa using q
theorem cmp_inL {a : Addr} {l : List Int} {x : Int} (e : φ a = some (.list (l.map .int))) (q : Q (.bool (decide (x ∈ l))) φ) (G : Gd C n := by assumption) : Cmp C ρ .In (.int x) (.ref a) φ Q := by
  rintro _ _ ⟨t, rfl⟩ rfl
  refine WPx.of fun fz s m ψ H g o => ?_
  obtain ⟨vs, k, c1, c2, c3⟩ := list_of H e
  refine in_listAt (fun y => match y with | .int j _ => j == x | _ => false) c1.isList (fun y hy => ?_) ⟨.bool _, φ, rfl, St.mk' H g o, ?_⟩
  · obtain ⟨i, hi⟩ := List.mem_iff_getElem?.mp (Array.mem_toList_iff.mpr hy)
    obtain ⟨z, hz, hzy⟩ := c2.get' hi
    rw [List.getElem?_map, Option.map_eq_some_iff] at hz
    obtain ⟨j, _, rfl⟩ := hz
    obtain ⟨u, rfl⟩ := hzy
    exact EqAt.int_int j u x t
  · have : (vs.any fun y => match y with | .int j _ => j == x | _ => false) = decide (x ∈ l) := by
      obtain ⟨us⟩ := vs
      rw [List.any_toArray]
      have c4 : AreV (l.map .int) us := c2
      clear c1 c3 q e c2
      induction l generalizing us with
      | nil => cases c4; rfl
      | cons y l ih =>
        cases c4 with
        | cons hy r =>
          obtain ⟨u, rfl⟩ := hy
          rw [List.any_cons, ih _ r]
          by_cases z : x = y
          · subst z; simp
          · have z' : ¬ y = x := fun q => z q.symm
            simp [z, z']
    rw [this]; exact q
theorem cmp_neNil {a b : Addr} {l : List AV} (e : φ a = some (.list l)) (e' : φ b = some (.list [])) (q : Q (.bool (!l.isEmpty)) φ) (G : Gd C n := by assumption) : Cmp C ρ .NotEq (.ref a) (.ref b) φ Q := by
  rintro _ _ rfl rfl
  refine WPx.of fun fz s m ψ H g o => ?_
  obtain ⟨vs, k, c1, c2, c3⟩ := list_of H e
  obtain ⟨us, j, d1, d2, d3⟩ := list_of H e'
  have hu : C.A.units < cLine := by have := G.room.u; omega
  have hus : us.size = 0 := d3
  cases l with
  | nil =>
    have hvs : vs.size = 0 := c3
    have := RcNeAt.lists (A := C.A) (s := s) (e := fun _ => true) c1.isList d1.isList (by omega) hu (fun i h1 _ => by omega)
    rw [hvs] at this
    exact this _ _ _ _ ⟨.bool _, φ, rfl, St.mk' H g o, q⟩
  | cons x l =>
    have hvs : vs.size = l.length + 1 := c3
    exact RcNeAt.lists_lengths (A := C.A) (s := s) c1.isList d1.isList (by rw [hvs, hus]; simp) hu _ _ _ _ ⟨.bool _, φ, rfl, St.mk' H g o, q⟩
theorem mth_pop {pos : Pos} {a : Addr} {l : List AV} (e : φ a = some (.list l)) (h : Cal C ρ (.raw (.builtin "list.pop")) [.ref a] φ Q) : Mth C ρ pos (.ref a) "pop" [] φ Q :=
  mth_builtin0 (by unfold Plain; rw [e]) PySem.F.plainAttrs_list PySem.F.slot_list_pop rfl h
theorem mth_reverse {pos : Pos} {a : Addr} {l : List AV} (e : φ a = some (.list l)) (h : Cal C ρ (.raw (.builtin "list.reverse")) [.ref a] φ Q) : Mth C ρ pos (.ref a) "reverse" [] φ Q :=
  mth_builtin0 (by unfold Plain; rw [e]) PySem.F.plainAttrs_list PySem.F.slot_list_reverse rfl h
theorem x_assign_cell {x : Str} {pos' pos : Pos} {value : Expr} {rest : List Stmt} {c : Addr} (hc : C.cl.lookup x = some c) (h : EV C (eval value C.env) ρ φ fun a φ₁ => XS C (execs rest C.env) ((x, a) :: ρ) φ₁ R) (G : Gd C n := by assumption)
    (hs : swapsWith value (some (.Name x pos')) pos.line C.env = pure false := by with_unfolding_all rfl) (hx : C.env.kindOf x = some .cell := by with_unfolding_all rfl) : XS C (execs (.Assign [.Name x pos'] value pos :: rest) C.env) ρ φ R := by
  refine xs_cons fun fz s S => wpAny_Assign_Name (wpAny_mono (h fz s S) (fun v s' => ?_) fun _ _ x => x) hs
  rintro ⟨a, φ', hr, S', q⟩
  refine wpAny_mono (xu_cell (P := fun ρ' φ'' => ρ' = (x, a) :: ρ ∧ φ'' = φ') hr hc ⟨rfl, rfl⟩ G hx fz s' S') (fun _ s'' => ?_) fun _ _ x => x
  rintro ⟨_, _, S'', rfl, rfl⟩
  exact ⟨.next, _, _, rfl, S'', q⟩
end
end Mine

open PySem PySem.W PyProof.Rows PySem.Calls PySem.MeetsSeq PySem.MeetsSeq2 PySem.MeetsSeq3
set_option Elab.async false
set_option maxRecDepth 100000
set_option linter.unusedVariables false
namespace Mine

noncomputable abbrev REC : Addr := 46
noncomputable abbrev PRO : Addr := 74
noncomputable abbrev STO : Addr := 165

def FldsOk (K : Frag) (D : Addr) : List Str → Prop
  | [] => True
  | x :: r => FldOk K D x ∧ FldsOk K D r
theorem FldsOk.at {K : Frag} {D : Addr} : ∀ {l : List Str} {x : Str} (i : Nat), FldsOk K D l → l[i]? = some x → FldOk K D x
  | [], x, i, h, e => by cases e
  | y :: l, x, 0, h, e => by cases e; exact h.1
  | y :: l, x, i + 1, h, e => FldsOk.at i h.2 (by simpa using e)
structure MthOk (K : Frag) (D : Addr) (x : Str) (f : Addr) : Prop where
  fi : findIn K (.ref D) x = some (some (.ref f))
  ht : isFn K (.ref f) = true
  hk : keepIn K (.ref f) = true
structure GlbOk (K : Frag) (x : Str) (f : Addr) : Prop where
  ns : nsIn K mainGlobals x = some (some (.ref f))
  hk : keepIn K (.ref f) = true
structure BltOk (K : Frag) (x : Str) (v : Value) : Prop where
  ns : nsIn K mainGlobals x = some none
  bo : bootBuiltins x = some v
  nn : x ≠ "__name__"

structure NsOk (K : Frag) (x : Str) (f : Addr) : Prop where
  ns : nsIn K mainGlobals x = some (some (.ref f))
/-- VAR_KEY's own tuple -/
abbrev VKA : Addr := 22
structure Facts (K : Frag) : Prop where
  cR : ClsOk K REC
  cP : ClsOk K PRO
  cS : ClsOk K STO
  fR : FldsOk K REC ["key", "functor", "term", "index_key", "birth", "death", "next_key", "entry"]
  fP : FldsOk K PRO ["functor", "kind", "entry", "codes", "terms", "first_key", "last_key", "library", "helper", "pending"]
  fS : FldsOk K STO ["records", "next_record", "generation"]
  kR : MkOk K REC 43
  kP : MkOk K PRO 64
  kS : MkOk K STO 92
  mNew : MthOk K STO "new_record" 99
  mApp : MthOk K STO "append_record" 106
  mPre : MthOk K STO "prepend_record" 113
  mVis : MthOk K STO "visible" 120
  mLiv : MthOk K STO "live_from" 127
  mFir : MthOk K STO "first_live" 134
  mNxt : MthOk K STO "next_live" 141
  mCha : MthOk K STO "chain" 148
  mEra : MthOk K STO "erase" 155
  mKil : MthOk K STO "kill_all" 162
  gRec : GlbOk K "ClauseRecord" REC
  gPro : GlbOk K "Procedure" PRO
  gSto : GlbOk K "ClauseStore" STO
  gSwe : GlbOk K "sweep" 176
  gSnd : GlbOk K "record_is_sound" 183
  gChk : GlbOk K "check_records" 190
  gMat : GlbOk K "matching" 29
  gVar : NsOk K "VAR_KEY" VKA
  gDig : GlbOk K "_law_digits" 197
  gCho : GlbOk K "_law_choose" 204
  gSho : GlbOk K "_law_shown" 209
  gWal : GlbOk K "_law_walk" 216
  gLoo : GlbOk K "_law_looks_right" 221
  bLen : BltOk K "len" (.builtin "len")
  bAbs : BltOk K "abs" (.builtin "abs")
  bRan : BltOk K "range" (.type "range")
  var : ∃ d n sl t, K.lookup VKA = some ⟨.type "tuple", d, .seq #[.str "var" t] n, sl⟩
  iRec : FnAt K 43 "ClauseRecord.__init__" (m1 5 0)
  iPro : FnAt K 64 "Procedure.__init__" (m1 6 0)
  iSto : FnAt K 92 "ClauseStore.__init__" (m1 7 0)
  aNew : FnAt K 99 "ClauseStore.new_record" (m1 7 1)
  aApp : FnAt K 106 "ClauseStore.append_record" (m1 7 2)
  aPre : FnAt K 113 "ClauseStore.prepend_record" (m1 7 3)
  aVis : FnAt K 120 "ClauseStore.visible" (m1 7 4)
  aLiv : FnAt K 127 "ClauseStore.live_from" (m1 7 5)
  aFir : FnAt K 134 "ClauseStore.first_live" (m1 7 6)
  aNxt : FnAt K 141 "ClauseStore.next_live" (m1 7 7)
  aCha : FnAt K 148 "ClauseStore.chain" (m1 7 8)
  aEra : FnAt K 155 "ClauseStore.erase" (m1 7 9)
  aKil : FnAt K 162 "ClauseStore.kill_all" (m1 7 10)
  aSwe : FnAt K 176 "sweep" (st1 8)
  aSnd : FnAt K 183 "record_is_sound" (st1 9)
  aChk : FnAt K 190 "check_records" (st1 10)
  aMat : FnAt K 29 "matching" (st1 3)
  aDig : FnAt K 197 "_law_digits" (st1 12)
  aCho : FnAt K 204 "_law_choose" (st1 13)
  aSho : FnAt K 209 "_law_shown" (st1 14)
  aWal : FnAt K 216 "_law_walk" (st1 15)
  aLoo : FnAt K 221 "_law_looks_right" (st1 16)
end Mine

open PySem PySem.W PyProof.Rows PySem.Calls PySem.MeetsSeq PySem.MeetsSeq2 PySem.MeetsSeq3
set_option Elab.async false
set_option maxRecDepth 100000
set_option linter.unusedVariables false
namespace Mine

noncomputable def recO (r : Rec) : AO := .inst REC [("key", .int r.key), ("functor", .int r.fn), ("term", r.term), ("index_key", r.ik), ("birth", .int r.birth), ("death", .int r.death), ("next_key", .int r.next), ("entry", .int 0)]
noncomputable def prcO (p : Prc) : AO := .inst PRO [("functor", .int p.fn), ("kind", .str p.kind), ("entry", .int (-1)), ("codes", p.codes), ("terms", p.terms), ("first_key", .int p.first), ("last_key", .int p.last), ("library", .bool false), ("helper", .bool false), ("pending", .bool false)]
noncomputable def stoO (R : Addr) (n g : Int) : AO := .inst STO [("records", .ref R), ("next_record", .int n), ("generation", .int g)]
structure Adr where
  S : Addr
  R : Addr
  P : Addr
  ra : Int → Addr
  pa : Int → Addr
noncomputable def refs (ks : List Int) (ra : Int → Addr) : List (Int × AV) := ks.map fun k => (k, .ref (ra k))
def Ext (φ φ' : AH) : Prop := ∀ b o, φ b = some o → φ' b = some o
theorem Ext.refl (φ : AH) : Ext φ φ := fun _ _ h => h
theorem Ext.trans {φ φ' φ'' : AH} (h : Ext φ φ') (k : Ext φ' φ'') : Ext φ φ'' := fun b o e => k b o (h b o e)
theorem Ext.new {φ : AH} {a : Addr} {o : AO} (h : φ a = none) : Ext φ (upd φ a o) := fun b o' e => by
  rw [upd_ne]
  · exact e
  · intro z; rw [z, h] at e; cases e
theorem Ext.put {φ₀ φ : AH} {a : Addr} {o : AO} (x : Ext φ₀ φ) (h : φ₀ a = none) : Ext φ₀ (upd φ a o) := fun b o' e => by
  rw [upd_ne]
  · exact x b o' e
  · intro z; rw [z, h] at e; cases e
theorem Ext.none {φ φ' : AH} (x : Ext φ φ') {a : Addr} (h : φ' a = none) : φ a = none := by
  cases z : φ a with
  | none => rfl
  | some o => rw [x _ _ z] at h; cases h
theorem upd_upd {φ : AH} {a : Addr} {o o' : AO} : upd (upd φ a o) a o' = upd φ a o' := by
  funext b; by_cases z : b = a <;> simp [upd, z]

structure Rep (φ₀ φ : AH) (a : Adr) (m : Mdl) : Prop where
  ext : Ext φ₀ φ
  sto : φ a.S = some (stoO a.R m.nxt m.gen)
  rdc : ∃ ep, φ a.R = some (.idict (refs m.keys a.ra) ep)
  pdc : ∃ ep, φ a.P = some (.idict (refs m.pks a.pa) ep)
  rec_ : ∀ k ∈ m.keys, φ (a.ra k) = some (recO (m.rc k))
  prc : ∀ f ∈ m.pks, φ (a.pa f) = some (prcO (m.pr f))
  nS : φ₀ a.S = none
  nR : φ₀ a.R = none
  nP : φ₀ a.P = none
  nrc : ∀ k ∈ m.keys, φ₀ (a.ra k) = none
  npr : ∀ f ∈ m.pks, φ₀ (a.pa f) = none
  hRP : a.R ≠ a.P
  rin : ∀ k ∈ m.keys, ∀ j ∈ m.keys, a.ra k = a.ra j → k = j
  pin : ∀ k ∈ m.pks, ∀ j ∈ m.pks, a.pa k = a.pa j → k = j
  sml : m.keys.length ≤ 1000

theorem dget_refs {ra : Int → Addr} {k : Int} : ∀ {ks : List Int}, k ∈ ks → dget k (refs ks ra) = some (.ref (ra k))
  | [], h => by cases h
  | j :: ks, h => by
    unfold dget refs
    rw [List.map_cons, List.find?_cons]
    by_cases z : j = k
    · subst z; simp
    · rw [decide_eq_false z]
      rcases List.mem_cons.mp h with rfl | h
      · exact absurd rfl z
      · exact dget_refs h
theorem dget_refs_none {ra : Int → Addr} {k : Int} : ∀ {ks : List Int}, k ∉ ks → dget k (refs ks ra) = none
  | [], _ => rfl
  | j :: ks, h => by
    have h1 : ¬ j = k := fun z => h (z ▸ List.mem_cons_self ..)
    unfold dget refs
    rw [List.map_cons, List.find?_cons, decide_eq_false h1]
    exact dget_refs_none fun z => h (List.mem_cons_of_mem _ z)
theorem any_refs {ra : Int → Addr} {k : Int} (ks : List Int) : ((refs ks ra).any fun p => decide (p.1 = k)) = decide (k ∈ ks) := by
  induction ks with
  | nil => rfl
  | cons j ks ih =>
    show (decide (j = k) || (refs ks ra).any fun p => decide (p.1 = k)) = _
    rw [ih]
    by_cases z : j = k
    · simp [z]
    · have : ¬ k = j := fun q => z q.symm
      simp [z, this]
theorem dset_refs {ra : Int → Addr} {k : Int} {x : Addr} {ks : List Int} (h : k ∉ ks) : dset k (.ref x) (refs ks ra) = refs (ks ++ [k]) (fset ra k x) := by
  unfold dset
  rw [any_refs, decide_eq_false h]
  simp only [Bool.false_eq_true, if_false]
  unfold refs
  rw [List.map_append]
  congr 1
  · refine List.map_congr_left fun j hj => ?_
    rw [fset_ne]
    intro z; exact h (z ▸ hj)
  · simp [fset_self]
theorem ddel_refs {ra : Int → Addr} {k : Int} (ks : List Int) : ddel k (refs ks ra) = refs (ks.filter fun j => decide (j ≠ k)) ra := by
  unfold ddel refs
  rw [List.filter_map]
  rfl
theorem refs_len (ks : List Int) (ra : Int → Addr) : (refs ks ra).length = ks.length := by unfold refs; simp
theorem refs_keys (ks : List Int) (ra : Int → Addr) : (refs ks ra).map (·.1) = ks := by unfold refs; simp [Function.comp_def]

section
variable {φ₀ φ φ' : AH} {a : Adr} {m : Mdl}
theorem Rep.keep (r : Rep φ₀ φ a m) (x : Ext φ φ') : Rep φ₀ φ' a m :=
  ⟨r.ext.trans x, x _ _ r.sto, let ⟨ep, e⟩ := r.rdc; ⟨ep, x _ _ e⟩, let ⟨ep, e⟩ := r.pdc; ⟨ep, x _ _ e⟩, fun k h => x _ _ (r.rec_ k h), fun f h => x _ _ (r.prc f h), r.nS, r.nR, r.nP, r.nrc, r.npr, r.hRP, r.rin, r.pin, r.sml⟩
theorem Rep.base (r : Rep φ₀ φ a m) {φ₁ : AH} (x : Ext φ₁ φ₀) : Rep φ₁ φ a m :=
  ⟨x.trans r.ext, r.sto, r.rdc, r.pdc, r.rec_, r.prc, x.none r.nS, x.none r.nR, x.none r.nP, fun k h => x.none (r.nrc k h), fun k h => x.none (r.npr k h), r.hRP, r.rin, r.pin, r.sml⟩
theorem Rep.setR (r : Rep φ₀ φ a m) {k : Int} (hk : k ∈ m.keys) (v : Rec) : Rep φ₀ (upd φ (a.ra k) (recO v)) a (m.setR k v) := by
  have e := r.rec_ k hk
  have ne : ∀ {b o}, φ b = some o → (∀ v, o ≠ recO v) → upd φ (a.ra k) (recO v) b = some o := fun {b o} h1 h2 => by
    rw [upd_ne]
    · exact h1
    · intro z; rw [z, e] at h1; cases h1; exact h2 _ rfl
  refine ⟨r.ext.put (r.nrc k hk), ne r.sto (fun v z => by cases z), let ⟨ep, e⟩ := r.rdc; ⟨ep, ne e (fun v z => by cases z)⟩, let ⟨ep, e⟩ := r.pdc; ⟨ep, ne e (fun v z => by cases z)⟩, fun j hj => ?_, fun f hf => ne (r.prc f hf) (fun v z => by unfold prcO recO at z; injection z with z1 z2; cases z1), r.nS, r.nR, r.nP, r.nrc, r.npr, r.hRP, r.rin, r.pin, r.sml⟩
  by_cases z : j = k
  · subst z; rw [upd_self]; show _ = some (recO (fset m.rc j v j)); rw [fset_self]
  · rw [upd_ne fun q => z (r.rin j hj k hk q), r.rec_ j hj]; show _ = some (recO (fset m.rc k v j)); rw [fset_ne z]
theorem Rep.setP (r : Rep φ₀ φ a m) {f : Int} (hf : f ∈ m.pks) (v : Prc) : Rep φ₀ (upd φ (a.pa f) (prcO v)) a (m.setP f v) := by
  have e := r.prc f hf
  have ne : ∀ {b o}, φ b = some o → (∀ v, o ≠ prcO v) → upd φ (a.pa f) (prcO v) b = some o := fun {b o} h1 h2 => by
    rw [upd_ne]
    · exact h1
    · intro z; rw [z, e] at h1; cases h1; exact h2 _ rfl
  refine ⟨r.ext.put (r.npr f hf), ne r.sto (fun v z => by cases z), let ⟨ep, e⟩ := r.rdc; ⟨ep, ne e (fun v z => by cases z)⟩, let ⟨ep, e⟩ := r.pdc; ⟨ep, ne e (fun v z => by cases z)⟩, fun j hj => ne (r.rec_ j hj) (fun v z => by unfold prcO recO at z; injection z with z1 z2; cases z1), fun j hj => ?_, r.nS, r.nR, r.nP, r.nrc, r.npr, r.hRP, r.rin, r.pin, r.sml⟩
  by_cases z : j = f
  · subst z; rw [upd_self]; show _ = some (prcO (fset m.pr j v j)); rw [fset_self]
  · rw [upd_ne fun q => z (r.pin j hj f hf q), r.prc j hj]; show _ = some (prcO (fset m.pr f v j)); rw [fset_ne z]
theorem Rep.setS (r : Rep φ₀ φ a m) (n g : Int) : Rep φ₀ (upd φ a.S (stoO a.R n g)) a { m with nxt := n, gen := g } := by
  have e := r.sto
  have ne : ∀ {b o}, φ b = some o → (∀ R n g, o ≠ stoO R n g) → upd φ a.S (stoO a.R n g) b = some o := fun {b o} h1 h2 => by
    rw [upd_ne]
    · exact h1
    · intro z; rw [z, e] at h1; cases h1; exact h2 _ _ _ rfl
  exact ⟨r.ext.put r.nS, upd_self .., let ⟨ep, e⟩ := r.rdc; ⟨ep, ne e (fun _ _ _ z => by cases z)⟩, let ⟨ep, e⟩ := r.pdc; ⟨ep, ne e (fun _ _ _ z => by cases z)⟩,
    fun j hj => ne (r.rec_ j hj) (fun _ _ _ z => by unfold stoO recO at z; injection z with z1 z2; cases z1), fun j hj => ne (r.prc j hj) (fun _ _ _ z => by unfold stoO prcO at z; injection z with z1 z2; cases z1), r.nS, r.nR, r.nP, r.nrc, r.npr, r.hRP, r.rin, r.pin, r.sml⟩
/-- a new record is entered into the dict -/
theorem Rep.addR (r : Rep φ₀ φ a m) {k : Int} {x : Addr} {v : Rec} (hk : k ∉ m.keys) (hx : φ x = some (recO v)) (h0 : φ₀ x = none) (hin : ∀ j ∈ m.keys, a.ra j ≠ x) (ep : Nat) (hz : m.keys.length < 1000) :
    Rep φ₀ (upd φ a.R (.idict (refs (m.keys ++ [k]) (fset a.ra k x)) ep)) { a with ra := fset a.ra k x } { m with keys := m.keys ++ [k], rc := fset m.rc k v } := by
  obtain ⟨ep₀, e⟩ := r.rdc
  have ne : ∀ {b o}, φ b = some o → (∀ l ep, o ≠ .idict l ep) → upd φ a.R (.idict (refs (m.keys ++ [k]) (fset a.ra k x)) ep) b = some o := fun {b o} h1 h2 => by
    rw [upd_ne]
    · exact h1
    · intro z; rw [z, e] at h1; cases h1; exact h2 _ _ rfl
  have key : ∀ j ∈ m.keys ++ [k], j ∈ m.keys ∧ j ≠ k ∨ j = k := fun j hj => by
    rcases List.mem_append.mp hj with h | h
    · exact .inl ⟨h, fun z => hk (z ▸ h)⟩
    · exact .inr (List.mem_singleton.mp h)
  refine ⟨r.ext.put r.nR, ne r.sto (fun _ _ z => by cases z), ⟨ep, upd_self ..⟩, let ⟨ep, e⟩ := r.pdc; ⟨ep, by rw [upd_ne (Ne.symm r.hRP)]; exact e⟩, fun j hj => ?_, fun f hf => ne (r.prc f hf) (fun _ _ z => by cases z), r.nS, r.nR, r.nP, fun j hj => ?_, r.npr, r.hRP, fun i hi j hj q => ?_, r.pin, by show (m.keys ++ [k]).length ≤ 1000; simp; omega⟩
  · show upd _ _ _ (fset a.ra k x j) = some (recO (fset m.rc k v j))
    rcases key j hj with ⟨h1, h2⟩ | rfl
    · rw [fset_ne h2, fset_ne h2]; exact ne (r.rec_ j h1) (fun _ _ z => by cases z)
    · rw [fset_self, fset_self]; exact ne hx (fun _ _ z => by cases z)
  · show φ₀ (fset a.ra k x j) = none
    rcases key j hj with ⟨h1, h2⟩ | rfl
    · rw [fset_ne h2]; exact r.nrc j h1
    · rw [fset_self]; exact h0
  · have q : fset a.ra k x i = fset a.ra k x j := q
    rcases key i hi with ⟨h1, h2⟩ | rfl <;> rcases key j hj with ⟨h3, h4⟩ | rfl
    · rw [fset_ne h2, fset_ne h4] at q; exact r.rin i h1 j h3 q
    · rw [fset_ne h2, fset_self] at q; exact absurd q (hin i h1)
    · rw [fset_ne h4, fset_self] at q; exact absurd q.symm (hin j h3)
    · rfl
end

theorem XS.cut {C : FC} {t : Sem Flow} {ρ : Loc} {φ : AH} {R : AF → Loc → AH → Prop} (T : AH → Prop) (h : T φ) (k : ∀ φ', T φ' → XS C t ρ φ' R) : XS C t ρ φ R := k φ h
def Halt (p : Prop) : Prop := p
theorem Halt.on {p : Prop} (h : p) : Halt p := h
theorem XS.cutH {C : FC} {t : Sem Flow} {ρ : Loc} {φ : AH} {R : AF → Loc → AH → Prop} (T : AH → Prop) (h : T φ) (k : ∀ φ', T φ' → XS C t ρ φ' R) : Halt (XS C t ρ φ R) := k φ h
theorem upd_skip {φ : AH} {a b : Addr} {o o' : AO} (h : b ≠ a) (t : φ b = some o') : upd φ a o b = some o' := by rw [upd_ne h]; exact t
theorem setF_nil {x : Str} {v : AV} : setF x v [] = [(x, v)] := rfl
theorem setF_hit {x : Str} {v w : AV} {r : List (Str × AV)} : setF x v ((x, w) :: r) = (x, v) :: r := by unfold setF; rw [if_pos (beq_self_eq_true x)]
theorem setF_miss {x y : Str} {v w : AV} {r r' : List (Str × AV)} (h : (y == x) = false) (t : setF x v r = r') : setF x v ((y, w) :: r) = (y, w) :: r' := by
  unfold setF
  rw [if_neg (by simp only [h]; exact Bool.false_ne_true), t]
theorem seta_halt {C : FC} {ρ : Loc} {φ : AH} {n : Nat} {a D : Addr} {fs fs' : List (Str × AV)} {x : Str} {v : AV} {P : AH → Prop} (e : φ a = some (.inst D fs)) (hs : setF x v fs = fs') (q : Halt (P (upd φ a (.inst D fs')))) (L : ClsOk C.W.K D) (F : FldOk C.W.K D x) (hz : fs.length ≤ 900) (G : Gd C n := by assumption) :
    SetA C ρ (.ref a) x v φ P := seta_own e (hs ▸ q) L F hz G
theorem XS.cutR {C : FC} {t : Sem Flow} {ρ : Loc} {φ₀ φ : AH} {a : Adr} {m : Mdl} {R : AF → Loc → AH → Prop} (h : Rep φ₀ φ a m) (k : ∀ φ', Rep φ₀ φ' a m → XS C t ρ φ' R) : Halt (XS C t ρ φ R) := k φ h
theorem Then.go {C : FC} {rest : List Stmt} {ρ : Loc} {φ : AH} {R : AF → Loc → AH → Prop} (h : XS C (execs rest C.env) ρ φ R) : Then C rest R .next ρ φ := h
theorem Then.ret {C : FC} {rest : List Stmt} {ρ : Loc} {φ : AH} {R : AF → Loc → AH → Prop} {v : AV} (h : R (.ret v) ρ φ) : Then C rest R (.ret v) ρ φ := h
theorem Then.brk {C : FC} {rest : List Stmt} {ρ : Loc} {φ : AH} {R : AF → Loc → AH → Prop} (h : R .brk ρ φ) : Then C rest R .brk ρ φ := h
theorem LoopK.ret {I : Nat → Loc → AH → Prop} {i : Nat} {ρ : Loc} {φ : AH} {R : AF → Loc → AH → Prop} {v : AV} (h : R (.ret v) ρ φ) : LoopK I i R (.ret v) ρ φ := h
theorem LoopK.brk {I : Nat → Loc → AH → Prop} {i : Nat} {ρ : Loc} {φ : AH} {R : AF → Loc → AH → Prop} (h : R .next ρ φ) : LoopK I i R .brk ρ φ := h
theorem WhileK.ret {J : Nat → Loc → AH → Prop} {i : Nat} {ρ : Loc} {φ : AH} {R : AF → Loc → AH → Prop} {v : AV} (h : R (.ret v) ρ φ) : WhileK J i R (.ret v) ρ φ := h
end Mine

set_option maxHeartbeats 1000000
namespace Mine
set_option compiler.extract_closed false
local macro_rules | `(tactic| walk_at "m cls") => `(tactic| first | exact (‹Facts _›).cR | exact (‹Facts _›).cP | exact (‹Facts _›).cS)
local macro_rules | `(tactic| walk_at "m fld") => `(tactic| first
  | exact (‹Facts _›).fR.at 0 rfl | exact (‹Facts _›).fR.at 1 rfl | exact (‹Facts _›).fR.at 2 rfl | exact (‹Facts _›).fR.at 3 rfl | exact (‹Facts _›).fR.at 4 rfl | exact (‹Facts _›).fR.at 5 rfl | exact (‹Facts _›).fR.at 6 rfl | exact (‹Facts _›).fR.at 7 rfl
  | exact (‹Facts _›).fP.at 0 rfl | exact (‹Facts _›).fP.at 1 rfl | exact (‹Facts _›).fP.at 2 rfl | exact (‹Facts _›).fP.at 3 rfl | exact (‹Facts _›).fP.at 4 rfl | exact (‹Facts _›).fP.at 5 rfl | exact (‹Facts _›).fP.at 6 rfl | exact (‹Facts _›).fP.at 7 rfl | exact (‹Facts _›).fP.at 8 rfl | exact (‹Facts _›).fP.at 9 rfl
  | exact (‹Facts _›).fS.at 0 rfl | exact (‹Facts _›).fS.at 1 rfl | exact (‹Facts _›).fS.at 2 rfl)
local macro_rules | `(tactic| walk_at "m glb") => `(tactic| first
  | exact (‹Facts _›).gRec.ns
  | exact (‹Facts _›).gPro.ns
  | exact (‹Facts _›).gSto.ns
  | exact (‹Facts _›).gSwe.ns
  | exact (‹Facts _›).gSnd.ns
  | exact (‹Facts _›).gChk.ns
  | exact (‹Facts _›).gMat.ns
  | exact (‹Facts _›).gVar.ns
  | exact (‹Facts _›).gDig.ns
  | exact (‹Facts _›).gCho.ns
  | exact (‹Facts _›).gSho.ns
  | exact (‹Facts _›).gWal.ns
  | exact (‹Facts _›).gLoo.ns)
local macro_rules | `(tactic| walk_at "m keep") => `(tactic| first
  | exact (‹Facts _›).gRec.hk
  | exact (‹Facts _›).gPro.hk
  | exact (‹Facts _›).gSto.hk
  | exact (‹Facts _›).gSwe.hk
  | exact (‹Facts _›).gSnd.hk
  | exact (‹Facts _›).gChk.hk
  | exact (‹Facts _›).gMat.hk
  | exact (‹Facts _›).gDig.hk
  | exact (‹Facts _›).gCho.hk
  | exact (‹Facts _›).gSho.hk
  | exact (‹Facts _›).gWal.hk
  | exact (‹Facts _›).gLoo.hk
  | exact (‹Facts _›).mNew.hk
  | exact (‹Facts _›).mApp.hk
  | exact (‹Facts _›).mPre.hk
  | exact (‹Facts _›).mVis.hk
  | exact (‹Facts _›).mLiv.hk
  | exact (‹Facts _›).mFir.hk
  | exact (‹Facts _›).mNxt.hk
  | exact (‹Facts _›).mCha.hk
  | exact (‹Facts _›).mEra.hk
  | exact (‹Facts _›).mKil.hk)
local macro_rules | `(tactic| walk_at "m mfi") => `(tactic| first
  | exact (‹Facts _›).mNew.fi
  | exact (‹Facts _›).mApp.fi
  | exact (‹Facts _›).mPre.fi
  | exact (‹Facts _›).mVis.fi
  | exact (‹Facts _›).mLiv.fi
  | exact (‹Facts _›).mFir.fi
  | exact (‹Facts _›).mNxt.fi
  | exact (‹Facts _›).mCha.fi
  | exact (‹Facts _›).mEra.fi
  | exact (‹Facts _›).mKil.fi)
local macro_rules | `(tactic| walk_at "m mht") => `(tactic| first
  | exact (‹Facts _›).mNew.ht
  | exact (‹Facts _›).mApp.ht
  | exact (‹Facts _›).mPre.ht
  | exact (‹Facts _›).mVis.ht
  | exact (‹Facts _›).mLiv.ht
  | exact (‹Facts _›).mFir.ht
  | exact (‹Facts _›).mNxt.ht
  | exact (‹Facts _›).mCha.ht
  | exact (‹Facts _›).mEra.ht
  | exact (‹Facts _›).mKil.ht)
local macro_rules | `(tactic| walk_at "m blt") => `(tactic| first
  | refine ev_builtin (‹Facts _›).bLen.ns (‹Facts _›).bLen.bo (‹Facts _›).bLen.nn ?_
  | refine ev_builtin (‹Facts _›).bAbs.ns (‹Facts _›).bAbs.bo (‹Facts _›).bAbs.nn ?_
  | refine ev_builtin (‹Facts _›).bRan.ns (‹Facts _›).bRan.bo (‹Facts _›).bRan.nn ?_)
/-- one step of an expression -/
local macro_rules | `(tactic| walk_at "m e1") => `(tactic| first
  | ((with_reducible show EV _ (eval (Expr.Name _ _) _) _ _ _); first | refine ev_local rfl ?_ | refine ev_cell rfl rfl ?_ | refine ev_cell (by assumption) rfl ?_ | refine ev_free rfl rfl ?_ | (refine' ev_global ?ka ?_; (case ka => walk_at "m glb")) | walk_at "m blt")
  | (with_reducible refine' calw_ref ?ka ?_; (case ka => walk_at "m keep"))
  | (with_reducible refine' calw_ref0 ?ka ?_; (case ka => walk_at "m keep"))
  | (with_reducible refine calw_builtin ?_)
  | (with_reducible refine calw_type ?_)
  | ((with_reducible show Mth _ _ _ _ _ (_ :: _) _ _); (refine' mth_inst ?ka ?kc ?kf ?kt ?kk ?kl ?_; (case ka => assumption); (case kc => walk_at "m cls"); (case kf => walk_at "m mfi"); (case kt => walk_at "m mht"); (case kk => walk_at "m keep"); (case kl => rfl)))
  | ((with_reducible show Att _ _ _ _ _ _); (refine' att_own ?ka ?kb ?_ ?kc ?kd ?ke; (case ka => assumption); (case kb => rfl); (case kc => walk_at "m cls"); (case kd => walk_at "m fld"); (case ke => trivial)))
  | (with_reducible refine ev_attr ?_)
  | (with_reducible refine subt_sdict (by assumption) (by with_unfolding_all rfl) ?_)
  | (with_reducible refine ev_int ?_)
  | (with_reducible refine ev_str ?_)
  | (with_reducible refine ev_bool ?_)
  | (with_reducible refine ev_none ?_)
  | (with_reducible refine ev_cmp ?_)
  | (with_reducible refine ev_chain ?_)
  | (with_reducible refine ev_binop ?_)
  | (with_reducible refine ev_una ?_)
  | (with_reducible refine ev_slice ?_)
  | (with_reducible refine ev_sub ?_)
  | (with_reducible refine ev_bool_one ?_)
  | (with_reducible refine ev_and ?_)
  | (with_reducible refine ev_or ?_)
  | (with_reducible refine ev_ifexp ?_)
  | (with_reducible refine ev_mcall ?_)
  | (with_reducible refine ev_call ?_)
  | (with_reducible refine eb_not ?_)
  | (with_reducible refine eb_and_nil ?_)
  | (with_reducible refine eb_or_nil ?_)
  | (with_reducible refine eb_and ?_)
  | (with_reducible refine eb_or ?_)
  | (with_reducible refine eb_cmp ?_)
  | (with_reducible refine eb_plain ?_)
  | (with_reducible refine cmp_lt ?_)
  | (with_reducible refine cmp_ge ?_)
  | (with_reducible refine cmp_gt ?_)
  | (with_reducible refine cmp_le ?_)
  | (with_reducible refine cmp_eq ?_)
  | (with_reducible refine cmp_ne ?_)
  | (with_reducible refine cmp_neS ?_)
  | (with_reducible refine cmp_isNone ?_)
  | (with_reducible refine tru_bool ?_)
  | (with_reducible refine tru_int ?_)
  | (with_reducible refine bin_add ?_)
  | (with_reducible refine bin_sub ?_)
  | (with_reducible refine inp_add ?_)
  | (with_reducible refine una_neg ?_)
  | (with_reducible refine una_not ?_)
  | (with_reducible refine el_nil ?_)
  | (with_reducible refine el_cons ?_)
  | (with_reducible refine Imp.go (by assumption) ?_))
local macro_rules | `(tactic| walk_at "m e") => `(tactic| repeat (walk_at "m e1"))

local macro_rules | `(tactic| walk_at "m s1") => `(tactic| first
  | (with_reducible refine x_assign ?_)
  | (with_reducible refine x_assign_attr ?_)
  | (with_reducible refine x_assign_sub ?_)
  | (with_reducible refine x_assign_tuple ?_)
  | ((with_reducible show XS _ (execs (Stmt.AugAssign (Expr.Name _ _) _ _ _ :: _) _) _ _ _); refine x_aug rfl ?_)
  | (with_reducible refine x_aug_attr ?_)
  | (with_reducible refine x_aug_sub ?_)
  | (with_reducible refine x_if ?_)
  | (with_reducible refine x_expr ?_)
  | (with_reducible refine x_return ?_)
  | (with_reducible refine x_break ?_)
  | (with_reducible refine xs_nil ?_)
  | (with_reducible refine Then.go ?_)
  | (with_reducible refine Then.ret ?_)
  | (with_reducible refine Then.brk ?_)
  | (with_reducible refine LoopK.ret ?_)
  | (with_reducible refine LoopK.brk ?_)
  | (with_reducible refine WhileK.ret ?_)
  | ((with_reducible show SetA _ _ _ _ _ _ _); (refine' seta_halt ?ka ?ks ?_ ?kc ?kd ?kz; (case ka => first | with_reducible exact upd_self .. | with_reducible assumption | (refine upd_skip (by with_reducible assumption) ?_; with_reducible exact upd_self ..) | assumption); (case ks => repeat (first | with_reducible exact setF_hit | with_reducible exact setF_nil | (apply setF_miss; (first | rfl | decide)))); (case kc => walk_at "m cls"); (case kd => walk_at "m fld"); (case kz => exact Nat.le_of_ble_eq_true rfl)))
  | walk_at "m e1")
local macro_rules | `(tactic| walk_at "m s") => `(tactic| repeat (walk_at "m s1"))
local macro_rules | `(tactic| walk_at "m bind") => `(tactic| (intro _ _ _ _ _ _ vs hv; (repeat (replace hv := lenS hv; obtain ⟨_, _, hz, hv⟩ := hv; subst hz)); cases List.eq_nil_of_length_eq_zero hv; rfl))
local macro_rules | `(tactic| walk_at "m sub") => `(tactic| (repeat (refine Sub.cons rfl ?_)); exact Sub.nil _)
section
variable {W : Wd} {φ₀ φ : AH} {a : Adr} {m : Mdl}

theorem s_vis (ok : W.Ok) (F : Facts W.K) {s x : Addr} {r : Rec} {g : Int} (e : φ x = some (recO r)) : Spec W 1 120 [.ref s, .ref x, .int g] φ (fun b φ' => φ' = φ ∧ b = .bool (vis r g)) := by
  refine spec_def ok (names := ["self", "record", "g"]) F.aVis (by walk_at "m bind") rfl (fun A l cd G Rk hRk => ?_)
  unfold recO at e
  refine x_return ?_
  walk_at "m e"
  refine ⟨fun h => ?_, fun h => ?_⟩
  · walk_at "m e"
    refine ⟨fun h' => ?_, fun h' => ?_⟩
    · try refine hRk _ _ _ ?_
      refine ⟨rfl, ?_⟩
      simp [vis, h, h']
    · walk_at "m e"
      try refine hRk _ _ _ ?_
      refine ⟨rfl, ?_⟩
      simp [vis, h, h']
  · try refine hRk _ _ _ ?_
    refine ⟨rfl, ?_⟩
    simp [vis, h]
theorem s_iRec (ok : W.Ok) (F : Facts W.K) {x : Addr} {k f b : Int} {t i : AV} : Spec W 1 43 [.ref x, .int k, .int f, t, i, .int b, .int 0] (upd φ x (.inst REC [])) (fun r φ' => r = .none ∧ φ' = upd φ x (recO ⟨k, f, t, i, b, -1, -1⟩)) := by
  refine spec_def ok (names := ["self", "key", "functor", "term", "index_key", "birth", "entry"]) F.iRec (by walk_at "m bind") rfl (fun A l cd G Rk hRk => ?_)
  show XS _ (execs (_ :: _) _) _ _ _
  repeat (walk_at "m s"; refine Halt.on ?_; rw [upd_upd])
  walk_at "m s"
  exact ⟨rfl, rfl⟩
theorem s_iSto (ok : W.Ok) (F : Facts W.K) {x : Addr} : Spec W 1 92 [.ref x] (upd φ x (.inst STO [])) (fun r φ' => r = .none ∧ ∃ d ep, φ d = none ∧ d ≠ x ∧ φ' = upd (upd φ d (.idict [] ep)) x (stoO d 0 0)) := by
  refine spec_def ok (names := ["self"]) F.iSto (by walk_at "m bind") rfl (fun A l cd G Rk hRk => ?_)
  show XS _ (execs (_ :: _) _) _ _ _
  walk_at "m s"
  refine ev_dict0 fun d ep hd => ?_
  have hdx : d ≠ x := by intro z; rw [z, upd_self] at hd; cases hd
  rw [upd_ne hdx] at hd
  have hc : upd (upd φ x (AO.inst STO [])) d (.idict [] ep) = upd (upd φ d (.idict [] ep)) x (AO.inst STO []) := by
    funext y; by_cases z : y = x <;> by_cases z' : y = d <;> simp [upd, z, z', hdx, Ne.symm hdx]
  rw [hc]
  repeat (walk_at "m s"; refine Halt.on ?_; rw [upd_upd])
  walk_at "m s"
  exact ⟨rfl, d, ep, hd, hdx, rfl⟩
theorem s_iPro (ok : W.Ok) (F : Facts W.K) {x : Addr} {f : Int} {kd : Str} (hx : φ x = none) : Spec W 1 64 [.ref x, .int f, .str kd] (upd φ x (.inst PRO [])) (fun r φ' => r = .none ∧ Ext φ φ' ∧ ∃ c t, φ' x = some (prcO ⟨f, kd, c, t, -1, -1⟩)) := by
  refine spec_def ok (names := ["self", "functor", "kind"]) F.iPro (by walk_at "m bind") rfl (fun A l cd G Rk hRk => ?_)
  show XS _ (execs (_ :: _) _) _ _ _
  have E0 : Ext φ (upd φ x (.inst PRO [])) := Ext.new hx
  repeat (walk_at "m s"; refine Halt.on ?_; rw [upd_upd])
  walk_at "m s"
  refine ev_list ?_
  walk_at "m s"
  refine ⟨Nat.zero_le _, fun d hd => ?_⟩
  have h1 : x ≠ d := by intro z; rw [← z, upd_self] at hd; cases hd
  have h2 : φ d = none := by rw [upd_ne (Ne.symm h1)] at hd; exact hd
  walk_at "m s"
  refine Halt.on ?_
  walk_at "m s"
  refine ev_list ?_
  walk_at "m s"
  refine ⟨Nat.zero_le _, fun d' hd' => ?_⟩
  have h3 : x ≠ d' := by intro z; rw [← z, upd_self] at hd'; cases hd'
  have h4 : φ d' = none := by
    rw [upd_ne (Ne.symm h3)] at hd'
    exact (Ext.put (Ext.put (Ext.refl _) hx) h2).none hd'
  walk_at "m s"
  refine Halt.on ?_
  repeat (walk_at "m s"; refine Halt.on ?_; rw [upd_upd])
  walk_at "m s"
  refine ⟨rfl, ?_, _, _, upd_self ..⟩
  repeat (first | with_reducible exact Ext.refl _ | refine Ext.put ?_ (by assumption))
end

section
variable {W : Wd} {φ₀ φ : AH} {a : Adr} {m : Mdl}

theorem s_new (ok : W.Ok) (F : Facts W.K) (r : Rep φ₀ φ a m) {f : Int} (hf : f ∈ m.pks) {t i : AV} (hn : m.nxt ∉ m.keys) (hz : m.keys.length < 1000) : Spec W 3 99 [.ref a.S, .ref (a.pa f), t, i, .int 0] φ
    (fun b φ' => ∃ x, b = .ref x ∧ Rep φ₀ φ' { a with ra := fset a.ra m.nxt x } (m.new (m.pr f).fn t i)) := by
  refine spec_def ok (names := ["self", "proc", "term", "index_key", "entry"]) F.aNew (by walk_at "m bind") rfl (fun A l cd G Rk hRk => ?_)
  show XS _ (execs (_ :: _) _) _ _ _
  have hS := r.sto
  unfold stoO at hS
  walk_at "m s"
  refine XS.cutH (fun φ' => Rep φ₀ φ' a { m with nxt := m.nxt, gen := m.gen + 1 }) (r.setS m.nxt (m.gen + 1)) fun φ₁ r₁ => ?_
  clear hS
  have hS := r₁.sto
  unfold stoO at hS
  walk_at "m s"
  refine XS.cutH (fun φ' => Rep φ₀ φ' a { m with nxt := m.nxt + 1, gen := m.gen + 1 }) (r₁.setS (m.nxt + 1) (m.gen + 1)) fun φ₂ r₂ => ?_
  clear hS
  have hS := r₂.sto
  have hP := r₂.prc f hf
  unfold stoO at hS
  unfold prcO at hP
  walk_at "m s"
  refine cal_cls F.kR (fun x hx => (s_iRec ok F).mono fun b φ' q => ⟨q.1, ?_⟩)
  obtain ⟨_, rfl⟩ := q
  have E : Ext φ₂ (upd φ₂ x (recO ⟨m.nxt, (m.pr f).fn, t, i, m.gen + 1, -1, -1⟩)) := Ext.new hx
  have r₃ := r₂.keep E
  have hS₃ := r₃.sto
  unfold stoO at hS₃
  walk_at "m s"
  obtain ⟨ep, hR⟩ := r₃.rdc
  refine seti_idict hR (fun ep' => ?_) (by rw [refs_len]; have := r.sml; show m.keys.length ≤ _; omega)
  walk_at "m s"
  refine ⟨x, rfl, ?_⟩
  rw [dset_refs hn]
  exact r₃.addR (v := ⟨m.nxt, (m.pr f).fn, t, i, m.gen + 1, -1, -1⟩) hn (upd_self ..) (r₂.ext.none hx) (fun j hj z => by
    have := r₂.rec_ j hj
    rw [z, hx] at this; cases this) ep' hz
theorem mem_new {m : Mdl} {fn : Int} {t i : AV} {k : Int} (h : k ∈ m.keys) : k ∈ (m.new fn t i).keys := List.mem_append_left _ h
theorem s_app (ok : W.Ok) (F : Facts W.K) (r : Rep φ₀ φ a m) {f : Int} (hf : f ∈ m.pks) {t i : AV} (hn : m.nxt ∉ m.keys) (hz : m.keys.length < 1000) (hl : ¬ (m.pr f).first < 0 → (m.pr f).last ∈ m.keys) : Spec W 4 106 [.ref a.S, .ref (a.pa f), t, i, .int 0] φ
    (fun b φ' => ∃ x, b = .ref x ∧ Rep φ₀ φ' { a with ra := fset a.ra m.nxt x } (m.app f t i)) := by
  refine spec_def ok (names := ["self", "proc", "term", "index_key", "entry"]) F.aApp (by walk_at "m bind") rfl (fun A l cd G Rk hRk => ?_)
  show XS _ (execs (_ :: _) _) _ _ _
  have hS := r.sto
  unfold stoO at hS
  walk_at "m s"
  refine cal_spec ((s_new ok F r hf hn hz).mono ?_)
  rintro _ φ₁ ⟨x, rfl, r₁⟩
  clear hS
  have hS := r₁.sto
  have hk : m.nxt ∈ (m.new (m.pr f).fn t i).keys := List.mem_append_right _ (List.mem_singleton.mpr rfl)
  have hx : (fset a.ra m.nxt x) m.nxt = x := fset_self ..
  have hR := r₁.rec_ m.nxt hk
  have hrc : (m.new (m.pr f).fn t i).rc m.nxt = ⟨m.nxt, (m.pr f).fn, t, i, m.gen + 1, -1, -1⟩ := fset_self ..
  have hP := r₁.prc f hf
  rw [hrc] at hR
  change φ₁ (fset a.ra m.nxt x m.nxt) = _ at hR
  rw [hx] at hR
  unfold stoO at hS
  unfold prcO at hP
  unfold recO at hR
  walk_at "m s"
  refine ⟨fun hc => ?_, fun hc => ?_⟩
  · have hc : (m.pr f).first < 0 := of_decide_eq_true hc
    walk_at "m s"
    refine XS.cutR (r₁.setP hf { (m.new (m.pr f).fn t i).pr f with first := m.nxt }) fun φ₂ r₂ => ?_
    clear hS hR hP
    have hR := r₂.rec_ m.nxt hk
    have hP := r₂.prc f hf
    change φ₂ (fset a.ra m.nxt x m.nxt) = some (recO ((m.new (m.pr f).fn t i).rc m.nxt)) at hR
    rw [hx, hrc] at hR
    unfold prcO at hP
    unfold recO at hR
    walk_at "m s"
    refine XS.cutR (r₂.setP hf { ((m.new (m.pr f).fn t i).setP f { (m.new (m.pr f).fn t i).pr f with first := m.nxt }).pr f with last := m.nxt }) fun φ₃ r₃ => ?_
    walk_at "m s"
    refine ⟨x, rfl, ?_⟩
    unfold Mdl.app
    rw [if_pos hc]
    exact r₃
  · have hc : ¬ (m.pr f).first < 0 := of_decide_eq_false hc
    have hlk : (m.pr f).last ∈ (m.new (m.pr f).fn t i).keys := mem_new (hl hc)
    have hlr := r₁.rec_ _ hlk
    unfold recO at hlr
    obtain ⟨ep, hD⟩ := r₁.rdc
    walk_at "m s"
    refine subt_idict hD (dget_refs hlk) ?_
    walk_at "m s"
    refine XS.cutR (r₁.setR hlk { (m.new (m.pr f).fn t i).rc (m.pr f).last with next := m.nxt }) fun φ₂ r₂ => ?_
    clear hS hR hP hlr hD
    have hR := r₂.rec_ m.nxt hk
    have hP := r₂.prc f hf
    change φ₂ (fset a.ra m.nxt x m.nxt) = some (recO (fset (m.new (m.pr f).fn t i).rc (m.pr f).last { (m.new (m.pr f).fn t i).rc (m.pr f).last with next := m.nxt } m.nxt)) at hR
    rw [hx, fset_ne (show m.nxt ≠ (m.pr f).last from fun z => hn (z ▸ hl hc)), hrc] at hR
    unfold prcO at hP
    unfold recO at hR
    walk_at "m s"
    refine XS.cutR (r₂.setP hf { ((m.new (m.pr f).fn t i).setR (m.pr f).last { (m.new (m.pr f).fn t i).rc (m.pr f).last with next := m.nxt }).pr f with last := m.nxt }) fun φ₃ r₃ => ?_
    walk_at "m s"
    refine ⟨x, rfl, ?_⟩
    unfold Mdl.app
    rw [if_neg hc]
    exact r₃
theorem s_pre (ok : W.Ok) (F : Facts W.K) (r : Rep φ₀ φ a m) {f : Int} (hf : f ∈ m.pks) {t i : AV} (hn : m.nxt ∉ m.keys) (hz : m.keys.length < 1000) : Spec W 4 113 [.ref a.S, .ref (a.pa f), t, i, .int 0] φ
    (fun b φ' => ∃ x, b = .ref x ∧ Rep φ₀ φ' { a with ra := fset a.ra m.nxt x } (m.pre f t i)) := by
  refine spec_def ok (names := ["self", "proc", "term", "index_key", "entry"]) F.aPre (by walk_at "m bind") rfl (fun A l cd G Rk hRk => ?_)
  show XS _ (execs (_ :: _) _) _ _ _
  have hS := r.sto
  unfold stoO at hS
  walk_at "m s"
  refine cal_spec ((s_new ok F r hf hn hz).mono ?_)
  rintro _ φ₁ ⟨x, rfl, r₁⟩
  clear hS
  have hk : m.nxt ∈ (m.new (m.pr f).fn t i).keys := List.mem_append_right _ (List.mem_singleton.mpr rfl)
  have hx : (fset a.ra m.nxt x) m.nxt = x := fset_self ..
  have hR := r₁.rec_ m.nxt hk
  have hrc : (m.new (m.pr f).fn t i).rc m.nxt = ⟨m.nxt, (m.pr f).fn, t, i, m.gen + 1, -1, -1⟩ := fset_self ..
  have hP := r₁.prc f hf
  rw [hrc] at hR
  change φ₁ (fset a.ra m.nxt x m.nxt) = _ at hR
  rw [hx] at hR
  unfold prcO at hP
  unfold recO at hR
  walk_at "m s"
  refine ⟨fun hc => ?_, fun hc => ?_⟩
  · have hc : (m.pr f).first < 0 := of_decide_eq_true hc
    walk_at "m s"
    refine XS.cutR (r₁.setP hf { (m.new (m.pr f).fn t i).pr f with last := m.nxt }) fun φ₂ r₂ => ?_
    clear hR hP
    have hR := r₂.rec_ m.nxt hk
    have hP := r₂.prc f hf
    change φ₂ (fset a.ra m.nxt x m.nxt) = some (recO ((m.new (m.pr f).fn t i).rc m.nxt)) at hR
    rw [hx, hrc] at hR
    unfold prcO at hP
    unfold recO at hR
    walk_at "m s"
    refine XS.cutR (φ₀ := φ₀) (a := { a with ra := fset a.ra m.nxt x }) (m := ((m.new (m.pr f).fn t i).setP f { (m.new (m.pr f).fn t i).pr f with last := m.nxt }).setR m.nxt { (m.new (m.pr f).fn t i).rc m.nxt with next := (((m.new (m.pr f).fn t i).setP f { (m.new (m.pr f).fn t i).pr f with last := m.nxt }).pr f).first }) ?_ fun φ₃ r₃ => ?_
    · have := r₂.setR hk { (m.new (m.pr f).fn t i).rc m.nxt with next := (((m.new (m.pr f).fn t i).setP f { (m.new (m.pr f).fn t i).pr f with last := m.nxt }).pr f).first }
      change Rep φ₀ (upd φ₂ (fset a.ra m.nxt x m.nxt) _) _ _ at this
      rw [hx] at this
      rw [hrc] at this ⊢
      exact this
    clear hR hP
    have hR := r₃.rec_ m.nxt hk
    have hP := r₃.prc f hf
    change φ₃ (fset a.ra m.nxt x m.nxt) = some (recO (fset _ m.nxt _ m.nxt)) at hR
    rw [hx, fset_self, hrc] at hR
    unfold prcO at hP
    unfold recO at hR
    walk_at "m s"
    refine XS.cutR (r₃.setP hf { (((m.new (m.pr f).fn t i).setP f { (m.new (m.pr f).fn t i).pr f with last := m.nxt }).setR m.nxt { (m.new (m.pr f).fn t i).rc m.nxt with next := (((m.new (m.pr f).fn t i).setP f { (m.new (m.pr f).fn t i).pr f with last := m.nxt }).pr f).first }).pr f with first := m.nxt }) fun φ₄ r₄ => ?_
    walk_at "m s"
    refine ⟨x, rfl, ?_⟩
    unfold Mdl.pre
    rw [if_pos hc]
    exact r₄
  · have hc : ¬ (m.pr f).first < 0 := of_decide_eq_false hc
    walk_at "m s"
    refine XS.cutR (φ₀ := φ₀) (a := { a with ra := fset a.ra m.nxt x }) (m := (m.new (m.pr f).fn t i).setR m.nxt { (m.new (m.pr f).fn t i).rc m.nxt with next := ((m.new (m.pr f).fn t i).pr f).first }) ?_ fun φ₃ r₃ => ?_
    · have := r₁.setR hk { (m.new (m.pr f).fn t i).rc m.nxt with next := ((m.new (m.pr f).fn t i).pr f).first }
      change Rep φ₀ (upd φ₁ (fset a.ra m.nxt x m.nxt) _) _ _ at this
      rw [hx] at this
      rw [hrc] at this ⊢
      exact this
    clear hR hP
    have hR := r₃.rec_ m.nxt hk
    have hP := r₃.prc f hf
    change φ₃ (fset a.ra m.nxt x m.nxt) = some (recO (fset _ m.nxt _ m.nxt)) at hR
    rw [hx, fset_self, hrc] at hR
    unfold prcO at hP
    unfold recO at hR
    walk_at "m s"
    refine XS.cutR (r₃.setP hf { ((m.new (m.pr f).fn t i).setR m.nxt { (m.new (m.pr f).fn t i).rc m.nxt with next := ((m.new (m.pr f).fn t i).pr f).first }).pr f with first := m.nxt }) fun φ₄ r₄ => ?_
    walk_at "m s"
    refine ⟨x, rfl, ?_⟩
    unfold Mdl.pre
    rw [if_neg hc]
    exact r₄
end

section
variable {C : FC} {ρ : Loc} {φ : AH} {n : Nat} {Q : AV → AH → Prop}
theorem mth_append {pos : Pos} {a : Addr} {l : List AV} {x : Expr} (e : φ a = some (.list l)) (h : EL C (spliced (backTo pos (starEach [x] C.env))) ρ φ fun vs φ₁ => Cal C ρ (.raw (.builtin "list.append")) (.ref a :: vs) φ₁ Q)
    (he : starEach [x] C.env = (false, eval x C.env) :: starEach [] C.env := by with_unfolding_all rfl) : Mth C ρ pos (.ref a) "append" [x] φ Q :=
  mth_builtin (by unfold Plain; rw [e]) PySem.F.plainAttrs_list PySem.F.slot_list_append rfl h he rfl
theorem mth_get {pos : Pos} {a : Addr} {l : List (Int × AV)} {ep : Nat} {x : Expr} (e : φ a = some (.idict l ep)) (h : EL C (spliced (backTo pos (starEach [x] C.env))) ρ φ fun vs φ₁ => Cal C ρ (.raw (.builtin "dict.get")) (.ref a :: vs) φ₁ Q)
    (he : starEach [x] C.env = (false, eval x C.env) :: starEach [] C.env := by with_unfolding_all rfl) : Mth C ρ pos (.ref a) "get" [x] φ Q :=
  mth_builtin (by unfold Plain; rw [e]) PySem.F.plainAttrs_dict PySem.F.slot_dict_get rfl h he rfl
theorem mth_dpop {pos : Pos} {a : Addr} {l : List (Int × AV)} {ep : Nat} {x : Expr} (e : φ a = some (.idict l ep)) (h : EL C (spliced (backTo pos (starEach [x] C.env))) ρ φ fun vs φ₁ => Cal C ρ (.raw (.builtin "dict.pop")) (.ref a :: vs) φ₁ Q)
    (he : starEach [x] C.env = (false, eval x C.env) :: starEach [] C.env := by with_unfolding_all rfl) : Mth C ρ pos (.ref a) "pop" [x] φ Q :=
  mth_builtin (by unfold Plain; rw [e]) PySem.F.plainAttrs_dict PySem.F.slot_dict_pop rfl h he rfl
end
theorem if_t {P Q : Prop} (h : P) : (true = true → P) ∧ (true = false → Q) := ⟨fun _ => h, fun z => by cases z⟩
theorem if_f {P Q : Prop} (h : Q) : (false = true → P) ∧ (false = false → Q) := ⟨fun z => (by cases z), fun _ => h⟩
theorem WhileK.next {J : Nat → Loc → AH → Prop} {k : Nat} {ρ : Loc} {φ : AH} {R : AF → Loc → AH → Prop} (k' : Nat) (ρ' : Loc) (h : k' < k) (hs : Sub ρ' ρ) (hj : J k' ρ' φ) : WhileK J k R .next ρ φ := ⟨k', h, ρ', hs, hj⟩
theorem LoopK.next {I : Nat → Loc → AH → Prop} {i : Nat} {ρ : Loc} {φ : AH} {R : AF → Loc → AH → Prop} (ρ' : Loc) (hs : Sub ρ' ρ) (hi : I (i + 1) ρ' φ) : LoopK I i R .next ρ φ := ⟨ρ', hs, hi⟩
noncomputable def rlist (ra : Int → Addr) (ks : List Int) : List AV := ks.map fun k => .ref (ra k)

section
variable {W : Wd} {φ₀ φ : AH} {a : Adr} {m : Mdl}
theorem s_cha (ok : W.Ok) (F : Facts W.K) (r : Rep φ₀ φ a m) {f g : Int} (hf : f ∈ m.pks) {c : List Int} (hp : Path m.keys m.nx (m.pr f).first c) (hz : c.length ≤ 1000) : Spec W 2 148 [.ref a.S, .ref (a.pa f), .int g] φ
    (fun b φ' => ∃ d, b = .ref d ∧ φ d = none ∧ φ' = upd φ d (.list (rlist a.ra (c.filter fun k => vis (m.rc k) g)))) := by
  refine spec_def ok (names := ["self", "proc", "g"]) F.aCha (by walk_at "m bind") rfl (fun A l cd G Rk hRk => ?_)
  show XS _ (execs (_ :: _) _) _ _ _
  walk_at "m s"
  refine ev_list ?_
  walk_at "m s"
  refine ⟨Nat.zero_le _, fun d hd => ?_⟩
  have hP := (r.keep (Ext.new (o := .list []) hd)).prc f hf
  unfold prcO at hP
  walk_at "m s"
  refine XS.sub (ρ' := [("place", .int (m.pr f).first), ("found", .ref d), ("self", .ref a.S), ("proc", .ref (a.pa f)), ("g", .int g)]) ?_ (by walk_at "m sub")
  refine x_while (fun k ρ φ' => ∃ c1 c2 p, c = c1 ++ c2 ∧ k = c2.length ∧ Path m.keys m.nx p c2 ∧ ρ = ([("place", .int p), ("found", .ref d), ("self", .ref a.S), ("proc", .ref (a.pa f)), ("g", .int g)] : Loc) ∧ φ' = upd φ d (.list (rlist a.ra (c1.filter fun k => vis (m.rc k) g)))) c.length ⟨[], c, _, rfl, rfl, hp, rfl, rfl⟩ ?_
  clear hP
  rintro _ _ _ ⟨c1, c2, p, hc, rfl, hp2, rfl, rfl⟩
  have r₁ := r.keep (Ext.new (o := .list (rlist a.ra (c1.filter fun k => vis (m.rc k) g))) hd)
  walk_at "m s"
  refine ⟨fun h Rj hRj => ?_, fun h => ?_⟩
  · have h := of_decide_eq_true h
    cases c2 with
    | nil => have : p < 0 := hp2; omega
    | cons k c3 =>
      obtain ⟨rfl, _, hk, hp3⟩ := hp2
      have hS := r₁.sto
      obtain ⟨ep, hD⟩ := r₁.rdc
      have hR := r₁.rec_ p hk
      unfold stoO at hS
      unfold recO at hR
      show XS _ (execs (_ :: _) _) _ _ _
      walk_at "m s"
      refine subt_idict hD (dget_refs hk) ?_
      walk_at "m s"
      refine cal_spec ((s_vis ok F (r₁.rec_ p hk)).mono ?_)
      rintro _ _ ⟨rfl, rfl⟩
      walk_at "m s"
      refine ⟨fun hv => ?_, fun hv => ?_⟩
      · show XS _ (execs (_ :: _) _) _ _ _
        walk_at "m s"
        refine mth_append (upd_self ..) ?_
        walk_at "m s"
        have e2 : rlist a.ra (c1.filter fun k => vis (m.rc k) g) ++ [.ref (a.ra p)] = rlist a.ra ((c1 ++ [p]).filter fun k => vis (m.rc k) g) := by simp [rlist, hv]
        refine cal_append (upd_self ..) ?_ ?_
        · rw [upd_upd, e2]
          have hR₂ := (r.keep (Ext.new (o := .list (rlist a.ra ((c1 ++ [p]).filter fun k => vis (m.rc k) g))) hd)).rec_ p hk
          unfold recO at hR₂
          walk_at "m s"
          exact WhileK.next c3.length [("place", .int (m.rc p).next), ("found", .ref d), ("self", .ref a.S), ("proc", .ref (a.pa f)), ("g", .int g)] (Nat.lt_succ_self _) (by walk_at "m sub") ⟨c1 ++ [p], c3, _, by simp [hc], rfl, hp3, rfl, rfl⟩
        · have h1 := List.length_filter_le (fun k => vis (m.rc k) g) c1
          have h2 : c.length = c1.length + (c3.length + 1) := by rw [hc]; simp
          unfold rlist
          rw [List.length_map]; omega
      · have e2 : rlist a.ra (c1.filter fun k => vis (m.rc k) g) = rlist a.ra ((c1 ++ [p]).filter fun k => vis (m.rc k) g) := by simp [rlist, hv]
        walk_at "m s"
        rw [e2]
        exact WhileK.next c3.length [("place", .int (m.rc p).next), ("found", .ref d), ("self", .ref a.S), ("proc", .ref (a.pa f)), ("g", .int g)] (Nat.lt_succ_self _) (by walk_at "m sub") ⟨c1 ++ [p], c3, _, by simp [hc], rfl, hp3, rfl, rfl⟩
  · have h : ¬ 0 ≤ p := of_decide_eq_false h
    cases c2 with
    | cons k c3 => exact absurd (hp2.1 ▸ hp2.2.1) h
    | nil =>
      rw [List.append_nil] at hc
      subst hc
      walk_at "m s"
      exact ⟨d, rfl, hd, rfl⟩
theorem s_era (ok : W.Ok) (F : Facts W.K) (r : Rep φ₀ φ a m) {k : Int} : Spec W 1 155 [.ref a.S, .int k] φ
    (fun b φ' => (k ∈ m.keys ∧ (m.rc k).death < 0 ∧ b = .bool true ∧ Rep φ₀ φ' a ({ m with gen := m.gen + 1 }.setR k { m.rc k with death := m.gen + 1 })) ∨ (¬ (k ∈ m.keys ∧ (m.rc k).death < 0) ∧ b = .bool false ∧ φ' = φ)) := by
  refine spec_def ok (names := ["self", "record_key"]) F.aEra (by walk_at "m bind") rfl (fun A l cd G Rk hRk => ?_)
  show XS _ (execs (_ :: _) _) _ _ _
  have hS := r.sto
  unfold stoO at hS
  obtain ⟨ep, hD⟩ := r.rdc
  walk_at "m s"
  refine mth_get hD ?_
  walk_at "m s"
  refine cal_get hD ?_
  by_cases hk : k ∈ m.keys
  · rw [dget_refs hk]
    show XS _ _ ((_, AV.ref (a.ra k)) :: _) _ _
    have hR := r.rec_ k hk
    unfold recO at hR
    walk_at "m s"
    refine ⟨fun h => (by cases h), fun _ => ?_⟩
    walk_at "m s"
    refine ⟨fun h => ?_, fun h => ?_⟩
    · refine if_t ?_
      walk_at "m s"
      refine .inr ⟨fun z => ?_, rfl, rfl⟩
      have := of_decide_eq_true h
      omega
    · have h : (m.rc k).death < 0 := by have := of_decide_eq_false h; omega
      walk_at "m s"
      refine if_f ?_
      walk_at "m s"
      refine XS.cutR (r.setS m.nxt (m.gen + 1)) fun φ₁ r₁ => ?_
      clear hS hR
      have hS := r₁.sto
      have hR := r₁.rec_ k hk
      unfold stoO at hS
      unfold recO at hR
      walk_at "m s"
      refine XS.cutR (r₁.setR hk { m.rc k with death := m.gen + 1 }) fun φ₂ r₂ => ?_
      walk_at "m s"
      exact .inl ⟨hk, h, rfl, r₂⟩
  · rw [dget_refs_none hk]
    show XS _ _ ((_, AV.none) :: _) _ _
    walk_at "m s"
    refine ⟨fun _ => ?_, fun h => by cases h⟩
    refine if_t ?_
    walk_at "m s"
    exact .inr ⟨fun z => hk z.1, rfl, rfl⟩
end

theorem if_b {b : Bool} {P Q : Prop} (h1 : b = true → P) (h2 : b = false → Q) : (b = true → P) ∧ (b = false → Q) := ⟨h1, h2⟩
noncomputable def killN (m : Mdl) (ls : List Int) : Mdl := { m with rc := fun k => if k ∈ ls then { m.rc k with death := m.gen } else m.rc k }
theorem killN_nil (m : Mdl) : killN m [] = m := by simp [killN]
theorem killN_next (m : Mdl) (ls : List Int) (k : Int) : killN m (ls ++ [k]) = (killN m ls).setR k { (killN m ls).rc k with death := m.gen } := by
  unfold killN Mdl.setR
  simp only
  congr 1
  funext j
  by_cases z : j = k
  · subst z
    rw [fset_self]
    by_cases y : j ∈ ls <;> simp [y]
  · rw [fset_ne z]
    simp [z]
theorem rlist_get {ra : Int → Addr} {ls : List Int} {i : Nat} {x : AV} (h : (rlist ra ls)[i]? = some x) : ∃ k, ls[i]? = some k ∧ x = .ref (ra k) ∧ ls.take (i + 1) = ls.take i ++ [k] ∧ k ∈ ls := by
  unfold rlist at h
  rw [List.getElem?_map, Option.map_eq_some_iff] at h
  obtain ⟨k, h1, h2⟩ := h
  exact ⟨k, h1, h2.symm, by rw [List.take_add_one, h1]; rfl, List.mem_of_getElem? h1⟩
theorem rlist_len (ra : Int → Addr) (ls : List Int) : (rlist ra ls).length = ls.length := by unfold rlist; simp
section
variable {W : Wd} {φ₀ φ : AH} {a : Adr} {m : Mdl}
theorem s_kil (ok : W.Ok) (F : Facts W.K) (r : Rep φ₀ φ a m) {f : Int} (hf : f ∈ m.pks) {c : List Int} (hp : Path m.keys m.nx (m.pr f).first c) (hz : c.length ≤ 1000) : Spec W 3 162 [.ref a.S, .ref (a.pa f)] φ
    (fun b φ' => b = .none ∧ Rep φ₀ φ' a (killN { m with gen := if (c.filter fun k => vis (m.rc k) m.gen) = [] then m.gen else m.gen + 1 } (c.filter fun k => vis (m.rc k) m.gen))) := by
  refine spec_def ok (names := ["self", "proc"]) F.aKil (by walk_at "m bind") rfl (fun A l cd G Rk hRk => ?_)
  show XS _ (execs (_ :: _) _) _ _ _
  have hS := r.sto
  unfold stoO at hS
  walk_at "m s"
  refine cal_spec ((s_cha ok F r hf hp hz).mono ?_)
  rintro _ _ ⟨d, rfl, hd, rfl⟩
  generalize hls : (c.filter fun k => vis (m.rc k) m.gen) = ls at hRk ⊢
  have hmem : ∀ k ∈ ls, k ∈ m.keys := fun k hk => (hp.mem k (by rw [← hls] at hk; exact (List.mem_filter.mp hk).1)).2
  have hlen : ls.length ≤ 1000 := by rw [← hls]; exact Nat.le_trans (List.length_filter_le _ _) hz
  have r₁ := r.keep (Ext.new (o := .list (rlist a.ra ls)) hd)
  clear hS
  have hS := r₁.sto
  unfold stoO at hS
  walk_at "m s"
  refine cal_len_list (upd_self ..) ?_ (by rw [rlist_len]; omega)
  walk_at "m s"
  -- the loop
  have loop : ∀ g φ₁, Rep φ₀ φ₁ a { m with gen := g } → φ₁ d = some (.list (rlist a.ra ls)) → ∀ (ρ : Loc), Sub ([("living", .ref d), ("self", .ref a.S)] : Loc) ρ →
      XS ⟨W, A, envX "ClauseStore.kill_all" (dScope (m1 7 10)) l 162 cd []⟩ (execs ((dBody (m1 7 10)).drop 2) (envX "ClauseStore.kill_all" (dScope (m1 7 10)) l 162 cd [])) ρ φ₁
        (Post fun v φ' => v = .none ∧ Rep φ₀ φ' a (killN { m with gen := g } ls)) := by
    intro g φ₁ r₁ hd₁ ρ hsub
    refine XS.sub ?_ hsub
    refine x_for_list ?_
    walk_at "m s"
    refine ⟨d, _, rfl, hd₁, fun i ρ φ' => ρ = ([("living", .ref d), ("self", .ref a.S)] : Loc) ∧ φ' d = some (.list (rlist a.ra ls)) ∧ Rep φ₀ φ' a (killN { m with gen := g } (ls.take i)), ⟨rfl, hd₁, by rw [List.take_zero, killN_nil]; exact r₁⟩, ?_, ?_, go_name⟩
    · rintro i x _ φ' hi ⟨rfl, hd', r'⟩
      obtain ⟨k, hk, rfl, ht, hkm⟩ := rlist_get hi
      refine ⟨hd', asn_name fun Rj hRj => ?_⟩
      have hkk : k ∈ (killN { m with gen := g } (ls.take i)).keys := hmem k hkm
      have hS := r'.sto
      have hR := r'.rec_ k hkk
      have hne : d ≠ a.ra k := by intro z; rw [z, hR] at hd'; cases hd'
      unfold stoO at hS
      unfold recO at hR
      show XS _ (execs (_ :: _) _) _ _ _
      walk_at "m s"
      refine XS.cutH (fun φ'' => φ'' d = some (.list (rlist a.ra ls)) ∧ Rep φ₀ φ'' a (killN { m with gen := g } (ls.take (i + 1)))) ⟨by rw [upd_ne hne]; exact hd', ?_⟩ ?_
      · rw [ht, killN_next]; exact r'.setR hkk { (killN { m with gen := g } (ls.take i)).rc k with death := g }
      · rintro φ'' ⟨h1, h2⟩
        walk_at "m s"
        exact LoopK.next [("living", .ref d), ("self", .ref a.S)] (by walk_at "m sub") ⟨rfl, h1, h2⟩
    · rintro _ φ' ⟨rfl, hd', r'⟩
      refine ⟨hd', ?_⟩
      walk_at "m s"
      rw [rlist_len, List.take_length] at r'
      exact ⟨rfl, r'⟩
  rw [rlist_len]
  refine ⟨fun h => ?_, fun h => ?_⟩
  · have h : ls ≠ [] := by
      have := of_decide_eq_true h
      intro z; rw [z] at this; cases this
    rw [if_neg h] at *
    walk_at "m s"
    refine XS.cutH (fun φ' => φ' d = some (.list (rlist a.ra ls)) ∧ Rep φ₀ φ' a { m with gen := m.gen + 1 }) ⟨?_, r₁.setS m.nxt (m.gen + 1)⟩ ?_
    · have hne : d ≠ a.S := by intro z; rw [← z, upd_self] at hS; cases hS
      rw [upd_ne hne]; exact upd_self ..
    · rintro φ' ⟨h1, h2⟩
      walk_at "m s"
      exact (loop (m.gen + 1) φ' h2 h1 _ (by walk_at "m sub")).mono hRk
  · have h : ls = [] := by
      have := of_decide_eq_false h
      cases ls with
      | nil => rfl
      | cons _ _ => exact absurd (by simp) this
    rw [if_pos h] at *
    walk_at "m s"
    exact (loop m.gen _ r₁ (upd_self ..) _ (by walk_at "m sub")).mono hRk
theorem s_snd0 (ok : W.Ok) (F : Facts W.K) {s : Addr} {k f : Int} : Spec W 1 183 [.ref s, .none, .int k, .int f] φ (fun b φ' => φ' = φ ∧ b = .bool false) := by
  refine spec_def ok (names := ["store", "record", "place", "f"]) F.aSnd (by walk_at "m bind") rfl (fun A l cd G Rk hRk => ?_)
  show XS _ (execs (_ :: _) _) _ _ _
  walk_at "m s"
  refine ⟨fun _ => ?_, fun h => (by cases h)⟩
  refine if_t ?_
  walk_at "m s"
  exact ⟨rfl, rfl⟩
theorem s_snd (ok : W.Ok) (F : Facts W.K) (r : Rep φ₀ φ a m) {k f : Int} (hk : k ∈ m.keys) : Spec W 1 183 [.ref a.S, .ref (a.ra k), .int k, .int f] φ (fun b φ' => φ' = φ ∧ ∃ bb, b = .bool bb ∧ (bb = true ↔ snd m k f)) := by
  refine spec_def ok (names := ["store", "record", "place", "f"]) F.aSnd (by walk_at "m bind") rfl (fun A l cd G Rk hRk => ?_)
  show XS _ (execs (_ :: _) _) _ _ _
  have hS := r.sto
  have hR := r.rec_ k hk
  unfold stoO at hS
  unfold recO at hR
  have no : ¬ snd m k f → (false = true ↔ snd m k f) := fun h => ⟨fun z => (by cases z), fun z => absurd z h⟩
  walk_at "m s"
  refine ⟨fun h => (by cases h), fun _ => ?_⟩
  walk_at "m s"
  refine ⟨fun h => if_t ?_, fun h => ?_⟩
  · walk_at "m s"
    refine ⟨rfl, _, rfl, no fun z => ?_⟩
    rw [z.1] at h; simp at h
  have h1 : (m.rc k).key = k := by simpa using h
  walk_at "m s"
  refine ⟨fun h => if_t ?_, fun h => ?_⟩
  · walk_at "m s"
    refine ⟨rfl, _, rfl, no fun z => ?_⟩
    rw [z.2.1] at h; simp at h
  have h2 : (m.rc k).fn = f := by simpa using h
  walk_at "m s"
  refine if_f ?_
  walk_at "m s"
  refine ⟨fun h => if_t ?_, fun h => ?_⟩
  · walk_at "m s"
    refine ⟨rfl, _, rfl, no fun z => ?_⟩
    have := of_decide_eq_true h
    have := z.2.2.1
    omega
  have h3 := of_decide_eq_false h
  walk_at "m s"
  refine ⟨fun h => if_t ?_, fun h => ?_⟩
  · walk_at "m s"
    refine ⟨rfl, _, rfl, no fun z => ?_⟩
    have := of_decide_eq_true h
    have := z.2.2.2.1
    omega
  have h4 := of_decide_eq_false h
  walk_at "m s"
  refine if_f ?_
  walk_at "m s"
  refine ⟨fun h => ?_, fun h => ?_⟩
  · walk_at "m s"
    exact ⟨rfl, _, rfl, ⟨fun _ => ⟨h1, h2, by omega, by omega, .inl (of_decide_eq_true h)⟩, fun _ => rfl⟩⟩
  have h5 := of_decide_eq_false h
  walk_at "m s"
  refine ⟨fun h => ?_, fun h => ?_⟩
  · have h6 := of_decide_eq_true h
    walk_at "m s"
    refine ⟨rfl, _, rfl, ⟨fun h => ⟨h1, h2, by omega, by omega, .inr ⟨h6, of_decide_eq_true h⟩⟩, fun h => ?_⟩⟩
    rcases h.2.2.2.2 with z | z
    · exact absurd z h5
    · exact decide_eq_true z.2
  · have h6 := of_decide_eq_false h
    refine hRk _ _ _ ?_
    refine ⟨rfl, _, rfl, ⟨fun h' => (by rw [h] at h'; cases h'), fun z => ?_⟩⟩
    rcases z.2.2.2.2 with z | z
    · exact absurd z h5
    · exact absurd z.1 h6
end

noncomputable def tdict (L : List Int) : List (Int × AV) := L.map fun k => (k, .bool true)
theorem tdict_len (L : List Int) : (tdict L).length = L.length := by unfold tdict; simp
theorem dget_tdict {k : Int} : ∀ {L : List Int}, (dget k (tdict L)).isSome = decide (k ∈ L)
  | [] => rfl
  | j :: L => by
    unfold dget tdict
    rw [List.map_cons, List.find?_cons]
    by_cases z : j = k
    · subst z; simp
    · rw [decide_eq_false z]
      have := dget_tdict (k := k) (L := L)
      unfold dget tdict at this
      rw [this]
      have z' : ¬ k = j := fun q => z q.symm
      simp [z']
theorem any_tdict {k : Int} (L : List Int) : ((tdict L).any fun p => decide (p.1 = k)) = decide (k ∈ L) := by
  induction L with
  | nil => rfl
  | cons j L ih =>
    show (decide (j = k) || (tdict L).any fun p => decide (p.1 = k)) = _
    rw [ih]
    by_cases z : j = k
    · simp [z]
    · have : ¬ k = j := fun q => z q.symm
      simp [z, this]
theorem dset_tdict {k : Int} {L : List Int} (h : k ∉ L) : dset k (.bool true) (tdict L) = tdict (L ++ [k]) := by
  unfold dset
  rw [any_tdict, decide_eq_false h]
  simp [tdict]
theorem nodup_le : ∀ {l k : List Int}, l.Nodup → (∀ x ∈ l, x ∈ k) → l.length ≤ k.length
  | [], _, _, _ => Nat.zero_le _
  | x :: l, k, h, hs => by
    have hx := hs x (List.mem_cons_self ..)
    obtain ⟨h1, h2⟩ := List.nodup_cons.mp h
    have h3 := nodup_le (l := l) (k := k.erase x) h2 fun y hy => (List.mem_erase_of_ne (show y ≠ x from fun z => h1 (z ▸ hy))).mpr (hs y (List.mem_cons_of_mem _ hy))
    rw [List.length_erase_of_mem hx] at h3
    have := List.length_pos_of_mem hx
    rw [List.length_cons]; omega
section
variable {W : Wd} {φ₀ φ : AH} {a : Adr} {m : Mdl}
theorem getLastD_snoc (c : List Int) (p d : Int) : (c ++ [p]).getLastD d = p := by simp [List.getLastD_eq_getLast?]
theorem s_chk (ok : W.Ok) (F : Facts W.K) (r : Rep φ₀ φ a m) : Spec W 2 190 [.ref a.S, .ref a.P] φ
    (fun b φ' => ∃ bb, b = .bool bb ∧ Ext φ φ' ∧ (bb = true → Snd m) ∧ (∀ ch, Good m ch → bb = true)) := by
  refine spec_def ok (names := ["store", "procs"]) F.aChk (by walk_at "m bind") rfl (fun A l cd G Rk hRk => ?_)
  show XS _ (execs (_ :: _) _) _ _ _
  walk_at "m s"
  refine ev_dict0 fun d ep hd => ?_
  refine XS.sub (ρ' := [("met", .ref d), ("store", .ref a.S), ("procs", .ref a.P)]) ?_ (by walk_at "m sub")
  have keep : ∀ o, Rep φ₀ (upd φ d o) a m := fun o => r.keep (Ext.new hd)
  have hdP : a.P ≠ d := by intro z; obtain ⟨ep, e⟩ := r.pdc; rw [z, hd] at e; cases e
  have hpd : ∃ ep, ∀ o, upd φ d o a.P = some (.idict (refs m.pks a.pa) ep) := by
    obtain ⟨ep, e⟩ := r.pdc; exact ⟨ep, fun o => by rw [upd_ne hdP]; exact e⟩
  obtain ⟨epP, hpd⟩ := hpd
  have no : ∀ φ', Ext φ φ' → (∀ ch, Good m ch → False) → ∃ bb, AV.bool false = .bool bb ∧ Ext φ φ' ∧ (bb = true → Snd m) ∧ (∀ ch, Good m ch → bb = true) :=
    fun φ' x h => ⟨false, rfl, x, fun z => (by cases z), fun ch g => (h ch g).elim⟩
  refine x_for_dict ?_
  walk_at "m s"
  refine ⟨a.P, refs m.pks a.pa, epP, rfl, hpd _, fun i ρ φ' => ρ = ([("met", .ref d), ("store", .ref a.S), ("procs", .ref a.P)] : Loc) ∧ ∃ L ep, φ' = upd φ d (.idict (tdict L) ep) ∧ L.Nodup ∧ (∀ k ∈ L, k ∈ m.keys ∧ (m.rc k).fn ∈ m.pks.take i) ∧
    ∀ f ∈ m.pks.take i, ∃ c, Path m.keys m.nx (m.pr f).first c ∧ c.Nodup ∧ (∀ k ∈ c, snd m k f) ∧ (m.pr f).last = c.getLastD (-1) ∧ ((m.pr f).kind ≠ "dynamic" → c = []), ⟨rfl, [], ep, rfl, .nil, fun k hk => (by cases hk), fun f hf => (by simp at hf)⟩, ?_, ?_⟩
  · rintro i ⟨f, v⟩ _ _ hi ⟨rfl, L, ep, rfl, hL1, hL2, hdone⟩
    refine ⟨⟨refs m.pks a.pa, rfl, hpd _⟩, asn_name fun Rj hRj => ?_⟩
    have hfi : m.pks[i]? = some f := by
      unfold refs at hi
      rw [List.getElem?_map, Option.map_eq_some_iff] at hi
      obtain ⟨j, h1, h2⟩ := hi
      cases h2; exact h1
    have hf : f ∈ m.pks := List.mem_of_getElem? hfi
    have htk : m.pks.take (i + 1) = m.pks.take i ++ [f] := by rw [List.take_add_one, hfi]; rfl
    have hP := (keep (.idict (tdict L) ep)).prc f hf
    unfold prcO at hP
    show XS _ (execs (_ :: _) _) _ _ _
    walk_at "m s"
    refine subt_idict (hpd _) (dget_refs hf) ?_
    walk_at "m s"
    refine XS.sub (ρ' := [("place", .int (m.pr f).first), ("last", .int (-1)), ("proc", .ref (a.pa f)), ("f", .int f), ("met", .ref d), ("store", .ref a.S), ("procs", .ref a.P)]) ?_ (by walk_at "m sub")
    refine x_while (fun n ρ φ' => ∃ c p ep, ρ = ([("place", .int p), ("last", .int (c.getLastD (-1))), ("proc", .ref (a.pa f)), ("f", .int f), ("met", .ref d), ("store", .ref a.S), ("procs", .ref a.P)] : Loc) ∧ φ' = upd φ d (.idict (tdict (L ++ c)) ep) ∧ Seg m.nx (m.pr f).first c p ∧
      (∀ k ∈ c, 0 ≤ k ∧ k ∈ m.keys ∧ snd m k f) ∧ (L ++ c).Nodup ∧ n = m.keys.length - (L ++ c).length) (m.keys.length - L.length) ⟨[], _, ep, rfl, by rw [List.append_nil], rfl, fun k hk => (by cases hk), by rw [List.append_nil]; exact hL1, by rw [List.append_nil]⟩ ?_
    clear hP
    rintro _ _ _ ⟨c, p, ep, rfl, rfl, hseg, hc, hnd, rfl⟩
    have r₁ := keep (.idict (tdict (L ++ c)) ep)
    have hP := r₁.prc f hf
    have hS := r₁.sto
    unfold prcO at hP
    unfold stoO at hS
    have hsub : ∀ x ∈ L ++ c, x ∈ m.keys := fun x hx => by
      rcases List.mem_append.mp hx with h | h
      · exact (hL2 x h).1
      · exact (hc x h).2.1
    have hle := nodup_le hnd hsub
    have goodp : ∀ ch, Good m ch → ∃ c', ch f = c ++ c' ∧ Path m.keys m.nx p c' := fun ch g => Seg.split hseg (g.path f hf) fun k hk => (hc k hk).1
    have E : ∀ o, Ext φ (upd φ d o) := fun o => Ext.new hd
    walk_at "m s"
    refine ⟨fun h Rj hRj => ?_, fun h => ?_⟩
    · have h0 : 0 ≤ p := of_decide_eq_true h
      have goodk : ∀ ch, Good m ch → p ∈ m.keys ∧ snd m p f ∧ p ∉ L ++ c := fun ch g => by
        obtain ⟨c', e, hp⟩ := goodp ch g
        cases c' with
        | nil => have : p < 0 := hp; omega
        | cons k c' =>
          obtain ⟨rfl, _, hk, _⟩ := hp
          have hm : p ∈ ch f := by rw [e]; simp
          refine ⟨hk, (g.sound hf hm).2, fun z => ?_⟩
          rcases List.mem_append.mp z with z | z
          · have h1 := (hL2 p z).2
            rw [g.fn f hf p hm] at h1
            have h2 := g.pnd
            rw [← List.take_append_drop (i + 1) m.pks, htk] at h2
            have h3 := (List.nodup_append.mp h2).1
            exact (List.nodup_append.mp h3).2.2 f h1 f (by simp) rfl
          · have h1 := g.nodup f hf
            rw [e] at h1
            exact (List.nodup_append.mp h1).2.2 p z p (by simp) rfl
      obtain ⟨epD, hD⟩ := r₁.rdc
      show XS _ (execs (_ :: _) _) _ _ _
      walk_at "m s"
      refine mth_get hD ?_
      walk_at "m s"
      refine cal_get hD ?_
      walk_at "m s"
      refine cmp_in (upd_self ..) ?_
      rw [dget_tdict]
      walk_at "m s"
      refine ⟨fun h => if_t ?_, fun h => ?_⟩
      · have hin := of_decide_eq_true h
        walk_at "m s"
        exact no _ (E _) fun ch g => (goodk ch g).2.2 hin
      have hnin : p ∉ L ++ c := of_decide_eq_false h
      walk_at "m s"
      by_cases hk : p ∈ m.keys
      · rw [dget_refs hk]
        refine cal_spec ((s_snd ok F r₁ hk).mono ?_)
        rintro _ _ ⟨rfl, bb, rfl, hbb⟩
        walk_at "m s"
        refine ⟨fun h => if_t ?_, fun h => ?_⟩
        · walk_at "m s"
          refine no _ (E _) fun ch g => ?_
          have := hbb.mpr (goodk ch g).2.1
          rw [this] at h; cases h
        have hs : snd m p f := hbb.mp (by simpa using h)
        have hR := r₁.rec_ p hk
        walk_at "m s"
        refine if_f ?_
        walk_at "m s"
        refine seti_idict (upd_self ..) (fun ep' => ?_) (by rw [tdict_len]; have := r.sml; omega)
        rw [dset_tdict hnin, upd_upd]
        clear hR hP hS
        have hR := (keep (.idict (tdict (L ++ c ++ [p])) ep')).rec_ p hk
        unfold recO at hR
        show XS _ _ ((_, AV.ref (a.ra p)) :: _) _ _
        walk_at "m s"
        have hnd' : (L ++ (c ++ [p])).Nodup := by
          rw [← List.append_assoc]
          exact List.nodup_append.mpr ⟨hnd, by simp, fun x hx y hy z => hnin (by rw [List.mem_singleton.mp hy] at z; exact z ▸ hx)⟩
        have hle' := nodup_le hnd' (fun x hx => by
          rw [← List.append_assoc] at hx
          rcases List.mem_append.mp hx with h | h
          · exact hsub x h
          · rw [List.mem_singleton.mp h]; exact hk)
        refine WhileK.next (m.keys.length - (L ++ (c ++ [p])).length) [("place", .int (m.rc p).next), ("last", .int p), ("proc", .ref (a.pa f)), ("f", .int f), ("met", .ref d), ("store", .ref a.S), ("procs", .ref a.P)] ?_ (by walk_at "m sub")
          ⟨c ++ [p], _, ep', by rw [getLastD_snoc]; rfl, by rw [List.append_assoc], Seg.snoc hseg, fun k hk' => ?_, hnd', rfl⟩
        · simp only [List.length_append, List.length_singleton] at hle' ⊢
          omega
        · rcases List.mem_append.mp hk' with h | h
          · exact hc k h
          · rw [List.mem_singleton.mp h]; exact ⟨h0, hk, hs⟩
      · rw [dget_refs_none hk]
        refine cal_spec (s_snd0 ok F |>.mono ?_)
        rintro _ _ ⟨rfl, rfl⟩
        walk_at "m s"
        refine ⟨fun _ => if_t ?_, fun h => (by cases h)⟩
        walk_at "m s"
        exact no _ (E _) fun ch g => hk (goodk ch g).1
    · have h0 : ¬ 0 ≤ p := of_decide_eq_false h
      have h0' : p < 0 := by omega
      have hpath : Path m.keys m.nx (m.pr f).first c := Seg.path hseg h0' fun k hk => ⟨(hc k hk).1, (hc k hk).2.1⟩
      have gc : ∀ ch, Good m ch → ch f = c := fun ch g => by
        obtain ⟨c', e, hp⟩ := goodp ch g
        cases c' with
        | nil => rw [e, List.append_nil]
        | cons k c' => exact absurd (hp.1 ▸ hp.2.1) h0
      walk_at "m s"
      refine ⟨fun h => ?_, fun h => ?_⟩
      · walk_at "m s"
        refine no _ (E _) fun ch g => ?_
        have := g.last f hf
        rw [gc ch g] at this
        rw [this] at h; simp at h
      have hlast : (m.pr f).last = c.getLastD (-1) := by
        have : c.getLastD (-1) = (m.pr f).last := by simpa using h
        exact this.symm
      walk_at "m s"
      have fin : ((m.pr f).kind ≠ "dynamic" → c = []) → ∀ ρ : Loc, Sub ([("met", .ref d), ("store", .ref a.S), ("procs", .ref a.P)] : Loc) ρ → ∃ ρ', Sub ρ' ρ ∧ (ρ' = ([("met", .ref d), ("store", .ref a.S), ("procs", .ref a.P)] : Loc) ∧ ∃ L' ep', upd φ d (.idict (tdict (L ++ c)) ep) = upd φ d (.idict (tdict L') ep') ∧ L'.Nodup ∧ (∀ k ∈ L', k ∈ m.keys ∧ (m.rc k).fn ∈ m.pks.take (i + 1)) ∧
          ∀ f ∈ m.pks.take (i + 1), ∃ c, Path m.keys m.nx (m.pr f).first c ∧ c.Nodup ∧ (∀ k ∈ c, snd m k f) ∧ (m.pr f).last = c.getLastD (-1) ∧ ((m.pr f).kind ≠ "dynamic" → c = [])) := fun hkd ρ hsub' => by
        refine ⟨_, hsub', rfl, L ++ c, ep, rfl, hnd, fun k hk => ?_, fun f' hf' => ?_⟩
        · rw [htk]
          rcases List.mem_append.mp hk with h | h
          · exact ⟨(hL2 k h).1, List.mem_append_left _ (hL2 k h).2⟩
          · exact ⟨(hc k h).2.1, List.mem_append_right _ (by rw [(hc k h).2.2.2.1]; simp)⟩
        · rw [htk] at hf'
          rcases List.mem_append.mp hf' with h | h
          · exact hdone f' h
          · rw [List.mem_singleton.mp h]
            exact ⟨c, hpath, (List.nodup_append.mp hnd).2.1, fun k hk => (hc k hk).2.2, hlast, hkd⟩
      refine ⟨fun h => ?_, fun h => ?_⟩
      · walk_at "m s"
        refine ⟨fun h' => ?_, fun h' => ?_⟩
        · walk_at "m s"
          refine if_t ?_
          walk_at "m s"
          refine no _ (E _) fun ch g => ?_
          have h1 : (m.pr f).kind ≠ "dynamic" := by simpa using h
          have h2 := g.kind f hf h1
          rw [gc ch g] at h2
          have h3 := of_decide_eq_true h'
          rw [h2] at h3
          have h4 : (0 : Int) ≤ -1 := h3
          omega
        · refine if_f ?_
          walk_at "m s"
          refine fin (fun _ => ?_) _ (by walk_at "m sub")
          have h3 := of_decide_eq_false h'
          cases hcc : c with
          | nil => rfl
          | cons k c' =>
            have := (hc _ (getLastD_mem (c := c) (by rw [hcc]; simp) (-1))).1
            exact absurd this h3
      · refine if_f ?_
        walk_at "m s"
        refine fin (fun z => ?_) _ (by walk_at "m sub")
        have h1 : (m.pr f).kind = "dynamic" := by simpa using h
        exact absurd h1 z
  · rintro _ _ ⟨rfl, L, ep, rfl, hL1, hL2, hdone⟩
    refine ⟨⟨refs m.pks a.pa, rfl, hpd _⟩, ?_⟩
    walk_at "m s"
    refine ⟨true, rfl, Ext.new hd, fun _ f hf => ?_, fun _ _ => rfl⟩
    rw [refs_len, List.take_length] at hdone
    exact hdone f hf
end

theorem path_snoc {keys : List Int} {nx nx' : Int → Int} {p q k : Int} {l : List Int} (h : Path keys nx p (l ++ [q])) (h0 : 0 ≤ k) (hk : k ∈ keys) (e1 : nx' q = k) (e2 : nx' k < 0) (e3 : ∀ j ∈ l, nx' j = nx j) : Path keys nx' p (l ++ [q] ++ [k]) := by
  obtain ⟨x, h1, h2⟩ := Path.seg h
  obtain ⟨rfl, h3, h4, _⟩ := h2
  rw [List.append_assoc]
  exact Path.join (Seg.frame h1 e3) (fun j hj => h.mem j (List.mem_append_left _ hj)) ⟨rfl, h3, h4, by rw [e1]; exact ⟨rfl, h0, hk, e2⟩⟩
section
variable {W : Wd} {φ₀ φ : AH} {a : Adr} {m : Mdl}
theorem Rep.other (r : Rep φ₀ φ a m) {d : Addr} {l : List (Int × AV)} {ep : Nat} {o : AO} (e : φ d = some (.idict l ep)) (hR : d ≠ a.R) (hP : d ≠ a.P) (h0 : φ₀ d = none) : Rep φ₀ (upd φ d o) a m := by
  have ne : ∀ {b o'}, φ b = some o' → (∀ l ep, o' ≠ .idict l ep) → upd φ d o b = some o' := fun {b o'} h1 h2 => by
    rw [upd_ne]
    · exact h1
    · intro z; rw [z, e] at h1; cases h1; exact h2 _ _ rfl
  exact ⟨r.ext.put h0, ne r.sto (fun _ _ z => by cases z), let ⟨ep, e⟩ := r.rdc; ⟨ep, by rw [upd_ne (Ne.symm hR)]; exact e⟩, let ⟨ep, e⟩ := r.pdc; ⟨ep, by rw [upd_ne (Ne.symm hP)]; exact e⟩,
    fun k h => ne (r.rec_ k h) (fun _ _ z => by cases z), fun f h => ne (r.prc f h) (fun _ _ z => by cases z), r.nS, r.nR, r.nP, r.nrc, r.npr, r.hRP, r.rin, r.pin, r.sml⟩
theorem Rep.swap (r : Rep φ₀ φ a m) {d : Addr} {K : List Int} {ep : Nat} (e : φ d = some (.idict (refs K a.ra) ep)) (hP : d ≠ a.P) (h0 : φ₀ d = none) (hK : ∀ k ∈ K, k ∈ m.keys) (hz : K.length ≤ 1000) :
    Rep φ₀ (upd φ a.S (stoO d m.nxt m.gen)) { a with R := d } { m with keys := K } := by
  have eS := r.sto
  have ne : ∀ {b o'}, φ b = some o' → (∀ R n g, o' ≠ stoO R n g) → upd φ a.S (stoO d m.nxt m.gen) b = some o' := fun {b o'} h1 h2 => by
    rw [upd_ne]
    · exact h1
    · intro z; rw [z, eS] at h1; cases h1; exact h2 _ _ _ rfl
  exact ⟨r.ext.put r.nS, upd_self .., ⟨ep, ne e (fun _ _ _ z => by cases z)⟩, let ⟨ep, e⟩ := r.pdc; ⟨ep, ne e (fun _ _ _ z => by cases z)⟩,
    fun j hj => ne (r.rec_ j (hK j hj)) (fun _ _ _ z => by unfold stoO recO at z; injection z with z1 z2; cases z1), fun j hj => ne (r.prc j hj) (fun _ _ _ z => by unfold stoO prcO at z; injection z with z1 z2; cases z1), r.nS, h0, r.nP, fun j hj => r.nrc j (hK j hj), r.npr, hP, fun i hi j hj => r.rin i (hK i hi) j (hK j hj), r.pin, hz⟩

noncomputable def al (m : Mdl) (ch : Int → List Int) (f : Int) : List Int := (ch f).filter fun k => liv (m.rc k)
def Same (r r' : Rec) : Prop := r'.key = r.key ∧ r'.fn = r.fn ∧ r'.birth = r.birth ∧ r'.death = r.death ∧ r'.ik = r.ik
/-- the store in the midst of a sweep -/
structure Sw (m : Mdl) (ch : Int → List Int) (μ : Mdl) (ds us : List Int) : Prop where
  keys : μ.keys = m.keys
  nxt : μ.nxt = m.nxt
  gen : μ.gen = m.gen
  pks : μ.pks = m.pks
  rc : ∀ k, Same (m.rc k) (μ.rc k)
  pr : ∀ f, (μ.pr f).fn = (m.pr f).fn ∧ (μ.pr f).kind = (m.pr f).kind
  un : ∀ f ∈ us, μ.pr f = m.pr f ∧ ∀ k ∈ ch f, μ.rc k = m.rc k
  dn : ∀ f ∈ ds, Path m.keys μ.nx (μ.pr f).first (al m ch f) ∧ (μ.pr f).last = (al m ch f).getLastD (-1)
theorem Same.refl (r : Rec) : Same r r := ⟨rfl, rfl, rfl, rfl, rfl⟩
theorem Sw.next {ch : Int → List Int} {μ : Mdl} {ds us : List Int} (s : Sw m ch μ ds us) {k v : Int} (h : ∀ f ∈ ds ++ us, k ∉ ch f) : Sw m ch (μ.setNext k v) ds us := by
  have hne : ∀ f ∈ ds ++ us, ∀ j ∈ ch f, (fset μ.rc k { μ.rc k with next := v }) j = μ.rc j := fun f hf j hj => fset_ne fun z => h f hf (z ▸ hj)
  refine ⟨s.keys, s.nxt, s.gen, s.pks, fun j => ?_, s.pr, fun f hf => ⟨(s.un f hf).1, fun j hj => (hne f (List.mem_append_right _ hf) j hj).trans ((s.un f hf).2 j hj)⟩, fun f hf => ⟨(s.dn f hf).1.frame fun j hj => ⟨?_, ((s.dn f hf).1.mem j hj).2⟩, (s.dn f hf).2⟩⟩
  · show Same (m.rc j) (fset μ.rc k { μ.rc k with next := v } j)
    by_cases z : j = k
    · subst z; rw [fset_self]; exact s.rc j
    · rw [fset_ne z]; exact s.rc j
  · show ((fset μ.rc k { μ.rc k with next := v }) j).next = (μ.rc j).next
    rw [hne f (List.mem_append_left _ hf) j (List.mem_filter.mp hj).1]
theorem Sw.proc {ch : Int → List Int} {μ : Mdl} {ds us : List Int} (s : Sw m ch μ ds us) {f : Int} {p : Prc} (h : f ∉ ds ++ us) (h1 : p.fn = (μ.pr f).fn) (h2 : p.kind = (μ.pr f).kind) : Sw m ch (μ.setP f p) ds us := by
  have hne : ∀ g ∈ ds ++ us, (fset μ.pr f p) g = μ.pr g := fun g hg => fset_ne fun z => h (z ▸ hg)
  refine ⟨s.keys, s.nxt, s.gen, s.pks, s.rc, fun g => ?_, fun g hg => ⟨(hne g (List.mem_append_right _ hg)).trans (s.un g hg).1, (s.un g hg).2⟩, fun g hg => ?_⟩
  · show ((fset μ.pr f p) g).fn = _ ∧ ((fset μ.pr f p) g).kind = _
    by_cases z : g = f
    · subst z; rw [fset_self, h1, h2]; exact s.pr g
    · rw [fset_ne z]; exact s.pr g
  · show Path m.keys μ.nx ((fset μ.pr f p) g).first _ ∧ ((fset μ.pr f p) g).last = _
    rw [hne g (List.mem_append_left _ hg)]
    exact s.dn g hg
end

section
variable {W : Wd} {φ₀ φ : AH} {a : Adr} {m : Mdl}
theorem Sw.good {ch : Int → List Int} {μ : Mdl} (g : Good m ch) (s : Sw m ch μ m.pks []) {K : List Int} (hK : K = (m.pks.map (al m ch)).flatten) (hn : K.Nodup) : Good { μ with keys := K } (al m ch) := by
  have mem : ∀ k, k ∈ K ↔ ∃ f ∈ m.pks, k ∈ al m ch f := fun k => by
    rw [hK, List.mem_flatten]
    constructor
    · rintro ⟨l, hl, hk⟩; obtain ⟨f, hf, rfl⟩ := List.mem_map.mp hl; exact ⟨f, hf, hk⟩
    · rintro ⟨f, hf, hk⟩; exact ⟨_, List.mem_map_of_mem hf, hk⟩
  have sub : ∀ k ∈ K, k ∈ m.keys := fun k hk => by
    obtain ⟨f, hf, h⟩ := (mem k).mp hk
    exact (g.kin k).mpr ⟨f, hf, (List.mem_filter.mp h).1⟩
  refine ⟨hn, fun k => by rw [mem k]; show _ ↔ ∃ f ∈ μ.pks, _; rw [s.pks], ?_, ?_, ?_, ?_, ?_, ?_, ?_, ?_, ?_, ?_, ?_, ?_, ?_⟩
  · intro f hf
    have hf : f ∈ m.pks := s.pks ▸ hf
    exact (s.dn f hf).1.frame fun k hk => ⟨rfl, (mem k).mpr ⟨f, hf, hk⟩⟩
  · intro f hf
    exact (s.dn f (s.pks ▸ hf)).2
  · intro f hf
    exact List.Pairwise.filter _ (g.nodup f (s.pks ▸ hf))
  · intro f hf k hk
    exact (s.rc k).2.1.trans (g.fn f (s.pks ▸ hf) k (List.mem_filter.mp hk).1)
  · intro k hk
    exact (s.rc k).1.trans (g.key k (sub k hk))
  · intro k hk
    have h1 := g.born k (sub k hk)
    have h2 := (s.rc k).2.2.1
    show 1 ≤ (μ.rc k).birth ∧ (μ.rc k).birth ≤ μ.gen
    rw [h2, s.gen]; exact h1
  · intro k hk
    have h1 := g.died k (sub k hk)
    show (μ.rc k).death < 0 ∨ ((μ.rc k).birth < (μ.rc k).death ∧ (μ.rc k).death ≤ μ.gen)
    rw [(s.rc k).2.2.1, (s.rc k).2.2.2.1, s.gen]; exact h1
  · intro k hk
    show 0 ≤ k ∧ k < μ.nxt
    rw [s.nxt]; exact g.rng k (sub k hk)
  · intro f hf
    exact (s.pr f).1.trans (g.pfn f (s.pks ▸ hf))
  · intro f hf h
    have : (m.pr f).kind ≠ "dynamic" := (s.pr f).2 ▸ h
    unfold al
    rw [g.kind f (s.pks ▸ hf) this]; rfl
  · show μ.pks.Nodup
    rw [s.pks]; exact g.pnd
  · show 0 ≤ μ.gen
    rw [s.gen]; exact g.gen0
  · show 0 ≤ μ.nxt
    rw [s.nxt]; exact g.nxt0
theorem Sw.less {ch : Int → List Int} {μ : Mdl} {ds us us' : List Int} (s : Sw m ch μ ds us) (h : ∀ f ∈ us', f ∈ us) : Sw m ch μ ds us' := ⟨s.keys, s.nxt, s.gen, s.pks, s.rc, s.pr, fun f hf => s.un f (h f hf), s.dn⟩
theorem Sw.more {ch : Int → List Int} {μ : Mdl} {ds us : List Int} (s : Sw m ch μ ds us) {f : Int} (h : Path m.keys μ.nx (μ.pr f).first (al m ch f) ∧ (μ.pr f).last = (al m ch f).getLastD (-1)) : Sw m ch μ (ds ++ [f]) us :=
  ⟨s.keys, s.nxt, s.gen, s.pks, s.rc, s.pr, s.un, fun g hg => by
    rcases List.mem_append.mp hg with hg | hg
    · exact s.dn g hg
    · rw [List.mem_singleton.mp hg]; exact h⟩
theorem Sw.setFirst {ch : Int → List Int} {μ : Mdl} {ds us : List Int} (s : Sw m ch μ ds us) {f v : Int} (h : f ∉ ds ++ us) : Sw m ch (μ.setFirst f v) ds us := s.proc (p := { μ.pr f with first := v }) h rfl rfl
theorem Sw.setLast {ch : Int → List Int} {μ : Mdl} {ds us : List Int} (s : Sw m ch μ ds us) {f v : Int} (h : f ∉ ds ++ us) : Sw m ch (μ.setLast f v) ds us := s.proc (p := { μ.pr f with last := v }) h rfl rfl
/-- what a turn of the inner loop makes -/
noncomputable def swS (μ : Mdl) (f k : Int) : Mdl := (if (μ.pr f).first < 0 then μ.setFirst f k else μ.setNext (μ.pr f).last k)
noncomputable def swE (μ : Mdl) (f k : Int) : Mdl := (μ.setNext k (-1)).setLast f k
theorem sw_turn {ch : Int → List Int} (g : Good m ch) {μ : Mdl} {ds us l : List Int} {f k : Int} (s : Sw m ch μ ds us) (hf : f ∉ ds ++ us) (hp : f ∈ m.pks) (hds : ∀ f' ∈ ds ++ us, f' ∈ m.pks) (hl : ∀ j ∈ l, j ∈ ch f) (hk : k ∈ ch f) (hn : k ∉ l)
    (h1 : Path m.keys μ.nx (μ.pr f).first l) (h2 : (μ.pr f).last = l.getLastD (-1)) (hnd : l.Nodup) :
    Sw m ch (swE (swS μ f k) f k) ds us ∧ Path m.keys (swE (swS μ f k) f k).nx ((swE (swS μ f k) f k).pr f).first (l ++ [k]) ∧ ((swE (swS μ f k) f k).pr f).last = (l ++ [k]).getLastD (-1) := by
  have hkk := (g.kin k).mpr ⟨f, hp, hk⟩
  have h0 := (g.rng k hkk).1
  have hother : ∀ j ∈ ch f, ∀ f' ∈ ds ++ us, j ∉ ch f' := fun j hj f' hf' z => hf ((g.fn f hp j hj).symm.trans (g.fn f' (hds f' hf') j z) ▸ hf')
  by_cases hc : (μ.pr f).first < 0
  · have hl0 : l = [] := by
      cases l with
      | nil => rfl
      | cons j l => have := h1.1; have := h1.2.1; omega
    subst hl0
    have e : swS μ f k = μ.setFirst f k := if_pos hc
    rw [e]
    refine ⟨((s.setFirst hf).next (hother k hk)).setLast hf, ?_, ?_⟩
    · refine ⟨?_, h0, hkk, ?_⟩
      · show ((fset (fset μ.pr f _) f _) f).first = k
        rw [fset_self]
        show ((fset μ.pr f _) f).first = k
        rw [fset_self]
      · show ((fset μ.rc k _) k).next < 0
        rw [fset_self]; exact (show (-1 : Int) < 0 by decide)
    · show ((fset (fset μ.pr f _) f _) f).last = k
      rw [fset_self]
  · have hl0 : l ≠ [] := by intro z; subst z; exact hc h1
    obtain ⟨l', e'⟩ := split_last hl0 (-1)
    rw [← h2] at e'
    generalize hq : (μ.pr f).last = q at *
    have hqm : q ∈ l := by rw [e']; simp
    have hqk : k ≠ q := fun z => hn (z ▸ hqm)
    have e : swS μ f k = μ.setNext q k := by unfold swS; rw [if_neg hc, hq]
    rw [e]
    refine ⟨((s.next (hother q (hl q hqm))).next (hother k hk)).setLast hf, ?_, ?_⟩
    · show Path m.keys _ ((fset μ.pr f _) f).first _
      rw [fset_self, e']
      rw [e'] at h1 hnd
      refine path_snoc (nx := μ.nx) h1 h0 hkk ?_ ?_ fun j hj => ?_
      · show (fset (fset μ.rc q _) k _ q).next = k
        rw [fset_ne (Ne.symm hqk), fset_self]
      · show (fset (fset μ.rc q _) k _ k).next < 0
        rw [fset_self]; exact (show (-1 : Int) < 0 by decide)
      · show (fset (fset μ.rc q _) k _ j).next = (μ.rc j).next
        have hjk : j ≠ k := fun z => hn (by rw [e', ← z]; exact List.mem_append_left _ hj)
        have hjq : j ≠ q := fun z => (List.nodup_append.mp hnd).2.2 j hj q (by simp) z
        rw [fset_ne hjk, fset_ne hjq]
    · show ((fset μ.pr f _) f).last = _
      rw [fset_self, getLastD_snoc]
structure R2 (φ₀ φ : AH) (a : Adr) (m : Mdl) (d : Addr) (D : List (Int × AV)) (l : Addr) (ys : List AV) (pv : List (Int × AV)) (pe : Nat) : Prop where
  rep : Rep φ₀ φ a m
  hd : ∃ ep, φ d = some (.idict D ep)
  hl : φ l = some (.list ys)
  hp : φ a.P = some (.idict pv pe)
theorem R2.setP {d : Addr} {D : List (Int × AV)} {l : Addr} {ys : List AV} {pv : List (Int × AV)} {pe : Nat} (r : R2 φ₀ φ a m d D l ys pv pe) {f : Int} (hf : f ∈ m.pks) (v : Prc) : R2 φ₀ (upd φ (a.pa f) (prcO v)) a (m.setP f v) d D l ys pv pe := by
  have e := r.rep.prc f hf
  obtain ⟨ep, h1⟩ := r.hd
  have h2 := r.hl
  have h3 := r.hp
  refine ⟨r.rep.setP hf v, ⟨ep, ?_⟩, ?_, ?_⟩
  · rw [upd_ne (fun z => by rw [z, e] at h1; cases h1)]; exact h1
  · rw [upd_ne (fun z => by rw [z, e] at h2; cases h2)]; exact h2
  · rw [upd_ne (fun z => by rw [z, e] at h3; cases h3)]; exact h3
theorem R2.setR {d : Addr} {D : List (Int × AV)} {l : Addr} {ys : List AV} {pv : List (Int × AV)} {pe : Nat} (r : R2 φ₀ φ a m d D l ys pv pe) {k : Int} (hk : k ∈ m.keys) (v : Rec) : R2 φ₀ (upd φ (a.ra k) (recO v)) a (m.setR k v) d D l ys pv pe := by
  have e := r.rep.rec_ k hk
  obtain ⟨ep, h1⟩ := r.hd
  have h2 := r.hl
  have h3 := r.hp
  refine ⟨r.rep.setR hk v, ⟨ep, ?_⟩, ?_, ?_⟩
  · rw [upd_ne (fun z => by rw [z, e] at h1; cases h1)]; exact h1
  · rw [upd_ne (fun z => by rw [z, e] at h2; cases h2)]; exact h2
  · rw [upd_ne (fun z => by rw [z, e] at h3; cases h3)]; exact h3
theorem R2.dict {d : Addr} {D D' : List (Int × AV)} {l : Addr} {ys : List AV} {pv : List (Int × AV)} {pe : Nat} {ep : Nat} (r : R2 φ₀ φ a m d D l ys pv pe) (hR : d ≠ a.R) (hP : d ≠ a.P) (h0 : φ₀ d = none) : R2 φ₀ (upd φ d (.idict D' ep)) a m d D' l ys pv pe := by
  obtain ⟨ep₀, h1⟩ := r.hd
  have h2 := r.hl
  refine ⟨r.rep.other h1 hR hP h0, ⟨ep, upd_self ..⟩, ?_, ?_⟩
  · rw [upd_ne (fun z => by rw [z, h1] at h2; cases h2)]; exact h2
  · rw [upd_ne (Ne.symm hP)]; exact r.hp
theorem XS.cut2 {C : FC} {t : Sem Flow} {ρ : Loc} {d l : Addr} {D : List (Int × AV)} {ys : List AV} {pv : List (Int × AV)} {pe : Nat} {R : AF → Loc → AH → Prop} (h : R2 φ₀ φ a m d D l ys pv pe) (k : ∀ φ', R2 φ₀ φ' a m d D l ys pv pe → XS C t ρ φ' R) : Halt (XS C t ρ φ R) := k φ h
theorem fset_id {β : Type} (f : Int → β) (k : Int) : fset f k (f k) = f := by
  funext j
  by_cases z : j = k
  · subst z; rw [fset_self]
  · rw [fset_ne z]
theorem swS_keys (μ : Mdl) (f k : Int) : (swS μ f k).keys = μ.keys ∧ (swS μ f k).pks = μ.pks := by unfold swS; split <;> exact ⟨rfl, rfl⟩
theorem swS_key (μ : Mdl) (f k : Int) : ((swS μ f k).rc k).key = (μ.rc k).key := by
  unfold swS
  split
  · rfl
  · show ((fset μ.rc _ _) k).key = _
    by_cases z : k = (μ.pr f).last
    · rw [← z, fset_self]
    · rw [fset_ne z]
end

section
variable {W : Wd} {φ₀ φ : AH} {a : Adr} {m : Mdl}
theorem s_swe (ok : W.Ok) (F : Facts W.K) (r : Rep φ₀ φ a m) {ch : Int → List Int} (g : Good m ch) : Spec W 3 176 [.ref a.S, .ref a.P] φ
    (fun b φ' => ∃ (a' : Adr) (m' : Mdl), b = .int (m.keys.length - m'.keys.length) ∧ Rep φ₀ φ' a' m' ∧ a'.S = a.S ∧ a'.P = a.P ∧ a'.pa = a.pa ∧ Good m' (al m ch) ∧ m'.gen = m.gen ∧ m'.pks = m.pks ∧ m'.keys = (m.pks.map (al m ch)).flatten ∧ (∀ k, Same (m.rc k) (m'.rc k)) ∧ m'.nxt = m.nxt ∧ ∀ f, (m'.pr f).kind = (m.pr f).kind) := by
  refine spec_def ok (names := ["store", "procs"]) F.aSwe (by walk_at "m bind") rfl (fun A l cd G Rk hRk => ?_)
  show XS _ (execs (_ :: _) _) _ _ _
  walk_at "m s"
  refine ev_dict0 fun d ep hd => ?_
  refine XS.sub (ρ' := [("kept", .ref d), ("store", .ref a.S), ("procs", .ref a.P)]) ?_ (by walk_at "m sub")
  have hdP : d ≠ a.P := by intro z; obtain ⟨ep, e⟩ := r.pdc; rw [← z, hd] at e; cases e
  have hdR : d ≠ a.R := by intro z; obtain ⟨ep, e⟩ := r.rdc; rw [← z, hd] at e; cases e
  have hd0 : φ₀ d = none := r.ext.none hd
  have rI := r.keep (Ext.new (o := .idict [] ep) hd)
  obtain ⟨epP, hpd⟩ := rI.pdc
  have alsub : ∀ f ∈ m.pks, ∀ k ∈ al m ch f, k ∈ ch f ∧ k ∈ m.keys := fun f hf k hk => ⟨(List.mem_filter.mp hk).1, (g.kin k).mpr ⟨f, hf, (List.mem_filter.mp hk).1⟩⟩
  have alnd : ∀ f ∈ m.pks, (al m ch f).Nodup := fun f hf => List.Pairwise.filter _ (g.nodup f hf)
  refine x_for_dict ?_
  walk_at "m s"
  refine ⟨a.P, refs m.pks a.pa, epP, rfl, hpd, fun i ρ φ' => ρ = ([("kept", .ref d), ("store", .ref a.S), ("procs", .ref a.P)] : Loc) ∧ φ' a.P = some (.idict (refs m.pks a.pa) epP) ∧ ∃ (μ : Mdl) (K : List Int), Rep φ₀ φ' a μ ∧ (∃ ep, φ' d = some (.idict (refs K a.ra) ep)) ∧ K = ((m.pks.take i).map (al m ch)).flatten ∧ K.Nodup ∧
    Sw m ch μ (m.pks.take i) (m.pks.drop i), ⟨rfl, hpd, m, [], rI, ⟨ep, upd_self ..⟩, rfl, .nil, ⟨rfl, rfl, rfl, rfl, fun k => Same.refl _, fun f => ⟨rfl, rfl⟩, fun f _ => ⟨rfl, fun k _ => rfl⟩, fun f hf => (by simp at hf)⟩⟩, ?_, ?_⟩
  · rintro i ⟨f, v⟩ _ φ₁ hi ⟨rfl, hP₁, μ, K, r₁, hdd, hK, hKn, sw⟩
    refine ⟨⟨refs m.pks a.pa, rfl, hP₁⟩, asn_name fun Rj hRj => ?_⟩
    have hfi : m.pks[i]? = some f := by
      unfold refs at hi
      rw [List.getElem?_map, Option.map_eq_some_iff] at hi
      obtain ⟨j, h1, h2⟩ := hi
      cases h2; exact h1
    have hf : f ∈ m.pks := List.mem_of_getElem? hfi
    have hfμ : f ∈ μ.pks := sw.pks ▸ hf
    have htk : m.pks.take (i + 1) = m.pks.take i ++ [f] := by rw [List.take_add_one, hfi]; rfl
    have hdr : m.pks.drop i = f :: m.pks.drop (i + 1) := List.drop_eq_getElem?_toList_append.trans (by rw [hfi]; rfl)
    have hfu := sw.un f (by rw [hdr]; simp)
    have hnot : f ∉ m.pks.take i ++ m.pks.drop (i + 1) := by
      have h2 := g.pnd
      rw [← List.take_append_drop i m.pks, hdr] at h2
      obtain ⟨h3, h4, h5⟩ := List.nodup_append.mp h2
      intro z
      rcases List.mem_append.mp z with z | z
      · exact h5 f z f (by simp) rfl
      · exact (List.nodup_cons.mp h4).1 z
    have hall : ∀ f' ∈ m.pks.take i ++ m.pks.drop (i + 1), f' ∈ m.pks := fun f' h => by
      rcases List.mem_append.mp h with h | h
      · exact List.mem_of_mem_take h
      · exact List.mem_of_mem_drop h
    have hS := r₁.sto
    unfold stoO at hS
    show XS _ (execs (_ :: _) _) _ _ _
    walk_at "m s"
    refine subt_idict hP₁ (dget_refs hf) ?_
    walk_at "m s"
    have hpath : Path μ.keys μ.nx (μ.pr f).first (ch f) := by
      rw [hfu.1]
      exact (g.path f hf).frame fun k hk => ⟨by show (μ.rc k).next = (m.rc k).next; rw [hfu.2 k hk], by rw [sw.keys]; exact (g.kin k).mpr ⟨f, hf, hk⟩⟩
    have hlen : (ch f).length ≤ 1000 := Nat.le_trans (nodup_le (g.nodup f hf) fun k hk => (g.kin k).mpr ⟨f, hf, hk⟩) r.sml
    refine cal_spec ((s_cha ok F r₁ hfμ hpath hlen).mono ?_)
    rintro _ _ ⟨ld, rfl, hld, rfl⟩
    have hal : ((ch f).filter fun k => vis (μ.rc k) μ.gen) = al m ch f := by
      unfold al
      refine List.filter_congr fun k hk => ?_
      rw [hfu.2 k hk, sw.gen]
      exact g.vis ((g.kin k).mpr ⟨f, hf, hk⟩)
    rw [hal]
    have hdl : d ≠ ld := by intro z; obtain ⟨ep, e⟩ := hdd; rw [z, hld] at e; cases e
    have r₂ : R2 φ₀ (upd φ₁ ld (.list (rlist a.ra (al m ch f)))) a μ d (refs K a.ra) ld (rlist a.ra (al m ch f)) (refs m.pks a.pa) epP := ⟨r₁.keep (Ext.new hld), (by obtain ⟨ep, e⟩ := hdd; exact ⟨ep, by rw [upd_ne hdl]; exact e⟩), upd_self .., Ext.new hld _ _ hP₁⟩
    have hP := r₂.rep.prc f hfμ
    unfold prcO at hP
    walk_at "m s"
    refine XS.cut2 (r₂.setP hfμ { μ.pr f with first := -1 }) fun φ₂ r₂' => ?_
    clear hP
    have hP := r₂'.rep.prc f hfμ
    unfold prcO at hP
    walk_at "m s"
    refine XS.cut2 (r₂'.setP hfμ { (μ.setFirst f (-1)).pr f with last := -1 }) fun φ₃ r₃ => ?_
    clear hP r₂ r₂'
    have sw₃ : Sw m ch ((μ.setFirst f (-1)).setLast f (-1)) (m.pks.take i) (m.pks.drop (i + 1)) := ((sw.less (fun f' h => by rw [hdr]; exact List.mem_cons_of_mem _ h)).setFirst hnot).setLast hnot
    have hKf : ∀ k ∈ K, ∀ k' ∈ ch f, k ≠ k' := fun k hk k' hk' z => by
      subst z
      rw [hK] at hk
      obtain ⟨l, hl, hk⟩ := List.mem_flatten.mp hk
      obtain ⟨f', hf', rfl⟩ := List.mem_map.mp hl
      have h1 := g.fn f' (List.mem_of_mem_take hf') k (List.mem_filter.mp hk).1
      rw [g.fn f hf k hk'] at h1
      exact hnot (List.mem_append_left _ (h1 ▸ hf'))
    have hKs : ∀ k ∈ K, k ∈ m.keys := fun k hk => by
      rw [hK] at hk
      obtain ⟨l, hl, hk⟩ := List.mem_flatten.mp hk
      obtain ⟨f', hf', rfl⟩ := List.mem_map.mp hl
      exact (alsub f' (List.mem_of_mem_take hf') k hk).2
    have hKal : (K ++ al m ch f).Nodup := List.nodup_append.mpr ⟨hKn, alnd f hf, fun x hx y hy => hKf x hx y (alsub f hf y hy).1⟩
    have hKlen : (K ++ al m ch f).length ≤ 1000 := Nat.le_trans (nodup_le hKal fun k hk => by
      rcases List.mem_append.mp hk with h | h
      · exact hKs k h
      · exact (alsub f hf k h).2) r.sml
    refine XS.sub (ρ' := [("living", .ref ld), ("proc", .ref (a.pa f)), ("kept", .ref d), ("store", .ref a.S), ("procs", .ref a.P)]) ?_ (by walk_at "m sub")
    refine x_for_list ?_
    walk_at "m s"
    refine ⟨ld, _, rfl, r₃.hl, fun j ρ φ' => ρ = ([("living", .ref ld), ("proc", .ref (a.pa f)), ("kept", .ref d), ("store", .ref a.S), ("procs", .ref a.P)] : Loc) ∧ ∃ μ' : Mdl, R2 φ₀ φ' a μ' d (refs (K ++ (al m ch f).take j) a.ra) ld (rlist a.ra (al m ch f)) (refs m.pks a.pa) epP ∧
      Sw m ch μ' (m.pks.take i) (m.pks.drop (i + 1)) ∧ Path m.keys μ'.nx (μ'.pr f).first ((al m ch f).take j) ∧ (μ'.pr f).last = ((al m ch f).take j).getLastD (-1), ⟨rfl, _, by rw [List.take_zero, List.append_nil]; exact r₃, sw₃, ?_, ?_⟩, ?_, ?_, go_name⟩
    · show ((fset (fset μ.pr f _) f _) f).first < 0
      rw [fset_self]
      show ((fset μ.pr f _) f).first < 0
      rw [fset_self]; exact (show (-1 : Int) < 0 by decide)
    · show ((fset (fset μ.pr f _) f _) f).last = -1
      rw [fset_self]
    · rintro j x _ φ' hj ⟨rfl, μ', r', sw', hp', hl'⟩
      obtain ⟨k, hk, rfl, ht, hkm⟩ := rlist_get hj
      refine ⟨r'.hl, asn_name fun Rj hRj => ?_⟩
      have hkc := alsub f hf k hkm
      have hkμ : k ∈ μ'.keys := by rw [sw'.keys]; exact hkc.2
      have hfμ' : f ∈ μ'.pks := by rw [sw'.pks]; exact hf
      have hndj : ((al m ch f).take j ++ [k]).Nodup := by rw [← ht]; exact (List.take_sublist _ _).nodup (alnd f hf)
      have hkt : k ∉ (al m ch f).take j := fun z => (List.nodup_append.mp hndj).2.2 k z k (by simp) rfl
      have hkK : k ∉ K ++ (al m ch f).take j := fun z => by
        rcases List.mem_append.mp z with z | z
        · exact hKf k z k hkc.1 rfl
        · exact hkt z
      have htsub : ∀ x ∈ (al m ch f).take j, x ∈ ch f := fun x hx => (alsub f hf x (List.mem_of_mem_take hx)).1
      have turn := sw_turn g sw' hnot hf hall htsub hkc.1 hkt hp' hl' (List.nodup_append.mp hndj).1
      have hkey : (μ'.rc k).key = k := ((sw'.rc k).1).trans (g.key k hkc.2)
      have hPr := r'.rep.prc f hfμ'
      have hRc := r'.rep.rec_ k hkμ
      unfold prcO at hPr
      unfold recO at hRc
      rw [hkey] at hRc
      show XS _ (execs (_ :: _) _) _ _ _
      walk_at "m s"
      refine ⟨fun h => ?g1, fun h => ?g2⟩
      case' g1 =>
        have h := of_decide_eq_true h
        show XS _ (execs (_ :: _) _) _ _ _
        walk_at "m s"
        refine XS.cut2 (r'.setP hfμ' { μ'.pr f with first := k }) fun φ₄ r₄' => ?_
        have r₄ : R2 φ₀ φ₄ a (swS μ' f k) d (refs (K ++ (al m ch f).take j) a.ra) ld (rlist a.ra (al m ch f)) (refs m.pks a.pa) epP := by unfold swS; rw [if_pos h]; exact r₄'
        clear r₄' h
      case' g2 =>
        have h := of_decide_eq_false h
        have hne : (al m ch f).take j ≠ [] := by intro z; rw [z] at hp'; exact h hp'
        have hlm : (μ'.pr f).last ∈ (al m ch f).take j := by rw [hl']; exact getLastD_mem hne _
        have hlk : (μ'.pr f).last ∈ μ'.keys := by rw [sw'.keys]; exact (alsub f hf _ (List.mem_of_mem_take hlm)).2
        obtain ⟨epk, hkd⟩ := r'.hd
        have hRl := r'.rep.rec_ _ hlk
        unfold recO at hRl
        show XS _ (execs (_ :: _) _) _ _ _
        walk_at "m s"
        refine subt_idict hkd (dget_refs (List.mem_append_right _ hlm)) ?_
        walk_at "m s"
        refine XS.cut2 (r'.setR hlk { μ'.rc (μ'.pr f).last with next := k }) fun φ₄ r₄' => ?_
        have r₄ : R2 φ₀ φ₄ a (swS μ' f k) d (refs (K ++ (al m ch f).take j) a.ra) ld (rlist a.ra (al m ch f)) (refs m.pks a.pa) epP := by unfold swS; rw [if_neg h]; exact r₄'
        clear r₄' h
      all_goals
        clear hPr hRc
        have hk₄ : k ∈ (swS μ' f k).keys := by rw [(swS_keys μ' f k).1]; exact hkμ
        have hf₄ : f ∈ (swS μ' f k).pks := by rw [(swS_keys μ' f k).2]; exact hfμ'
        have hRc := r₄.rep.rec_ k hk₄
        unfold recO at hRc
        walk_at "m s"
        refine XS.cut2 (r₄.setR hk₄ { (swS μ' f k).rc k with next := -1 }) fun φ₅ r₅ => ?_
        clear hRc
        have hRc := r₅.rep.rec_ k hk₄
        have hPr := r₅.rep.prc f hf₄
        have hkey₅ : (((swS μ' f k).setR k { (swS μ' f k).rc k with next := -1 }).rc k).key = k := by
          show (fset (swS μ' f k).rc k { (swS μ' f k).rc k with next := -1 } k).key = k
          rw [fset_self]
          exact (swS_key μ' f k).trans hkey
        unfold recO at hRc
        unfold prcO at hPr
        rw [hkey₅] at hRc
        walk_at "m s"
        refine XS.cut2 (r₅.setP hf₄ { ((swS μ' f k).setNext k (-1)).pr f with last := k }) fun φ₆ r₆ => ?_
        clear hRc hPr
        have hRc := r₆.rep.rec_ k hk₄
        unfold recO at hRc
        change _ = some (AO.inst REC [(_, AV.int (((swS μ' f k).setR k { (swS μ' f k).rc k with next := -1 }).rc k).key), _, _, _, _, _, _, _]) at hRc
        rw [hkey₅] at hRc
        obtain ⟨epk, hk6⟩ := r₆.hd
        walk_at "m s"
        refine seti_idict hk6 (fun ep' => ?_) (by rw [refs_len]; have : (K ++ (al m ch f).take j).length ≤ (K ++ al m ch f).length := by simp [List.length_take, Nat.min_le_right]
                                                  omega)
        rw [dset_refs hkK, fset_id]
        walk_at "m s"
        refine LoopK.next [("living", .ref ld), ("proc", .ref (a.pa f)), ("kept", .ref d), ("store", .ref a.S), ("procs", .ref a.P)] (by walk_at "m sub") ⟨rfl, swE (swS μ' f k) f k, ?_, turn.1, by rw [ht]; exact turn.2.1, by rw [ht]; exact turn.2.2⟩
        rw [ht, ← List.append_assoc]
        exact r₆.dict hdR hdP hd0
    · rintro _ φ' ⟨rfl, μ', r', sw', hp', hl'⟩
      refine ⟨r'.hl, ?_⟩
      rw [rlist_len, List.take_length] at hp' hl' r'
      walk_at "m s"
      refine LoopK.next [("kept", .ref d), ("store", .ref a.S), ("procs", .ref a.P)] (by walk_at "m sub") ⟨rfl, r'.hp, μ', K ++ al m ch f, r'.rep, r'.hd, ?_, hKal, ?_⟩
      · rw [htk, List.map_append, List.flatten_append, ← hK]; simp
      · rw [htk]; exact sw'.more ⟨hp', hl'⟩
  · rintro _ φ₁ ⟨rfl, hP₁, μ, K, r₁, ⟨epD, hdd⟩, hK, hKn, sw⟩
    refine ⟨⟨refs m.pks a.pa, rfl, hP₁⟩, ?_⟩
    rw [refs_len, List.take_length] at hK
    rw [refs_len, List.take_length, List.drop_length] at sw
    have hKs : ∀ k ∈ K, k ∈ m.keys := fun k hk => by
      rw [hK] at hk
      obtain ⟨l, hl, hk⟩ := List.mem_flatten.mp hk
      obtain ⟨f, hf, rfl⟩ := List.mem_map.mp hl
      exact (alsub f hf k hk).2
    have hKl : K.length ≤ 1000 := Nat.le_trans (nodup_le hKn hKs) r.sml
    have hS := r₁.sto
    obtain ⟨epR, hR⟩ := r₁.rdc
    unfold stoO at hS
    walk_at "m s"
    refine cal_len_idict hR ?_ (by rw [refs_len, sw.keys]; have := r.sml; omega)
    walk_at "m s"
    refine cal_len_idict hdd ?_ (by rw [refs_len]; omega)
    walk_at "m s"
    refine XS.cutR (r₁.swap hdd hdP hd0 (fun k hk => by rw [sw.keys]; exact hKs k hk) hKl) fun φ₂ r₂ => ?_
    walk_at "m s"
    refine ⟨_, { μ with keys := K }, ?_, r₂, rfl, rfl, rfl, sw.good g hK hKn, sw.gen, sw.pks, hK, sw.rc, sw.nxt, fun f => (sw.pr f).2⟩
    rw [refs_len, refs_len, sw.keys]
end

section
variable {m : Mdl} {ch : Int → List Int}
theorem Good.rc_new (g : Good m ch) {fn : Int} {t i : AV} {k : Int} (h : k ∈ m.keys) : (m.new fn t i).rc k = m.rc k := fset_ne fun z => g.fresh (z ▸ h)
theorem chmem (g : Good m ch) {f : Int} (hf : f ∈ m.pks) {k : Int} (h : k ∈ ch f) : k ∈ m.keys := (g.kin k).mpr ⟨f, hf, h⟩
/-- an entered clause leaves the store good -/
theorem Good.enter (g : Good m ch) {f : Int} (hf : f ∈ m.pks) (hd : (m.pr f).kind = "dynamic") {μ : Mdl} {c : List Int}
    (e1 : μ.keys = m.keys ++ [m.nxt]) (e2 : μ.nxt = m.nxt + 1) (e3 : μ.gen = m.gen + 1) (e4 : μ.pks = m.pks)
    (e5 : ∀ k ∈ m.keys, Same (m.rc k) (μ.rc k)) (e6 : ∀ k ∈ m.keys, k ∉ ch f → (μ.rc k).next = (m.rc k).next)
    (e7 : (μ.rc m.nxt).key = m.nxt ∧ (μ.rc m.nxt).fn = f ∧ (μ.rc m.nxt).birth = m.gen + 1 ∧ (μ.rc m.nxt).death = -1)
    (e8 : ∀ f', f' ≠ f → μ.pr f' = m.pr f') (e9 : (μ.pr f).fn = (m.pr f).fn ∧ (μ.pr f).kind = (m.pr f).kind)
    (p1 : Path μ.keys μ.nx (μ.pr f).first c) (p2 : (μ.pr f).last = c.getLastD (-1)) (p3 : c.Perm (m.nxt :: ch f)) : Good μ (fset ch f c) := by
  have hne : ∀ k ∈ m.keys, k ≠ m.nxt := fun k h z => g.fresh (z ▸ h)
  have hcm : ∀ k, k ∈ c ↔ k = m.nxt ∨ k ∈ ch f := fun k => by rw [p3.mem_iff, List.mem_cons]
  have key : ∀ k ∈ μ.keys, k ∈ m.keys ∨ k = m.nxt := fun k h => by rw [e1] at h; rcases List.mem_append.mp h with h | h; exact .inl h; exact .inr (List.mem_singleton.mp h)
  have och : ∀ f' ∈ m.pks, f' ≠ f → ∀ k ∈ ch f', k ∉ ch f := fun f' hf' hn k hk z => hn ((g.fn f' hf' k hk).symm.trans (g.fn f hf k z))
  refine ⟨?_, fun k => ?_, fun f' hf' => ?_, fun f' hf' => ?_, fun f' hf' => ?_, fun f' hf' k hk => ?_, fun k hk => ?_, fun k hk => ?_, fun k hk => ?_, fun k hk => ?_, fun f' hf' => ?_, fun f' hf' hk => ?_, ?_, ?_, ?_⟩
  · rw [e1]
    exact List.nodup_append.mpr ⟨g.knd, by simp, fun x hx y hy z => hne x hx (z.trans (List.mem_singleton.mp hy))⟩
  · rw [e1, e4, List.mem_append, List.mem_singleton, g.kin k]
    constructor
    · rintro (⟨f', hf', hk⟩ | rfl)
      · by_cases z : f' = f
        · subst z; exact ⟨f', hf', by rw [fset_self]; exact (hcm k).mpr (.inr hk)⟩
        · exact ⟨f', hf', by rw [fset_ne z]; exact hk⟩
      · exact ⟨f, hf, by rw [fset_self]; exact (hcm _).mpr (.inl rfl)⟩
    · rintro ⟨f', hf', hk⟩
      by_cases z : f' = f
      · subst z
        rw [fset_self] at hk
        rcases (hcm k).mp hk with h | h
        · exact .inr h
        · exact .inl ⟨f', hf', h⟩
      · rw [fset_ne z] at hk; exact .inl ⟨f', hf', hk⟩
  · rw [e4] at hf'
    by_cases z : f' = f
    · subst z; rw [fset_self]; exact p1
    · rw [fset_ne z, e8 f' z]
      refine (g.path f' hf').frame fun k hk => ⟨?_, by rw [e1]; exact List.mem_append_left _ (chmem g hf' hk)⟩
      exact e6 k (chmem g hf' hk) (och f' hf' z k hk)
  · rw [e4] at hf'
    by_cases z : f' = f
    · subst z; rw [fset_self]; exact p2
    · rw [fset_ne z, e8 f' z]; exact g.last f' hf'
  · rw [e4] at hf'
    by_cases z : f' = f
    · subst z; rw [fset_self]
      exact p3.nodup_iff.mpr (List.nodup_cons.mpr ⟨fun h => g.fresh (chmem g hf' h), g.nodup f' hf'⟩)
    · rw [fset_ne z]; exact g.nodup f' hf'
  · rw [e4] at hf'
    by_cases z : f' = f
    · subst z
      rw [fset_self] at hk
      rcases (hcm k).mp hk with h | h
      · rw [h]; exact e7.2.1
      · rw [(e5 k (chmem g hf' h)).2.1]; exact g.fn f' hf' k h
    · rw [fset_ne z] at hk
      rw [(e5 k (chmem g hf' hk)).2.1]; exact g.fn f' hf' k hk
  · rcases key k hk with h | rfl
    · rw [(e5 k h).1]; exact g.key k h
    · exact e7.1
  · have := g.gen0
    rcases key k hk with h | rfl
    · rw [(e5 k h).2.2.1, e3]; have := g.born k h; omega
    · rw [e7.2.2.1, e3]; omega
  · rcases key k hk with h | rfl
    · rw [(e5 k h).2.2.1, (e5 k h).2.2.2.1, e3]; have := g.died k h; omega
    · rw [e7.2.2.2]; left; decide
  · have := g.nxt0
    rw [e2]
    rcases key k hk with h | rfl
    · have := g.rng k h; omega
    · omega
  · rw [e4] at hf'
    by_cases z : f' = f
    · subst z; rw [e9.1]; exact g.pfn f' hf'
    · rw [e8 f' z]; exact g.pfn f' hf'
  · rw [e4] at hf'
    by_cases z : f' = f
    · subst z; rw [e9.2] at hk; exact absurd hd hk
    · rw [fset_ne z]; rw [e8 f' z] at hk; exact g.kind f' hf' hk
  · rw [e4]; exact g.pnd
  · rw [e3]; have := g.gen0; omega
  · rw [e2]; have := g.nxt0; omega
theorem Good.neg1 : (-1 : Int) < 0 := by decide
theorem Good.app (g : Good m ch) {f : Int} (hf : f ∈ m.pks) (hd : (m.pr f).kind = "dynamic") (t i : AV) :
    Good (m.app f t i) (fset ch f (ch f ++ [m.nxt])) ∧ (∀ k ∈ m.keys, Same (m.rc k) ((m.app f t i).rc k)) ∧ ((m.app f t i).rc m.nxt).death = -1 := by
  have hp := g.path f hf
  have hfn := g.pfn f hf
  have hperm : (ch f ++ [m.nxt]).Perm (m.nxt :: ch f) := by
    have := List.perm_append_comm (l₁ := ch f) (l₂ := [m.nxt])
    exact this
  have rcn : ∀ k ∈ m.keys, k ≠ m.nxt := fun k h z => g.fresh (z ▸ h)
  unfold Mdl.app
  by_cases hc : (m.pr f).first < 0
  · rw [if_pos hc]
    have h0 : ch f = [] := by
      cases hch : ch f with
      | nil => rfl
      | cons k c => rw [hch] at hp; have := hp.1; have := hp.2.1; omega
    have S : ∀ k ∈ m.keys, Same (m.rc k) ((m.new (m.pr f).fn t i).rc k) := fun k h => by rw [g.rc_new h]; exact Same.refl _
    have N : ((m.new (m.pr f).fn t i).rc m.nxt).key = m.nxt ∧ ((m.new (m.pr f).fn t i).rc m.nxt).fn = f ∧ ((m.new (m.pr f).fn t i).rc m.nxt).birth = m.gen + 1 ∧ ((m.new (m.pr f).fn t i).rc m.nxt).death = -1 := by
      show ((fset m.rc m.nxt _) m.nxt).key = _ ∧ ((fset m.rc m.nxt _) m.nxt).fn = _ ∧ ((fset m.rc m.nxt _) m.nxt).birth = _ ∧ ((fset m.rc m.nxt _) m.nxt).death = _
      rw [fset_self]; exact ⟨rfl, hfn, rfl, rfl⟩
    refine ⟨g.enter hf hd rfl rfl rfl rfl S (fun k h _ => ?_) N (fun f' h => ?_) ?_ ?_ ?_ hperm, S, N.2.2.2⟩
    · show ((m.new (m.pr f).fn t i).rc k).next = _
      rw [g.rc_new h]
    · show (fset (fset m.pr f _) f _) f' = _
      rw [fset_ne h, fset_ne h]
    · show ((fset (fset m.pr f _) f _) f).fn = _ ∧ ((fset (fset m.pr f _) f _) f).kind = _
      rw [fset_self]
      show ((fset m.pr f _) f).fn = _ ∧ ((fset m.pr f _) f).kind = _
      rw [fset_self]; exact ⟨rfl, rfl⟩
    · rw [h0]
      refine ⟨?_, g.nxt0, List.mem_append_right _ (by simp), ?_⟩
      · show ((fset (fset m.pr f _) f _) f).first = _
        rw [fset_self]
        show ((fset m.pr f _) f).first = _
        rw [fset_self]
      · show ((fset m.rc m.nxt _) m.nxt).next < 0
        rw [fset_self]; exact Good.neg1
    · show ((fset (fset m.pr f _) f _) f).last = _
      rw [fset_self, getLastD_snoc]
  · rw [if_neg hc]
    have h0 : ch f ≠ [] := by intro z; rw [z] at hp; exact hc hp
    obtain ⟨l', e'⟩ := split_last h0 (-1)
    rw [← g.last f hf] at e'
    generalize hq : (m.pr f).last = q at *
    have hqm : q ∈ ch f := by rw [e']; simp
    have hqk : q ≠ m.nxt := rcn q (chmem g hf hqm)
    have sm : ∀ k, k ≠ q → ((m.new (m.pr f).fn t i).setNext q m.nxt).rc k = (m.new (m.pr f).fn t i).rc k := fun k h => fset_ne h
    have S : ∀ k ∈ m.keys, Same (m.rc k) (((m.new (m.pr f).fn t i).setNext q m.nxt).rc k) := fun k h => by
      by_cases z : k = q
      · subst z
        show Same _ (fset _ k _ k)
        rw [fset_self]
        show Same (m.rc k) { (m.new (m.pr f).fn t i).rc k with next := m.nxt }
        rw [g.rc_new h]; exact ⟨rfl, rfl, rfl, rfl, rfl⟩
      · rw [sm k z, g.rc_new h]; exact Same.refl _
    have N : (((m.new (m.pr f).fn t i).setNext q m.nxt).rc m.nxt).key = m.nxt ∧ (((m.new (m.pr f).fn t i).setNext q m.nxt).rc m.nxt).fn = f ∧ (((m.new (m.pr f).fn t i).setNext q m.nxt).rc m.nxt).birth = m.gen + 1 ∧ (((m.new (m.pr f).fn t i).setNext q m.nxt).rc m.nxt).death = -1 := by
      rw [sm _ (Ne.symm hqk)]
      show ((fset m.rc m.nxt _) m.nxt).key = _ ∧ ((fset m.rc m.nxt _) m.nxt).fn = _ ∧ ((fset m.rc m.nxt _) m.nxt).birth = _ ∧ ((fset m.rc m.nxt _) m.nxt).death = _
      rw [fset_self]; exact ⟨rfl, hfn, rfl, rfl⟩
    refine ⟨g.enter hf hd rfl rfl rfl rfl S (fun k h hn => ?_) N (fun f' h => ?_) ?_ ?_ ?_ hperm, S, N.2.2.2⟩
    · show (((m.new (m.pr f).fn t i).setNext q m.nxt).rc k).next = _
      rw [sm k fun z => hn (z ▸ hqm), g.rc_new h]
    · show (fset m.pr f _) f' = _
      rw [fset_ne h]
    · show ((fset m.pr f _) f).fn = _ ∧ ((fset m.pr f _) f).kind = _
      rw [fset_self]; exact ⟨rfl, rfl⟩
    · show Path _ _ ((fset m.pr f _) f).first _
      rw [fset_self, e']
      show Path (m.keys ++ [m.nxt]) (fun k => (((m.new (m.pr f).fn t i).setNext q m.nxt).rc k).next) (m.pr f).first _
      rw [e'] at hp
      have hnd := g.nodup f hf
      rw [e'] at hnd
      refine path_snoc (nx := m.nx) (hp.frame fun k hk => ⟨rfl, List.mem_append_left _ (hp.mem k hk).2⟩) g.nxt0 (List.mem_append_right _ (by simp)) ?_ ?_ fun j hj => ?_
      · show (fset (m.new (m.pr f).fn t i).rc q { (m.new (m.pr f).fn t i).rc q with next := m.nxt } q).next = m.nxt
        rw [fset_self]
      · show ((((m.new (m.pr f).fn t i).setNext q m.nxt)).rc m.nxt).next < 0
        rw [sm _ (Ne.symm hqk)]
        show ((fset m.rc m.nxt _) m.nxt).next < 0
        rw [fset_self]; exact Good.neg1
      · have hjq : j ≠ q := fun z => (List.nodup_append.mp hnd).2.2 j hj q (by simp) z
        show ((((m.new (m.pr f).fn t i).setNext q m.nxt)).rc j).next = (m.rc j).next
        rw [sm _ hjq, g.rc_new (hp.mem j (List.mem_append_left _ hj)).2]
    · show ((fset m.pr f _) f).last = _
      rw [fset_self, getLastD_snoc]
theorem Good.pre (g : Good m ch) {f : Int} (hf : f ∈ m.pks) (hd : (m.pr f).kind = "dynamic") (t i : AV) :
    Good (m.pre f t i) (fset ch f (m.nxt :: ch f)) ∧ (∀ k ∈ m.keys, Same (m.rc k) ((m.pre f t i).rc k)) ∧ ((m.pre f t i).rc m.nxt).death = -1 := by
  have hp := g.path f hf
  have hfn := g.pfn f hf
  have hla := g.last f hf
  -- both halves end alike
  have fin : ∀ m2 : Mdl, m2.keys = m.keys ++ [m.nxt] → m2.nxt = m.nxt + 1 → m2.gen = m.gen + 1 → m2.pks = m.pks → m2.rc = (m.new (m.pr f).fn t i).rc → (∀ f', f' ≠ f → m2.pr f' = m.pr f') → (m2.pr f).fn = (m.pr f).fn → (m2.pr f).kind = (m.pr f).kind → (m2.pr f).first = (m.pr f).first → (m2.pr f).last = (m.nxt :: ch f).getLastD (-1) →
      Good (m2.preEnd f m.nxt) (fset ch f (m.nxt :: ch f)) ∧ (∀ k ∈ m.keys, Same (m.rc k) ((m2.preEnd f m.nxt).rc k)) ∧ ((m2.preEnd f m.nxt).rc m.nxt).death = -1 := by
    intro m2 a1 a2 a3 a4 a5 a6 a7 a8 a9 a10
    have R : ∀ k ∈ m.keys, (m2.preEnd f m.nxt).rc k = m.rc k := fun k h => by
      show (fset m2.rc m.nxt _) k = _
      rw [fset_ne (show k ≠ m.nxt from fun z => g.fresh (z ▸ h)), a5, g.rc_new h]
    have Rn : (m2.preEnd f m.nxt).rc m.nxt = { (⟨m.nxt, (m.pr f).fn, t, i, m.gen + 1, -1, -1⟩ : Rec) with next := (m.pr f).first } := by
      show (fset m2.rc m.nxt _) m.nxt = _
      rw [fset_self, a5, a9]
      show { (fset m.rc m.nxt _) m.nxt with next := (m.pr f).first } = _
      rw [fset_self]
    have S : ∀ k ∈ m.keys, Same (m.rc k) ((m2.preEnd f m.nxt).rc k) := fun k h => by rw [R k h]; exact Same.refl _
    refine ⟨g.enter hf hd a1 a2 a3 a4 S (fun k h _ => by rw [R k h]) (by rw [Rn]; exact ⟨rfl, hfn, rfl, rfl⟩) (fun f' h => ?_) ?_ ?_ ?_ (List.Perm.refl _), S, by rw [Rn]⟩
    · show (fset m2.pr f _) f' = _
      rw [fset_ne h]; exact a6 f' h
    · show ((fset m2.pr f _) f).fn = _ ∧ ((fset m2.pr f _) f).kind = _
      rw [fset_self]; exact ⟨a7, a8⟩
    · refine ⟨?_, g.nxt0, ?_, ?_⟩
      · show ((fset m2.pr f _) f).first = _
        rw [fset_self]
      · show m.nxt ∈ m2.keys
        rw [a1]; simp
      · show Path m2.keys _ ((m2.preEnd f m.nxt).rc m.nxt).next (ch f)
        rw [Rn]
        refine hp.frame fun k hk => ⟨?_, by rw [a1]; exact List.mem_append_left _ (chmem g hf hk)⟩
        show ((m2.preEnd f m.nxt).rc k).next = (m.rc k).next
        rw [R k (chmem g hf hk)]
    · show ((fset m2.pr f _) f).last = _
      rw [fset_self]; exact a10
  unfold Mdl.pre
  by_cases hc : (m.pr f).first < 0
  · rw [if_pos hc]
    have h0 : ch f = [] := by
      cases hch : ch f with
      | nil => rfl
      | cons k c => rw [hch] at hp; have := hp.1; have := hp.2.1; omega
    refine fin _ rfl rfl rfl rfl rfl (fun f' h => ?_) ?_ ?_ ?_ ?_
    · show (fset m.pr f _) f' = _
      rw [fset_ne h]
    · show ((fset m.pr f _) f).fn = _
      rw [fset_self]; rfl
    · show ((fset m.pr f _) f).kind = _
      rw [fset_self]; rfl
    · show ((fset m.pr f _) f).first = _
      rw [fset_self]; rfl
    · show ((fset m.pr f _) f).last = _
      rw [fset_self, h0]; rfl
  · rw [if_neg hc]
    have h0 : ch f ≠ [] := by intro z; rw [z] at hp; exact hc hp
    refine fin _ rfl rfl rfl rfl rfl (fun f' h => rfl) rfl rfl rfl ?_
    show (m.pr f).last = _
    rw [hla]
    cases hch : ch f with
    | nil => exact absurd hch h0
    | cons k c => rfl
theorem al_app {μ : Mdl} {f : Int} (g : Good m ch) (hf : f ∈ m.pks) (S : ∀ k ∈ m.keys, Same (m.rc k) (μ.rc k)) (N : (μ.rc m.nxt).death = -1) :
    (∀ f' ∈ m.pks, f' ≠ f → ∀ c, al μ (fset ch f c) f' = al m ch f') ∧ al μ (fset ch f (ch f ++ [m.nxt])) f = al m ch f ++ [m.nxt] ∧ al μ (fset ch f (m.nxt :: ch f)) f = m.nxt :: al m ch f := by
  have key : ∀ f' ∈ m.pks, (ch f').filter (fun k => liv (μ.rc k)) = al m ch f' := fun f' hf' => List.filter_congr fun k hk => by unfold liv; rw [(S k (chmem g hf' hk)).2.2.2.1]
  have hn : liv (μ.rc m.nxt) = true := by unfold liv; rw [N]; rfl
  refine ⟨fun f' hf' hne c => ?_, ?_, ?_⟩
  · show ((fset ch f c) f').filter _ = _
    rw [fset_ne hne]; exact key f' hf'
  · show ((fset ch f _) f).filter _ = _
    rw [fset_self, List.filter_append, key f hf, List.filter_cons, if_pos hn]; rfl
  · show ((fset ch f _) f).filter _ = _
    rw [fset_self, List.filter_cons, if_pos hn, key f hf]
/-- deaths leave the store good -/
theorem Good.mods (g : Good m ch) {μ : Mdl} (e1 : μ.keys = m.keys) (e2 : μ.nxt = m.nxt) (e3 : m.gen ≤ μ.gen) (e4 : μ.pks = m.pks) (e5 : μ.pr = m.pr)
    (e6 : ∀ k, (μ.rc k).key = (m.rc k).key ∧ (μ.rc k).fn = (m.rc k).fn ∧ (μ.rc k).birth = (m.rc k).birth ∧ (μ.rc k).next = (m.rc k).next) (e7 : ∀ k ∈ m.keys, (μ.rc k).death = (m.rc k).death ∨ (m.gen < μ.gen ∧ (μ.rc k).death = μ.gen)) : Good μ ch := by
  refine ⟨e1 ▸ g.knd, fun k => ?_, fun f hf => ?_, fun f hf => ?_, fun f hf => g.nodup f (e4 ▸ hf), fun f hf k hk => ?_, fun k hk => ?_, fun k hk => ?_, fun k hk => ?_, fun k hk => ?_, fun f hf => ?_, fun f hf => ?_, e4 ▸ g.pnd, ?_, ?_⟩
  · rw [e1, e4]; exact g.kin k
  · rw [e5]; exact (g.path f (e4 ▸ hf)).frame fun k hk => ⟨(e6 k).2.2.2, by rw [e1]; exact chmem g (e4 ▸ hf) hk⟩
  · rw [e5]; exact g.last f (e4 ▸ hf)
  · rw [(e6 k).2.1]; exact g.fn f (e4 ▸ hf) k hk
  · rw [(e6 k).1]; exact g.key k (e1 ▸ hk)
  · rw [(e6 k).2.2.1]; have := g.born k (e1 ▸ hk); omega
  · have hk := e1 ▸ hk
    have h1 := g.born k hk
    have h2 := g.died k hk
    rw [(e6 k).2.2.1]
    rcases e7 k hk with h | h
    · rw [h]; omega
    · rw [h.2]; omega
  · rw [e2]; exact g.rng k (e1 ▸ hk)
  · rw [e5]; exact g.pfn f (e4 ▸ hf)
  · rw [e5]; exact g.kind f (e4 ▸ hf)
  · have := g.gen0; omega
  · rw [e2]; exact g.nxt0
theorem Good.era (g : Good m ch) {k : Int} (hk : k ∈ m.keys) : Good ({ m with gen := m.gen + 1 }.setR k { m.rc k with death := m.gen + 1 }) ch ∧
    ∀ f, al ({ m with gen := m.gen + 1 }.setR k { m.rc k with death := m.gen + 1 }) ch f = (al m ch f).filter fun j => decide (j ≠ k) := by
  have R : ∀ j, j ≠ k → ({ m with gen := m.gen + 1 }.setR k { m.rc k with death := m.gen + 1 }).rc j = m.rc j := fun j h => fset_ne h
  have Rk : ({ m with gen := m.gen + 1 }.setR k { m.rc k with death := m.gen + 1 }).rc k = { m.rc k with death := m.gen + 1 } := fset_self ..
  have h0 := g.gen0
  refine ⟨g.mods rfl rfl (by show m.gen ≤ m.gen + 1; omega) rfl rfl (fun j => ?_) fun j hj => ?_, fun f => ?_⟩
  · by_cases z : j = k
    · subst z; rw [Rk]; exact ⟨rfl, rfl, rfl, rfl⟩
    · rw [R j z]; exact ⟨rfl, rfl, rfl, rfl⟩
  · by_cases z : j = k
    · subst z; rw [Rk]; exact .inr ⟨by show m.gen < m.gen + 1; omega, rfl⟩
    · rw [R j z]; exact .inl rfl
  · unfold al
    rw [List.filter_filter]
    refine List.filter_congr fun j _ => ?_
    by_cases z : j = k
    · subst z
      rw [Rk]
      have : ¬ m.gen + 1 < 0 := by omega
      simp [liv, this]
    · rw [R j z]; simp [z]
theorem Good.kil (g : Good m ch) {f : Int} (hf : f ∈ m.pks) : Good (killN { m with gen := if al m ch f = [] then m.gen else m.gen + 1 } (al m ch f)) ch ∧
    (∀ f' ∈ m.pks, f' ≠ f → al (killN { m with gen := if al m ch f = [] then m.gen else m.gen + 1 } (al m ch f)) ch f' = al m ch f') ∧ al (killN { m with gen := if al m ch f = [] then m.gen else m.gen + 1 } (al m ch f)) ch f = [] := by
  have h0 := g.gen0
  refine ⟨g.mods rfl rfl ?_ rfl rfl (fun j => ?_) fun j hj => ?_, fun f' hf' hne => ?_, ?_⟩
  · show m.gen ≤ if al m ch f = [] then m.gen else m.gen + 1
    split
    · exact Int.le_refl _
    · omega
  · show (if j ∈ al m ch f then _ else m.rc j).key = _ ∧ (if j ∈ al m ch f then _ else m.rc j).fn = _ ∧ (if j ∈ al m ch f then _ else m.rc j).birth = _ ∧ (if j ∈ al m ch f then _ else m.rc j).next = _
    split <;> exact ⟨rfl, rfl, rfl, rfl⟩
  · by_cases z : j ∈ al m ch f
    · right
      have hne : al m ch f ≠ [] := by intro y; rw [y] at z; cases z
      constructor
      · show m.gen < if al m ch f = [] then m.gen else m.gen + 1
        rw [if_neg hne]; omega
      · show (if j ∈ al m ch f then _ else m.rc j).death = _
        rw [if_pos z]; rfl
    · left
      show (if j ∈ al m ch f then _ else m.rc j).death = _
      rw [if_neg z]
  · refine List.filter_congr fun j hj => ?_
    have z : j ∉ al m ch f := fun z => hne ((g.fn f' hf' j hj).symm.trans (g.fn f hf j (List.mem_filter.mp z).1))
    show liv (if j ∈ al m ch f then _ else m.rc j) = _
    rw [if_neg z]
  · refine List.filter_eq_nil_iff.mpr fun j hj => ?_
    show ¬ liv (if j ∈ al m ch f then _ else m.rc j) = true
    by_cases z : j ∈ al m ch f
    · rw [if_pos z]
      have hne : al m ch f ≠ [] := by intro y; rw [y] at z; cases z
      rw [if_neg hne]
      unfold liv
      simp only [decide_eq_true_eq]
      omega
    · rw [if_neg z]
      exact fun y => z (List.mem_filter.mpr ⟨hj, y⟩)
end

def Chg (d : Addr) (φ φ' : AH) : Prop := ∀ b o, b ≠ d → φ b = some o → φ' b = some o
theorem Chg.upd {d : Addr} {φ : AH} {o : AO} : Chg d φ (upd φ d o) := fun b o hb e => by rw [upd_ne hb]; exact e
theorem Ext.chg {d : Addr} {φ φ' : AH} (x : Ext φ φ') : Chg d φ φ' := fun b o _ e => x b o e
theorem Chg.trans {d : Addr} {φ φ' φ'' : AH} (x : Chg d φ φ') (y : Chg d φ' φ'') : Chg d φ φ'' := fun b o h e => y b o h (x b o h e)
theorem Chg.ext {d : Addr} {φ φ' : AH} (x : Chg d φ φ') (h : φ d = none) : Ext φ φ' := fun b o e => x b o (fun z => by rw [z, h] at e; cases e) e
theorem ep_some {C : FC} {ρ : Loc} {φ : AH} {Q : AV → AH → Prop} {e : Expr} (h : EV C (eval e C.env) ρ φ Q) : EV C (evalPart (some e) C.env) ρ φ Q := h
theorem fmod_rng {a b : Int} (h : 0 < b) : 0 ≤ a.fmod b ∧ a.fmod b < b := ⟨Int.fmod_nonneg_of_pos a h, Int.fmod_lt_of_pos a h⟩
theorem Sub.under {ρ ρ' : Loc} (h : Sub ρ ρ') (x : Str) (v : AV) : Sub ((x, v) :: ρ) ((x, v) :: ρ') := fun y u e => by
  rw [List.lookup_cons] at e ⊢
  cases z : (y == x) with
  | true => rw [z] at e; exact e
  | false => rw [z] at e; exact h y u e
noncomputable def fBody : Stmt → List Stmt
  | .For (body := b) .. => b
  | _ => []
section
variable {W : Wd} {φ : AH}
theorem s_dig (ok : W.Ok) (F : Facts W.K) {sc : Addr} {vs : List Value} {ns : List Int} (hl : W.g.IsList sc vs.toArray) (hi : IntsAre vs ns) (hz : ns.length ≤ 1000) :
    Spec W 1 197 [.ref sc] φ (fun b φ' => ∃ (d : Addr) (ks : List Int), b = .ref d ∧ φ d = none ∧ Ext φ φ' ∧ φ' d = some (.list (ks.map .int)) ∧ ks.length ≤ 150) := by
  refine spec_def ok (names := ["script"]) F.aDig (by walk_at "m bind") rfl (fun A l cd G Rk hRk => ?_)
  show XS _ (execs (_ :: _) _) _ _ _
  walk_at "m s"
  refine ev_list ?_
  walk_at "m s"
  refine ⟨Nat.zero_le _, fun d hd => ?_⟩
  have Ed := Ext.new (o := .list []) hd
  walk_at "m s"
  refine x_for_list ?_
  walk_at "m s"
  refine ep_none ?_
  refine ep_some ?_
  walk_at "m s"
  refine slc_base (b := 60) hl hi (fun L hL => ?_) (by omega)
  have hLd : L ≠ d := by intro z; rw [z, upd_self] at hL; cases hL
  have len60 : (ns.take 60).length ≤ 60 := by rw [List.length_take]; omega
  generalize ns.take 60 = js at *
  refine ⟨L, js.map .int, rfl, upd_self .., fun i ρ φ' => Sub ([("drawer", .ref d)] : Loc) ρ ∧ Ext φ φ' ∧ φ' L = some (.list (js.map .int)) ∧ ∃ ks : List Int, φ' d = some (.list (ks.map .int)) ∧ ks.length ≤ 12 * i, ⟨by walk_at "m sub", Ed.trans (Ext.new hL), upd_self .., [], by rw [upd_ne (Ne.symm hLd), upd_self]; rfl, Nat.zero_le _⟩, ?_, ?_, go_name⟩
  · rintro i x ρ φ₁ hi ⟨hsub, E1, hL1, ks, hd1, hks⟩
    refine ⟨hL1, asn_name fun Rj hRj => ?_⟩
    rw [List.getElem?_map, Option.map_eq_some_iff] at hi
    obtain ⟨c, hc, rfl⟩ := hi
    have hilt : i < js.length := (List.getElem?_eq_some_iff.mp hc).1
    refine XS.sub (ρ' := [("cell", .int c), ("drawer", .ref d)]) ?_ (hsub.under "cell" (.int c))
    · show XS _ (execs (_ :: _) _) _ _ _
      walk_at "m s"
      refine cal_abs ?_
      walk_at "m s"
      have go : ∀ r : Int, XS ⟨W, A, envX "_law_digits" (dScope (st1 12)) l 197 cd []⟩ (execs ((fBody ((dBody (st1 12))[1]!)).drop 1) (envX "_law_digits" (dScope (st1 12)) l 197 cd [])) (("rest_of", AV.int r) :: ([("cell", .int c), ("drawer", .ref d)] : Loc)) φ₁ Rj := by
        intro r
        show XS _ (execs (_ :: _) _) _ _ _
        refine x_for_range ?_
        walk_at "m s"
        refine cal_range fun rg hrg => ?_
        have hrL : L ≠ rg := by intro z; rw [← z, hL1] at hrg; cases hrg
        have hrd : d ≠ rg := by intro z; rw [← z, hd1] at hrg; cases hrg
        refine ⟨rg, 12, rfl, upd_self .., by decide, fun j ρ φ' => ∃ r : Int, Sub ([("rest_of", .int r), ("drawer", .ref d)] : Loc) ρ ∧ Ext φ φ' ∧ φ' L = some (.list (js.map .int)) ∧ ∃ ks : List Int, φ' d = some (.list (ks.map .int)) ∧ ks.length ≤ 12 * i + j, ?_, ?_, ?_⟩
        · exact ⟨r, by walk_at "m sub", E1.trans (Ext.new hrg), by rw [upd_ne hrL]; exact hL1, ks, by rw [upd_ne hrd]; exact hd1, hks⟩
        · rintro j ρ φ₂ hj ⟨r, hsub2, E2, hL2, ks2, hd2, hks2⟩
          refine asn_name fun Rj2 hRj2 => XS.sub ?_ (hsub2.under "lap" (.int j))
          show XS _ (execs (_ :: _) _) _ _ _
          have hLd2 : d ≠ L := by intro z; exact hLd z.symm
          walk_at "m s"
          refine mth_append hd2 ?_
          walk_at "m s"
          refine bin_mod (by decide) ?_
          walk_at "m s"
          refine cal_append hd2 ?_ (by rw [List.length_map]; omega)
          have hd3 : upd φ₂ d (.list (ks2.map AV.int ++ [.int (r.fmod 900)])) d = some (.list ((ks2 ++ [r.fmod 900]).map .int)) := by rw [upd_self]; simp
          have hL3 : upd φ₂ d (.list (ks2.map AV.int ++ [.int (r.fmod 900)])) L = some (.list (js.map .int)) := by rw [upd_ne hLd]; exact hL2
          have E3 : Ext φ (upd φ₂ d (.list (ks2.map AV.int ++ [.int (r.fmod 900)]))) := E2.put hd
          generalize upd φ₂ d (.list (ks2.map AV.int ++ [.int (r.fmod 900)])) = φ₃ at *
          walk_at "m s"
          refine bin_fdiv (by decide) (by decide) ?_
          walk_at "m s"
          refine ⟨fun h => ?_, fun h => ?_⟩
          · walk_at "m s"
            refine LoopK.next ([("drawer", .ref d)] : Loc) (by walk_at "m sub") ⟨Sub.refl _, E3, hL3, _, hd3, by simp; omega⟩
          · walk_at "m s"
            exact LoopK.next ([("rest_of", .int (r.fdiv 900)), ("drawer", .ref d)] : Loc) (by walk_at "m sub") ⟨_, Sub.refl _, E3, hL3, _, hd3, by simp; omega⟩
        · rintro ρ φ₂ ⟨r, hsub2, E2, hL2, ks2, hd2, hks2⟩
          refine XS.sub ?_ hsub2
          walk_at "m s"
          exact LoopK.next ([("drawer", .ref d)] : Loc) (by walk_at "m sub") ⟨Sub.refl _, E2, hL2, _, hd2, by omega⟩
      refine ⟨fun h => ?_, fun h => ?_⟩
      · walk_at "m s"
        exact go _
      · walk_at "m s"
        exact go _
  · rintro ρ φ₁ ⟨hsub, E1, hL1, ks, hd1, hks⟩
    refine ⟨hL1, XS.sub ?_ hsub⟩
    rw [List.length_map] at hks
    have hkl : ks.length ≤ 1000 := by omega
    walk_at "m s"
    refine ep_none ?_
    refine ep_some ?_
    walk_at "m s"
    refine slc_upto (b := 150) hd1 (fun d2 hd2 => ?_) (by rw [List.length_map]; omega)
    rw [← List.map_take]
    walk_at "m s"
    refine mth_reverse (upd_self ..) ?_
    refine cal_reverse (upd_self ..) ?_ (by rw [List.length_map, List.length_take]; omega)
    rw [upd_upd, ← List.map_reverse]
    walk_at "m s"
    exact ⟨d2, (ks.take 150).reverse, rfl, E1.none hd2, E1.trans (Ext.new hd2), upd_self .., by rw [List.length_reverse, List.length_take]; omega⟩
theorem s_cho (ok : W.Ok) (F : Facts W.K) {d : Addr} {ks : List Int} {many : Int} (hd : φ d = some (.list (ks.map .int))) (hz : ks.length ≤ 1000) (hm : 0 < many) :
    Spec W 1 204 [.ref d, .int many] φ (fun b φ' => ∃ (v : Int) (ks' : List Int), b = .int v ∧ 0 ≤ v ∧ v < many ∧ Chg d φ φ' ∧ φ' d = some (.list (ks'.map .int)) ∧ ks'.length ≤ ks.length) := by
  refine spec_def ok (names := ["drawer", "many"]) F.aCho (by walk_at "m bind") rfl (fun A l cd G Rk hRk => ?_)
  show XS _ (execs (_ :: _) _) _ _ _
  walk_at "m s"
  refine ev_list ?_
  walk_at "m s"
  refine ⟨Nat.zero_le _, fun e he => ?_⟩
  have hde : d ≠ e := by intro z; rw [← z, hd] at he; cases he
  have hd1 : upd φ e (.list []) d = some (.list (ks.map .int)) := by rw [upd_ne hde]; exact hd
  refine cmp_neL (k := []) hd1 (upd_self ..) ?_
  walk_at "m s"
  refine ⟨fun h => ?_, fun h => ?_⟩
  · have hne : ks ≠ [] := by intro z; rw [z] at h; simp at h
    have hsp : ks = ks.dropLast ++ [ks.getLast hne] := (List.dropLast_concat_getLast hne).symm
    have hd2 : upd φ e (.list []) d = some (.list (ks.dropLast.map AV.int ++ [.int (ks.getLast hne)])) := by
      rw [hd1]
      conv => lhs; rw [hsp]
      rw [List.map_append]; rfl
    walk_at "m s"
    refine mth_pop hd2 ?_
    refine cal_pop hd2 ?_ (by rw [List.length_map, List.length_dropLast]; omega)
    walk_at "m s"
    refine bin_mod (by omega) ?_
    refine hRk _ _ _ ?_
    exact ⟨_, ks.dropLast, rfl, (fmod_rng hm).1, (fmod_rng hm).2, (Ext.new he).chg.trans Chg.upd, upd_self .., by rw [List.length_dropLast]; omega⟩
  · walk_at "m s"
    exact ⟨0, ks, rfl, Int.le_refl _, hm, (Ext.new he).chg, hd1, Nat.le_refl _⟩
end

theorem upd_same {φ : AH} {a : Addr} {o : AO} (h : φ a = some o) : upd φ a o = φ := by
  funext b
  by_cases z : b = a
  · subst z; rw [upd_self, h]
  · rw [upd_ne z]
def Out (a : Adr) (m : Mdl) (b : Addr) : Prop := b ≠ a.S ∧ b ≠ a.R ∧ b ≠ a.P ∧ (∀ k ∈ m.keys, b ≠ a.ra k) ∧ (∀ f ∈ m.pks, b ≠ a.pa f)
section
variable {W : Wd} {φ₀ φ φ' : AH} {a : Adr} {m : Mdl}
open Classical in
theorem Rep.big (r : Rep φ₀ φ a m) : ∃ φ₁, Rep φ₁ φ a m ∧ Ext φ₀ φ₁ ∧ ∀ b o, φ b = some o → Out a m b → φ₁ b = some o := by
  refine ⟨fun b => if Out a m b then φ b else none, ?_, fun b o e => ?_, fun b o e h => by show (if Out a m b then φ b else none) = _; rw [if_pos h]; exact e⟩
  · refine ⟨fun b o e => ?_, r.sto, r.rdc, r.pdc, r.rec_, r.prc, if_neg fun h => h.1 rfl, if_neg fun h => h.2.1 rfl, if_neg fun h => h.2.2.1 rfl, fun k hk => if_neg fun h => h.2.2.2.1 k hk rfl, fun f hf => if_neg fun h => h.2.2.2.2 f hf rfl, r.hRP, r.rin, r.pin, r.sml⟩
    have e : (if Out a m b then φ b else none) = some o := e
    split at e
    · exact e
    · cases e
  · show (if Out a m b then φ b else none) = _
    rw [if_pos]
    · exact r.ext b o e
    · refine ⟨fun z => ?_, fun z => ?_, fun z => ?_, fun k hk z => ?_, fun f hf z => ?_⟩
      · rw [z, r.nS] at e; cases e
      · rw [z, r.nR] at e; cases e
      · rw [z, r.nP] at e; cases e
      · rw [z, r.nrc k hk] at e; cases e
      · rw [z, r.npr f hf] at e; cases e
theorem Rep.outO (r : Rep φ₀ φ a m) {b : Addr} {o : AO} (e : φ b = some o) (h1 : b ≠ a.R) (h2 : b ≠ a.P) (h3 : o.notInst) : Out a m b := by
  refine ⟨fun z => ?_, h1, h2, fun k hk z => ?_, fun f hf z => ?_⟩
  · rw [z, r.sto] at e; cases e; exact h3
  · rw [z, r.rec_ k hk] at e; cases e; exact h3
  · rw [z, r.prc f hf] at e; cases e; exact h3
def AO.notD : AO → Prop
  | .idict .. => False
  | _ => True
theorem Rep.outN (r : Rep φ₀ φ a m) {b : Addr} {o : AO} (e : φ b = some o) (h1 : o.notInst) (h2 : o.notD) : Out a m b :=
  r.outO e (fun z => by obtain ⟨ep, h⟩ := r.rdc; rw [z, h] at e; cases e; exact h2) (fun z => by obtain ⟨ep, h⟩ := r.pdc; rw [z, h] at e; cases e; exact h2) h1
/-- something outside the store is changed -/
theorem Rep.chg (r : Rep φ₀ φ a m) {d : Addr} (h : Out a m d) (h0 : φ₀ d = none) (c : Chg d φ φ') : Rep φ₀ φ' a m :=
  ⟨fun b o e => c b o (fun z => by rw [z, h0] at e; cases e) (r.ext b o e), c _ _ (Ne.symm h.1) r.sto, let ⟨ep, e⟩ := r.rdc; ⟨ep, c _ _ (Ne.symm h.2.1) e⟩, let ⟨ep, e⟩ := r.pdc; ⟨ep, c _ _ (Ne.symm h.2.2.1) e⟩,
    fun k hk => c _ _ (Ne.symm (h.2.2.2.1 k hk)) (r.rec_ k hk), fun f hf => c _ _ (Ne.symm (h.2.2.2.2 f hf)) (r.prc f hf), r.nS, r.nR, r.nP, r.nrc, r.npr, r.hRP, r.rin, r.pin, r.sml⟩
theorem dset_in {ra : Int → Addr} {k : Int} {x : Addr} {ks : List Int} (h : k ∈ ks) : dset k (.ref x) (refs ks ra) = refs ks (fset ra k x) := by
  unfold dset
  rw [any_refs, decide_eq_true h]
  simp only [if_true]
  unfold refs
  rw [List.map_map]
  refine List.map_congr_left fun j hj => ?_
  by_cases z : j = k
  · subst z; simp [fset_self]
  · simp [fset_ne z, z]
theorem Good.keys_len {ch : Int → List Int} (g : Good m ch) {n : Nat} (h : m.nxt ≤ n) : m.keys.length ≤ n := by
  have h2 : m.keys.length ≤ ((List.range n).map fun (i : Nat) => (i : Int)).length := nodup_le g.knd fun k hk => by
    have := g.rng k hk
    exact List.mem_map.mpr ⟨k.toNat, List.mem_range.mpr (by omega), by omega⟩
  simpa using h2
theorem lookup_one {x y : Str} {α : Type} {v w : α} (h : List.lookup y [(x, v)] = some w) : y = x ∧ w = v := by
  rw [List.lookup_cons] at h
  cases z : (y == x) with
  | true => rw [z] at h; cases h; exact ⟨beq_iff_eq.mp z, rfl⟩
  | false => rw [z] at h; cases h
theorem in01 {s : Int} (h0 : 0 ≤ s) (h1 : s < 2) : s ∈ ([0, 1] : List Int) := by
  have : s = 0 ∨ s = 1 := by omega
  rcases this with rfl | rfl <;> decide

/-- the kinds of a first argument -/
abbrev VK : List PK := [.s "var"]
noncomputable def mat (k c : List PK) : Bool := decide (k = VK) || decide (c = VK) || decide (k = c)
noncomputable def kd (tk : Addr → List PK) : AV → List PK
  | .ref t => tk t
  | _ => []
theorem TupAt.ext {g : Heap} {t : Addr} {ks : List PK} (h : TupAt g φ t ks) (x : Ext φ φ') : TupAt g φ' t ks := h.imp (x _ _) id
theorem var_at (ok : W.Ok) (F : Facts W.K) : TupAt W.g φ VKA VK := by
  obtain ⟨d, n, sl, t, e⟩ := F.var
  refine .inr ⟨_, ⟨_, ok.X _ _ e, rfl, _, rfl⟩, ?_⟩
  exact .cons ⟨t, rfl⟩ .nil
def Iks (W : Wd) (φ : AH) (tk : Addr → List PK) (m : Mdl) : Prop := tk VKA = VK ∧ ∀ k ∈ m.keys, ∃ t, (m.rc k).ik = .ref t ∧ TupAt W.g φ t (tk t)
theorem Iks.ext {tk : Addr → List PK} (h : Iks W φ tk m) (x : Ext φ φ') : Iks W φ' tk m := ⟨h.1, fun k hk => let ⟨t, e1, e2⟩ := h.2 k hk; ⟨t, e1, e2.ext x⟩⟩
/-- what a clause shows at g to a look for w -/
noncomputable def fit (tk : Addr → List PK) (m : Mdl) (g : Int) (w : List PK) (k : Int) : Bool := vis (m.rc k) g && mat (kd tk (m.rc k).ik) w

theorem s_mat (ok : W.Ok) (F : Facts W.K) {x y : Addr} {k c : List PK} (hx : TupAt W.g φ x k) (hy : TupAt W.g φ y c) : Spec W 1 29 [.ref x, .ref y] φ (fun b φ' => φ' = φ ∧ b = .bool (mat k c)) := by
  refine spec_def ok (names := ["key", "cell_key"]) F.aMat (by walk_at "m bind") rfl (fun A l cd G Rk hRk => ?_)
  show XS _ (execs (_ :: _) _) _ _ _
  have hv := var_at ok F (φ := φ)
  walk_at "m s"
  refine cmp_eqT hx hv ?_
  walk_at "m s"
  refine ⟨fun h => ?_, fun h => ?_⟩
  · refine if_t ?_
    walk_at "m s"
    refine ⟨rfl, ?_⟩
    simp [mat, h]
  · walk_at "m s"
    refine cmp_eqT hy hv ?_
    walk_at "m s"
    refine ⟨fun h' => ?_, fun h' => ?_⟩
    · refine if_t ?_
      walk_at "m s"
      refine ⟨rfl, ?_⟩
      simp [mat, h']
    · walk_at "m s"
      refine if_f ?_
      walk_at "m s"
      refine cmp_eqT hx hy ?_
      walk_at "m s"
      refine ⟨rfl, ?_⟩
      simp [mat, h, h']
theorem s_liv (ok : W.Ok) (F : Facts W.K) (r : Rep φ₀ φ a m) {tk : Addr → List PK} (ik : Iks W φ tk m) {p g : Int} {t : Addr} (ht : TupAt W.g φ t (tk t)) {c : List Int} (hp : Path m.keys m.nx p c) : Spec W 2 127 [.ref a.S, .int p, .int g, .ref t] φ
    (fun b φ' => φ' = φ ∧ b = .int ((c.find? (fit tk m g (tk t))).getD (-1))) := by
  refine spec_def ok (names := ["self", "place", "g", "cell_key"]) F.aLiv (by walk_at "m bind") rfl (fun A l cd G Rk hRk => ?_)
  show XS _ (execs (_ :: _) _) _ _ _
  refine XS.sub (ρ' := [("place", .int p), ("self", .ref a.S), ("g", .int g), ("cell_key", .ref t)]) ?_ (by walk_at "m sub")
  refine x_while (fun k ρ φ' => ∃ c2 p, k = c2.length ∧ Path m.keys m.nx p c2 ∧ c.find? (fit tk m g (tk t)) = c2.find? (fit tk m g (tk t)) ∧ ρ = ([("place", .int p), ("self", .ref a.S), ("g", .int g), ("cell_key", .ref t)] : Loc) ∧ φ' = φ) c.length ⟨c, p, rfl, hp, rfl, rfl, rfl⟩ ?_
  rintro _ _ _ ⟨c2, p, rfl, hp2, hfi, rfl, rfl⟩
  walk_at "m s"
  refine ⟨fun h Rj hRj => ?_, fun h => ?_⟩
  · have h := of_decide_eq_true h
    cases c2 with
    | nil => have : p < 0 := hp2; omega
    | cons k c3 =>
      obtain ⟨rfl, _, hk, hp3⟩ := hp2
      have hS := r.sto
      obtain ⟨ep, hD⟩ := r.rdc
      have hR := r.rec_ p hk
      obtain ⟨tt, eik, htt⟩ := ik.2 p hk
      have fitp : fit tk m g (tk t) p = (vis (m.rc p) g && mat (tk tt) (tk t)) := by unfold fit; rw [eik]; rfl
      unfold stoO at hS
      unfold recO at hR
      rw [eik] at hR
      show XS _ (execs (_ :: _) _) _ _ _
      walk_at "m s"
      refine subt_idict hD (dget_refs hk) ?_
      walk_at "m s"
      refine cal_spec ((s_vis ok F (r.rec_ p hk)).mono ?_)
      rintro _ _ ⟨rfl, rfl⟩
      walk_at "m s"
      refine ⟨fun hv => ?_, fun hv => ?_⟩
      · walk_at "m s"
        refine cal_spec ((s_mat ok F htt ht).mono ?_)
        rintro _ _ ⟨rfl, rfl⟩
        walk_at "m s"
        refine ⟨fun hm => ?_, fun hm => ?_⟩
        · walk_at "m s"
          refine if_t ?_
          walk_at "m s"
          refine ⟨rfl, ?_⟩
          rw [hfi, List.find?_cons, fitp, hv, hm]; rfl
        · refine if_f ?_
          walk_at "m s"
          exact WhileK.next c3.length [("place", .int (m.rc p).next), ("self", .ref a.S), ("g", .int g), ("cell_key", .ref t)] (Nat.lt_succ_self _) (by walk_at "m sub") ⟨c3, _, rfl, hp3, by rw [hfi, List.find?_cons, fitp, hv, hm]; rfl, rfl, rfl⟩
      · refine if_f ?_
        walk_at "m s"
        exact WhileK.next c3.length [("place", .int (m.rc p).next), ("self", .ref a.S), ("g", .int g), ("cell_key", .ref t)] (Nat.lt_succ_self _) (by walk_at "m sub") ⟨c3, _, rfl, hp3, by rw [hfi, List.find?_cons, fitp, hv]; rfl, rfl, rfl⟩
  · have h : ¬ 0 ≤ p := of_decide_eq_false h
    cases c2 with
    | cons k c3 => exact absurd (hp2.1 ▸ hp2.2.1) h
    | nil =>
      walk_at "m s"
      exact ⟨rfl, by rw [hfi]; rfl⟩
theorem s_fir (ok : W.Ok) (F : Facts W.K) (r : Rep φ₀ φ a m) {tk : Addr → List PK} (ik : Iks W φ tk m) {f g : Int} (hf : f ∈ m.pks) {t : Addr} (ht : TupAt W.g φ t (tk t)) {c : List Int} (hp : Path m.keys m.nx (m.pr f).first c) : Spec W 3 134 [.ref a.S, .ref (a.pa f), .int g, .ref t] φ
    (fun b φ' => φ' = φ ∧ b = .int ((c.find? (fit tk m g (tk t))).getD (-1))) := by
  refine spec_def ok (names := ["self", "proc", "g", "key"]) F.aFir (by walk_at "m bind") rfl (fun A l cd G Rk hRk => ?_)
  show XS _ (execs (_ :: _) _) _ _ _
  have hS := r.sto
  have hP := r.prc f hf
  unfold stoO at hS
  unfold prcO at hP
  walk_at "m s"
  refine cal_spec ((s_liv ok F r ik ht hp).mono ?_)
  rintro _ _ ⟨rfl, rfl⟩
  walk_at "m s"
  exact ⟨rfl, rfl⟩
theorem s_nxt (ok : W.Ok) (F : Facts W.K) (r : Rep φ₀ φ a m) {tk : Addr → List PK} (ik : Iks W φ tk m) {k g : Int} (hk : k ∈ m.keys) {t : Addr} (ht : TupAt W.g φ t (tk t)) {c : List Int} (hp : Path m.keys m.nx (m.rc k).next c) : Spec W 3 141 [.ref a.S, .int k, .int g, .ref t] φ
    (fun b φ' => φ' = φ ∧ b = .int ((c.find? (fit tk m g (tk t))).getD (-1))) := by
  refine spec_def ok (names := ["self", "record_key", "g", "key"]) F.aNxt (by walk_at "m bind") rfl (fun A l cd G Rk hRk => ?_)
  show XS _ (execs (_ :: _) _) _ _ _
  have hS := r.sto
  have hR := r.rec_ k hk
  obtain ⟨ep, hD⟩ := r.rdc
  unfold stoO at hS
  unfold recO at hR
  walk_at "m s"
  refine subt_idict hD (dget_refs hk) ?_
  walk_at "m s"
  refine cal_spec ((s_liv ok F r ik ht hp).mono ?_)
  rintro _ _ ⟨rfl, rfl⟩
  walk_at "m s"
  exact ⟨rfl, rfl⟩
abbrev walL (a : Adr) (f : Int) (d : Addr) (g : Int) (t : Addr) (s : Int) : Loc := [("spot", .int s), ("found", .ref d), ("shelf", .ref a.S), ("proc", .ref (a.pa f)), ("when", .int g), ("wanted", .ref t)]
abbrev WalI (φ : AH) (a : Adr) (m : Mdl) (tk : Addr → List PK) (f g : Int) (t d : Addr) (c : List Int) : Nat → Loc → AH → Prop := fun k ρ φ' => ∃ c1 c2 q, k = c2.length ∧ c = c1 ++ c2 ∧ Path m.keys m.nx q c2 ∧ ρ = walL a f d g t ((c2.find? (fit tk m g (tk t))).getD (-1)) ∧ φ' = upd φ d (.list ((c1.filter (fit tk m g (tk t))).map .int))
theorem s_wal (ok : W.Ok) (F : Facts W.K) (r : Rep φ₀ φ a m) {tk : Addr → List PK} (ik : Iks W φ tk m) {f g : Int} (hf : f ∈ m.pks) {t : Addr} (ht : TupAt W.g φ t (tk t)) {c : List Int} (hp : Path m.keys m.nx (m.pr f).first c) (hz : c.length < 60) : Spec W 4 216 [.ref a.S, .ref (a.pa f), .int g, .ref t] φ
    (fun b φ' => ∃ d, b = .ref d ∧ φ d = none ∧ φ' = upd φ d (.list ((c.filter (fit tk m g (tk t))).map .int))) := by
  refine spec_def ok (names := ["shelf", "proc", "when", "wanted"]) F.aWal (by walk_at "m bind") rfl (fun A l cd G Rk hRk => ?_)
  show XS _ (execs (_ :: _) _) _ _ _
  walk_at "m s"
  refine ev_list ?_
  walk_at "m s"
  refine ⟨Nat.zero_le _, fun d hd => ?_⟩
  have keep : ∀ o, Rep φ₀ (upd φ d o) a m ∧ Iks W (upd φ d o) tk m ∧ TupAt W.g (upd φ d o) t (tk t) := fun o => ⟨r.keep (Ext.new hd), ik.ext (Ext.new hd), ht.ext (Ext.new hd)⟩
  obtain ⟨r1, i1, t1⟩ := keep (.list [])
  have hS := r1.sto
  unfold stoO at hS
  walk_at "m s"
  refine cal_spec ((s_fir ok F r1 i1 hf t1 hp).mono ?_)
  rintro _ _ ⟨rfl, rfl⟩
  walk_at "m s"
  refine XS.sub (ρ' := walL a f d g t ((c.find? (fit tk m g (tk t))).getD (-1))) ?_ (by walk_at "m sub")
  refine x_while (WalI φ a m tk f g t d c) c.length ⟨[], c, _, rfl, rfl, hp, rfl, rfl⟩ ?_
  clear hS r1 i1 t1
  rintro _ _ _ ⟨c1, c2, q, rfl, hc, hq, rfl, rfl⟩
  obtain ⟨r1, i1, t1⟩ := keep (.list ((c1.filter (fit tk m g (tk t))).map .int))
  have hl1 : (c1.filter (fit tk m g (tk t))).length ≤ c1.length := List.length_filter_le _ _
  have hl2 : c.length = c1.length + c2.length := by rw [hc, List.length_append]
  cases hfi : c2.find? (fit tk m g (tk t)) with
  | none =>
    walk_at "m s"
    refine ⟨fun h => absurd (of_decide_eq_true h) (by show ¬ (0 : Int) ≤ -1; decide), fun h => if_f ?_⟩
    walk_at "m s"
    refine ⟨d, rfl, hd, ?_⟩
    have : c2.filter (fit tk m g (tk t)) = [] := List.filter_eq_nil_iff.mpr fun x hx => by simpa using List.find?_eq_none.mp hfi x hx
    rw [hc, List.filter_append, this, List.append_nil]
  | some k =>
    obtain ⟨hpk, as, bs, he, hno⟩ := List.find?_eq_some_iff_append.mp hfi
    rw [he] at hq
    obtain ⟨q', _, hq'⟩ := Path.seg hq
    obtain ⟨_, hk0, hkk, hpb⟩ := hq'
    have has : as.filter (fit tk m g (tk t)) = [] := List.filter_eq_nil_iff.mpr fun x hx => by have := hno x hx; simpa using this
    have hl3 : c2.length = as.length + (bs.length + 1) := by rw [he]; simp
    have hS := r1.sto
    unfold stoO at hS
    walk_at "m s"
    refine ⟨fun _ => ?_, fun h => absurd hk0 (of_decide_eq_false h)⟩
    walk_at "m s"
    refine cal_len_list (upd_self ..) ?_ (by rw [List.length_map]; omega)
    walk_at "m s"
    refine ⟨fun _ => ?_, fun h => absurd (of_decide_eq_false h) (fun z => z (by rw [List.length_map]; omega))⟩
    walk_at "m s"
    refine if_t fun Rj hRj => ?_
    show XS _ (execs (_ :: _) _) _ _ _
    walk_at "m s"
    refine mth_append (upd_self ..) ?_
    walk_at "m s"
    refine cal_append (upd_self ..) ?_ (by rw [List.length_map]; omega)
    have e2 : (c1.filter (fit tk m g (tk t))).map AV.int ++ [.int k] = ((c1 ++ as ++ [k]).filter (fit tk m g (tk t))).map .int := by
      rw [List.filter_append, List.filter_append, has, List.append_nil, List.map_append, List.filter_cons, if_pos hpk]; rfl
    rw [upd_upd]
    show XS _ _ _ (upd φ d (.list ((c1.filter (fit tk m g (tk t))).map AV.int ++ [.int k]))) _
    rw [e2]
    obtain ⟨r2, i2, t2⟩ := keep (.list (((c1 ++ as ++ [k]).filter (fit tk m g (tk t))).map .int))
    clear hS
    have hS := r2.sto
    unfold stoO at hS
    walk_at "m s"
    refine cal_spec ((s_nxt ok F r2 i2 hkk t2 hpb).mono ?_)
    rintro _ _ ⟨rfl, rfl⟩
    walk_at "m s"
    exact WhileK.next bs.length (walL a f d g t ((bs.find? (fit tk m g (tk t))).getD (-1))) (by omega) (by walk_at "m sub") ⟨c1 ++ as ++ [k], bs, _, rfl, by rw [hc, he]; simp, hpb, rfl, rfl⟩
end

noncomputable def oneO (r : Rec) : List (Str × AV) := [("number", .int r.key), ("born", .int r.birth), ("died", .int r.death), ("sort", r.ik)]
theorem rlist_mem {oa : Int → Addr} {ks : List Int} {v : AV} (h : v ∈ rlist oa ks) : ∃ k ∈ ks, v = .ref (oa k) := by
  unfold rlist at h
  obtain ⟨k, hk, rfl⟩ := List.mem_map.mp h
  exact ⟨k, hk, rfl⟩
open Classical in
noncomputable def pk (oa : Int → Addr) (ks : List Int) (c : Int → Bool) : AV → Bool := fun v => decide (∃ k ∈ ks, v = .ref (oa k) ∧ c k = true)
open Classical in
noncomputable def fk (oa : Int → Addr) (ks : List Int) (g : Int → AV) : AV → AV := fun v => if h : ∃ k ∈ ks, v = .ref (oa k) then g (Classical.choose h) else .none
section
variable {oa : Int → Addr} {ks : List Int} (hin : ∀ k ∈ ks, ∀ j ∈ ks, oa k = oa j → k = j)
include hin
open Classical in
theorem pk_at {c : Int → Bool} {k : Int} (hk : k ∈ ks) : pk oa ks c (.ref (oa k)) = c k := by
  unfold pk
  cases h : c k with
  | true => exact decide_eq_true ⟨k, hk, rfl, h⟩
  | false =>
    refine decide_eq_false ?_
    rintro ⟨j, hj, e, hc⟩
    injection e with e
    rw [hin k hk j hj e, hc] at h; cases h
theorem fk_at {g : Int → AV} {k : Int} (hk : k ∈ ks) : fk oa ks g (.ref (oa k)) = g k := by
  unfold fk
  have h : ∃ j ∈ ks, AV.ref (oa k) = .ref (oa j) := ⟨k, hk, rfl⟩
  rw [dif_pos h]
  obtain ⟨h1, h2⟩ := Classical.choose_spec h
  injection h2 with h2
  exact congrArg g (hin k hk _ h1 h2).symm
theorem filter_pk {c : Int → Bool} : (rlist oa ks).filter (pk oa ks c) = rlist oa (ks.filter c) := by
  unfold rlist
  rw [List.filter_map]
  congr 1
  exact List.filter_congr fun k hk => pk_at hin hk
theorem map_fk {g : Int → AV} {js : List Int} (hs : ∀ k ∈ js, k ∈ ks) : (rlist oa js).map (fk oa ks g) = js.map g := by
  unfold rlist
  rw [List.map_map]
  exact List.map_congr_left fun k hk => fk_at hin (hs k hk)
end
structure Rows2 (φ : AH) (D : Addr) (la oa : Int → Addr) (m : Mdl) (ch : Int → List Int) : Prop where
  d : ∃ ep, φ D = some (.idict (refs [0, 1] la) ep)
  l : ∀ f ∈ ([0, 1] : List Int), φ (la f) = some (.list (rlist oa (ch f)))
  o : ∀ k ∈ m.keys, φ (oa k) = some (.sdict (oneO (m.rc k)))
  oin : ∀ k ∈ m.keys, ∀ j ∈ m.keys, oa k = oa j → k = j
theorem Rows2.ext {φ φ' : AH} {D : Addr} {la oa : Int → Addr} {m : Mdl} {ch : Int → List Int} (h : Rows2 φ D la oa m ch) (x : Ext φ φ') : Rows2 φ' D la oa m ch :=
  ⟨let ⟨ep, e⟩ := h.d; ⟨ep, x _ _ e⟩, fun f hf => x _ _ (h.l f hf), fun k hk => x _ _ (h.o k hk), h.oin⟩
section
variable {W : Wd} {φ₀ φ φ' : AH} {a : Adr} {m : Mdl}
theorem s_sho (ok : W.Ok) (F : Facts W.K) {L : Addr} {oa : Int → Addr} {ks : List Int} {rc : Int → Rec} {g : Int} (hL : φ L = some (.list (rlist oa ks))) (ho : ∀ k ∈ ks, φ (oa k) = some (.sdict (oneO (rc k)))) (hin : ∀ k ∈ ks, ∀ j ∈ ks, oa k = oa j → k = j) (hkey : ∀ k ∈ ks, (rc k).key = k) (hz : ks.length ≤ 1000) :
    Spec W 1 209 [.ref L, .int g] φ (fun b φ' => ∃ d, b = .ref d ∧ φ d = none ∧ φ' = upd φ d (.list ((ks.filter fun k => vis (rc k) g).map .int))) := by
  refine spec_defC ok (names := ["line", "when"]) F.aSho (by walk_at "m bind") (fun n => rfl) (fun A l cd G Rk hRk => ?_)
  show XS _ (execs (_ :: _) _) _ _ _
  walk_at "m s"
  refine ev_comp (cl := [("when", l + 1)]) (pk oa ks fun k => vis (rc k) g) (fk oa ks AV.int) [("when", .int g)] rfl (fun y c e => e) (fun y v c e e' => ?_) (fun y v e => ?_) ?_
  · obtain ⟨rfl, rfl⟩ := lookup_one e
    exact e'
  · obtain ⟨rfl, rfl⟩ := lookup_one e
    exact ⟨rfl, l + 1, rfl⟩
  · walk_at "m s"
    refine ⟨L, rlist oa ks, rfl, hL, by rw [rlist_len]; omega, fun Ca D' out hDn G' v hv ρ' hsub' => ?_, fun D' hDn => ?_⟩
    · obtain ⟨k, hk, rfl⟩ := rlist_mem hv
      have ho' := Ext.new (o := .list out) hDn _ _ (ho k hk)
      have hw : List.lookup ("when" : Str) ((("one", AV.ref (oa k)) :: ρ') : Loc) = some (AV.int g) := lk_next rfl (hsub' _ _ rfl)
      unfold oneO at ho'
      refine ⟨tests_one ?_, fun hp => ?_⟩
      · rw [pk_at hin hk]
        walk_at "m e"
        refine ⟨fun h => ?_, fun h => ?_⟩
        · walk_at "m e"
          refine ⟨fun h2 => ?_, fun h2 => ?_⟩
          · refine if_t ?_
            walk_at "m e"
            refine ⟨rfl, ?_⟩
            simp [vis, h, h2]
          · walk_at "m e"
            refine ⟨fun h3 => ?_, fun h3 => ?_⟩
            · refine if_t ?_
              walk_at "m e"
              refine ⟨rfl, ?_⟩
              simp [vis, h, h3]
            · walk_at "m e"
              refine if_f ?_
              refine ⟨rfl, ?_⟩
              simp [vis, h, h2, h3]
        · refine ⟨rfl, ?_⟩
          simp [vis, h]
      · walk_at "m e"
        exact ⟨rfl, by rw [fk_at hin hk, hkey k hk]⟩
    · rw [filter_pk hin, map_fk hin (fun k hk => (List.mem_filter.mp hk).1)]
      walk_at "m s"
      exact ⟨D', rfl, hDn, rfl⟩
end

structure LooH (W : Wd) (φ₀ φ : AH) (a : Adr) (m : Mdl) (ch : Int → List Int) (D : Addr) (la oa : Int → Addr) (tk : Addr → List PK) (so : Addr) (T : List Addr) : Prop where
  rep : Rep φ₀ φ a m
  good : Good m ch
  rows : Rows2 φ D la oa m ch
  pks : m.pks = [0, 1]
  iks : Iks W φ tk m
  so : φ so = some (.list (T.map .ref))
  tup : ∀ t ∈ T, TupAt W.g φ t (tk t)
  len : m.keys.length < 60
section
variable {W : Wd} {φ₀ φ φ' : AH} {a : Adr} {m : Mdl} {ch : Int → List Int} {D : Addr} {la oa : Int → Addr} {tk : Addr → List PK} {so : Addr} {T : List Addr}
theorem LooH.ext (h : LooH W φ₀ φ a m ch D la oa tk so T) (x : Ext φ φ') : LooH W φ₀ φ' a m ch D la oa tk so T :=
  ⟨h.rep.keep x, h.good, h.rows.ext x, h.pks, h.iks.ext x, x _ _ h.so, fun t ht => (h.tup t ht).ext x, h.len⟩
theorem LooH.chl (h : LooH W φ₀ φ a m ch D la oa tk so T) {f : Int} (hf : f ∈ m.pks) : (ch f).length < 60 :=
  Nat.lt_of_le_of_lt (nodup_le (h.good.nodup f hf) fun k hk => chmem h.good hf hk) h.len
abbrev looL (a : Adr) (D so : Addr) (g : Int) : Loc := [("shelf", .ref a.S), ("procs", .ref a.P), ("lines", .ref D), ("when", .int g), ("sorts", .ref so)]
theorem s_loo (ok : W.Ok) (F : Facts W.K) (H : LooH W φ₀ φ a m ch D la oa tk so T) {g : Int} : Spec W 5 221 [.ref a.S, .ref a.P, .ref D, .int g, .ref so] φ (fun b φ' => b = .bool true ∧ Ext φ φ') := by
  refine spec_def ok (names := ["shelf", "procs", "lines", "when", "sorts"]) F.aLoo (by walk_at "m bind") rfl (fun A l cd G Rk hRk => ?_)
  show XS _ (execs (_ :: _) _) _ _ _
  refine x_for_list ?_
  refine ev_list ?_
  walk_at "m s"
  refine ⟨by show 2 ≤ 1000000; decide, fun dw hdw => ?_⟩
  refine ⟨dw, [.int 0, .int 1], rfl, upd_self .., fun i ρ φ' => Sub (looL a D so g) ρ ∧ Ext φ φ' ∧ φ' dw = some (.list [.int 0, .int 1]), ⟨by walk_at "m sub", Ext.new hdw, upd_self ..⟩, ?_, ?_, go_name⟩
  · rintro i x ρ φ₁ hi ⟨hsub, E1, hd1⟩
    refine ⟨hd1, asn_name fun Rj hRj => ?_⟩
    obtain ⟨f, hf, rfl⟩ : ∃ f ∈ ([0, 1] : List Int), x = .int f := by
      have := List.mem_of_getElem? hi
      simp only [List.mem_cons, List.not_mem_nil, or_false] at this
      rcases this with rfl | rfl
      · exact ⟨0, by decide, rfl⟩
      · exact ⟨1, by decide, rfl⟩
    have hfp : f ∈ m.pks := by rw [H.pks]; exact hf
    have hcl := H.chl hfp
    have hkey : ∀ k ∈ ch f, (m.rc k).key = k := fun k hk => H.good.key k (chmem H.good hfp hk)
    have H1 := H.ext E1
    refine XS.sub (ρ' := ("who", .int f) :: looL a D so g) ?_ (hsub.under "who" (.int f))
    clear hsub
    show XS _ (execs (_ :: _) _) _ _ _
    obtain ⟨epD, hD⟩ := H1.rows.d
    walk_at "m s"
    refine subt_idict hD (dget_refs hf) ?_
    walk_at "m s"
    refine cal_spec ((s_sho ok F (H1.rows.l f hf) (fun k hk => H1.rows.o k (chmem H.good hfp hk)) (fun k hk j hj => H1.rows.oin k (chmem H.good hfp hk) j (chmem H.good hfp hj)) hkey (by omega)).mono ?_)
    rintro _ _ ⟨d1, rfl, hd1n, rfl⟩
    have E2 : Ext φ₁ (upd φ₁ d1 (.list (((ch f).filter fun k => vis (m.rc k) g).map .int))) := Ext.new hd1n
    have hdue := upd_self φ₁ d1 (.list (((ch f).filter fun k => vis (m.rc k) g).map .int))
    generalize upd φ₁ d1 (.list (((ch f).filter fun k => vis (m.rc k) g).map .int)) = φ₂ at *
    have hdw2 := E2 _ _ hd1
    have H2 := H1.ext E2
    clear hD hd1 hd1n
    have E02 := E1.trans E2
    clear E1 E2 H1
    have hS := H2.rep.sto
    obtain ⟨epP, hP⟩ := H2.rep.pdc
    unfold stoO at hS
    walk_at "m s"
    refine ev_comp (cl := []) (fun _ => true) (fk a.ra ((ch f).filter fun k => vis (m.rc k) g) AV.int) [] rfl (fun y c e => (by cases e)) (fun y v c e e' => (by cases e)) (fun y v e => (by cases e)) ?_
    walk_at "m s"
    refine subt_idict hP (dget_refs hfp) ?_
    walk_at "m s"
    refine cal_spec ((s_cha ok F H2.rep hfp (H2.good.path f hfp) (by omega)).mono ?_)
    rintro _ _ ⟨d2, rfl, hd2n, rfl⟩
    have E3 := Ext.new (o := .list (rlist a.ra ((ch f).filter fun k => vis (m.rc k) g))) hd2n
    have hvm : ∀ k ∈ (ch f).filter fun k => vis (m.rc k) g, k ∈ m.keys ∧ k ∈ ch f := fun k hk => ⟨chmem H.good hfp (List.mem_filter.mp hk).1, (List.mem_filter.mp hk).1⟩
    have hinj : ∀ k ∈ (ch f).filter fun k => vis (m.rc k) g, ∀ j ∈ (ch f).filter fun k => vis (m.rc k) g, a.ra k = a.ra j → k = j := fun k hk j hj => H2.rep.rin k (hvm k hk).1 j (hvm j hj).1
    refine ⟨d2, _, rfl, upd_self .., ?_, fun Ca D' out hDn G' v hv ρ' hsub' => ⟨tests_nil ⟨rfl, rfl⟩, fun _ => ?_⟩, fun D' hDn => ?_⟩
    · rw [rlist_len]
      have := List.length_filter_le (fun k => vis (m.rc k) g) (ch f)
      omega
    · obtain ⟨k, hk, rfl⟩ := rlist_mem hv
      have hR := Ext.new (o := .list out) hDn _ _ (E3 _ _ (H2.rep.rec_ k (hvm k hk).1))
      unfold recO at hR
      walk_at "m e"
      exact ⟨rfl, by rw [fk_at hinj hk, hkey k (hvm k hk).2]⟩
    · have hfl : (rlist a.ra ((ch f).filter fun k => vis (m.rc k) g)).filter (fun _ => true) = rlist a.ra ((ch f).filter fun k => vis (m.rc k) g) := List.filter_eq_self.mpr fun _ _ => rfl
      rw [hfl, map_fk hinj (fun k hk => hk)]
      have E4 := E3.trans (Ext.new (o := .list (((ch f).filter fun k => vis (m.rc k) g).map .int)) hDn)
      walk_at "m s"
      refine cmp_neL (upd_self ..) (E4 _ _ hdue) ?_
      walk_at "m s"
      refine ⟨fun h => (by simp at h), fun _ => ?_⟩
      generalize upd (upd φ₂ d2 (.list (rlist a.ra ((ch f).filter fun k => vis (m.rc k) g)))) D' (.list (((ch f).filter fun k => vis (m.rc k) g).map .int)) = φ₃ at *
      have H3 := H2.ext E4
      have hdue3 := E4 _ _ hdue
      have hdw3 := E4 _ _ hdw2
      have E03 := E02.trans E4
      clear E4 E3 hDn hd2n hP hS H2 hdw2 hdue E02 hinj hfl
      walk_at "m s"
      refine x_for_list ?_
      walk_at "m s"
      refine ⟨so, T.map .ref, rfl, H3.so, fun j ρ φ' => Sub (("due", .ref d1) :: ("who", .int f) :: looL a D so g) ρ ∧ Ext φ₃ φ', ⟨by walk_at "m sub", Ext.refl _⟩, ?_, ?_, go_name⟩
      · rintro j x ρ φ₄ hj ⟨hsub2, E4⟩
        have H4 := H3.ext E4
        refine ⟨H4.so, asn_name fun Rm hRm => ?_⟩
        rw [List.getElem?_map, Option.map_eq_some_iff] at hj
        obtain ⟨t, htj, rfl⟩ := hj
        have htT := List.mem_of_getElem? htj
        refine XS.sub ?_ (hsub2.under "wanted" (.ref t))
        clear hsub2
        show XS _ (execs (_ :: _) _) _ _ _
        walk_at "m s"
        refine ev_list ?_
        walk_at "m s"
        refine ⟨Nat.zero_le _, fun df hdf => ?_⟩
        have E5 := Ext.new (o := .list []) hdf
        have H5 := H4.ext E5
        obtain ⟨epD, hD⟩ := H5.rows.d
        walk_at "m s"
        refine x_for_list ?_
        walk_at "m s"
        refine subt_idict hD (dget_refs hf) ?_
        refine ⟨la f, rlist oa (ch f), rfl, H5.rows.l f hf, fun n ρ φ' => Sub (("fitting", .ref df) :: ("wanted", .ref t) :: ("due", .ref d1) :: ("who", .int f) :: looL a D so g) ρ ∧ Ext φ₄ φ' ∧ φ' df = some (.list ((((ch f).take n).filter (fit tk m g (tk t))).map .int)), ⟨by walk_at "m sub", E5, upd_self ..⟩, ?_, ?_, go_name⟩
        · clear H5 E5 hD
          rintro n x ρ φ₅ hn ⟨hsub3, E5, hdf5⟩
          obtain ⟨k, hk, rfl, htk, hkm⟩ := rlist_get hn
          have H5 := H4.ext E5
          refine ⟨H5.rows.l f hf, asn_name fun Rn hRn => ?_⟩
          refine XS.sub ?_ (hsub3.under "one" (.ref (oa k)))
          clear hsub3
          have hkk := chmem H.good hfp hkm
          have ho := H5.rows.o k hkk
          obtain ⟨tt, eik, htt⟩ := H5.iks.2 k hkk
          have htt' := H5.tup t htT
          have hdue5 := E5 _ _ (E4 _ _ hdue3)
          have hv5 := var_at ok F (φ := φ₅)
          have hvk : tk VKA = VK := H.iks.1
          have hlen : (((ch f).take n).filter (fit tk m g (tk t))).length ≤ 1000 := by
            have h1 := List.length_filter_le (fit tk m g (tk t)) ((ch f).take n)
            have h2 : ((ch f).take n).length ≤ (ch f).length := by rw [List.length_take]; omega
            omega
          have e2 : ∀ b, fit tk m g (tk t) k = b → (((ch f).take (n + 1)).filter (fit tk m g (tk t))) = ((ch f).take n).filter (fit tk m g (tk t)) ++ (if b then [k] else []) := fun b hb => by
            rw [htk, List.filter_append, List.filter_cons, hb]; rfl
          have hfit : fit tk m g (tk t) k = (vis (m.rc k) g && mat (tk tt) (tk t)) := by unfold fit; rw [eik]; rfl
          unfold oneO at ho
          rw [eik, hkey k hkm] at ho
          show XS _ (execs (_ :: _) _) _ _ _
          walk_at "m s"
          refine cmp_inL hdue5 ?_
          walk_at "m s"
          refine ⟨fun h => ?_, fun h => ?_⟩
          · have hvis : vis (m.rc k) g = true := (List.mem_filter.mp (of_decide_eq_true h)).2
            walk_at "m s"
            refine cmp_eqT htt htt' ?_
            walk_at "m s"
            refine ⟨fun h2 => ?_, fun h2 => ?_⟩
            · refine if_t ?_
              walk_at "m s"
              refine if_t ?_
              show XS _ (execs (_ :: _) _) _ _ _
              walk_at "m s"
              refine mth_append hdf5 ?_
              walk_at "m s"
              refine cal_append hdf5 ?_ (by rw [List.length_map]; omega)
              walk_at "m s"
              exact LoopK.next _ (by walk_at "m sub") ⟨Sub.refl _, E5.put hdf, by rw [upd_self, e2 true (by rw [hfit, hvis]; simp [mat, h2]), List.map_append]; rfl⟩
            · walk_at "m s"
              refine ev_tuple ?_
              walk_at "m s"
              refine ⟨by show 2 ≤ 1000000; decide, fun tu htu => ?_⟩
              have E6 := Ext.new (o := .tup [.ref tt, .ref t]) htu
              refine cmp_inT (tk := tk) (upd_self ..) (by rw [hvk]; exact hv5.ext E6) (htt.ext E6) (htt'.ext E6) ?_
              rw [hvk]
              walk_at "m s"
              refine ⟨fun h3 => ?_, fun h3 => ?_⟩
              · refine if_t ?_
                walk_at "m s"
                refine if_t ?_
                have hdf6 := E6 _ _ hdf5
                have ho6 := E6 _ _ ho
                show XS _ (execs (_ :: _) _) _ _ _
                walk_at "m s"
                refine mth_append hdf6 ?_
                walk_at "m s"
                refine cal_append hdf6 ?_ (by rw [List.length_map]; omega)
                walk_at "m s"
                exact LoopK.next _ (by walk_at "m sub") ⟨Sub.refl _, (E5.trans E6).put hdf, by rw [upd_self, e2 true (by rw [hfit, hvis]; simp only [Bool.true_and]; unfold mat; rw [h3]; rfl), List.map_append]; rfl⟩
              · walk_at "m s"
                refine if_f ?_
                refine if_f ?_
                walk_at "m s"
                exact LoopK.next _ (by walk_at "m sub") ⟨Sub.refl _, E5.trans E6, by rw [E6 _ _ hdf5, e2 false (by rw [hfit, hvis]; simp only [Bool.true_and]; unfold mat; rw [h3, h2]; rfl)]; simp⟩
          · have hvis : vis (m.rc k) g = false := by
              have h' := of_decide_eq_false h
              cases hb : vis (m.rc k) g with
              | false => rfl
              | true => exact absurd (List.mem_filter.mpr ⟨hkm, hb⟩) h'
            refine if_f ?_
            walk_at "m s"
            exact LoopK.next _ (by walk_at "m sub") ⟨Sub.refl _, E5, by rw [hdf5, e2 false (by rw [hfit, hvis]; rfl)]; simp⟩
        · clear H5 E5 hD
          rintro ρ φ₅ ⟨hsub3, E5, hdf5⟩
          have H5 := H4.ext E5
          refine ⟨H5.rows.l f hf, XS.sub ?_ hsub3⟩
          rw [rlist_len, List.take_length] at hdf5
          obtain ⟨epP, hP⟩ := H5.rep.pdc
          walk_at "m s"
          refine subt_idict hP (dget_refs hfp) ?_
          walk_at "m s"
          refine cal_spec ((s_wal ok F H5.rep H5.iks hfp (H5.tup t htT) (H5.good.path f hfp) hcl).mono ?_)
          rintro _ _ ⟨d6, rfl, hd6, rfl⟩
          have E6 := Ext.new (o := .list (((ch f).filter (fit tk m g (tk t))).map .int)) hd6
          walk_at "m s"
          refine cmp_neL (upd_self ..) (E6 _ _ hdf5) ?_
          walk_at "m s"
          refine ⟨fun h => (by simp at h), fun _ => ?_⟩
          walk_at "m s"
          exact LoopK.next _ (by walk_at "m sub") ⟨Sub.refl _, E4.trans (E5.trans E6)⟩
      · rintro ρ φ₄ ⟨hsub2, E4⟩
        refine ⟨(H3.ext E4).so, XS.sub ?_ hsub2⟩
        walk_at "m s"
        exact LoopK.next _ (by walk_at "m sub") ⟨Sub.refl _, E03.trans E4, E4 _ _ hdw3⟩
  · rintro ρ φ₁ ⟨hsub, E1, hd1⟩
    refine ⟨hd1, XS.sub ?_ hsub⟩
    walk_at "m s"
    exact ⟨rfl, E1⟩
end

structure Lw (W : Wd) (φ₀ φ : AH) (a : Adr) (m : Mdl) (ch : Int → List Int) (D : Addr) (la oa : Int → Addr) (tk : Addr → List PK) (so : Addr) (T : List Addr) (dr : Addr) (ks : List Int) (n : Nat) : Prop where
  rep : Rep φ₀ φ a m
  good : Good m ch
  rows : Rows2 φ D la oa m ch
  pks : m.pks = [0, 1]
  dyn : ∀ f ∈ ([0, 1] : List Int), (m.pr f).kind = "dynamic"
  iks : Iks W φ₀ tk m
  so : φ₀ so = some (.list (T.map .ref))
  tup : ∀ t ∈ T, TupAt W.g φ₀ t (tk t)
  tl : T.length = 4
  nxt : m.nxt ≤ n
  nD : φ₀ D = none
  no : ∀ k ∈ m.keys, φ₀ (oa k) = none
  dR : D ≠ a.R
  dP : D ≠ a.P
  hdr : φ dr = some (.list (ks.map .int))
  ndr : φ₀ dr = none
  drl : ∀ f ∈ ([0, 1] : List Int), dr ≠ la f
  ksl : ks.length ≤ 150
section
variable {W : Wd} {φ₀ φ φ' : AH} {a : Adr} {m : Mdl} {ch : Int → List Int} {D : Addr} {la oa : Int → Addr} {tk : Addr → List PK} {so : Addr} {T : List Addr} {dr : Addr} {ks : List Int} {n : Nat}
theorem Lw.keep (L : Lw W φ₀ φ a m ch D la oa tk so T dr ks n) (x : Ext φ φ') : Lw W φ₀ φ' a m ch D la oa tk so T dr ks n :=
  { L with rep := L.rep.keep x, rows := L.rows.ext x, hdr := x _ _ L.hdr }
theorem Lw.nx (L : Lw W φ₀ φ a m ch D la oa tk so T dr ks n) : Lw W φ₀ φ a m ch D la oa tk so T dr ks (n + 1) := { L with nxt := by have := L.nxt; omega }
theorem Lw.klen (L : Lw W φ₀ φ a m ch D la oa tk so T dr ks n) : m.keys.length ≤ n := L.good.keys_len L.nxt
theorem Lw.loo (L : Lw W φ₀ φ a m ch D la oa tk so T dr ks n) (h : n < 60) : LooH W φ₀ φ a m ch D la oa tk so T :=
  ⟨L.rep, L.good, L.rows, L.pks, L.iks.ext L.rep.ext, L.rep.ext _ _ L.so, fun t ht => (L.tup t ht).ext L.rep.ext, Nat.lt_of_le_of_lt L.klen h⟩
theorem Lw.mem (L : Lw W φ₀ φ a m ch D la oa tk so T dr ks n) {f : Int} (hf : f ∈ ([0, 1] : List Int)) : f ∈ m.pks := by rw [L.pks]; exact hf
theorem Lw.neD (L : Lw W φ₀ φ a m ch D la oa tk so T dr ks n) : dr ≠ D := fun z => by obtain ⟨ep, e⟩ := L.rows.d; have := L.hdr; rw [z, e] at this; cases this
/-- the drawer gives a figure -/
theorem Lw.cho (L : Lw W φ₀ φ a m ch D la oa tk so T dr ks n) {ks' : List Int} (c : Chg dr φ φ') (h : φ' dr = some (.list (ks'.map .int))) (hl : ks'.length ≤ ks.length) : Lw W φ₀ φ' a m ch D la oa tk so T dr ks' n :=
  { L with
    rep := L.rep.chg (L.rep.outN L.hdr trivial trivial) L.ndr c
    rows := ⟨let ⟨ep, e⟩ := L.rows.d; ⟨ep, c _ _ (Ne.symm L.neD) e⟩, fun f hf => c _ _ (Ne.symm (L.drl f hf)) (L.rows.l f hf), fun k hk => c _ _ (fun z => by have := L.rows.o k hk; rw [z, L.hdr] at this; cases this) (L.rows.o k hk), L.rows.oin⟩
    hdr := h
    ksl := Nat.le_trans hl L.ksl }
/-- what stands outside the store, for a deed on the store -/
theorem Lw.big (L : Lw W φ₀ φ a m ch D la oa tk so T dr ks n) : ∃ φb, Rep φb φ a m ∧ Ext φ₀ φb ∧ Rows2 φb D la oa m ch ∧ φb dr = some (.list (ks.map .int)) ∧ ∀ b o, φ b = some o → o.notInst → o.notD → φb b = some o := by
  obtain ⟨φb, rb, hE, hout⟩ := L.rep.big
  have key : ∀ b o, φ b = some o → o.notInst → o.notD → φb b = some o := fun b o e h1 h2 => hout b o e (L.rep.outN e h1 h2)
  refine ⟨φb, rb, hE, ⟨?_, fun f hf => key _ _ (L.rows.l f hf) trivial trivial, fun k hk => key _ _ (L.rows.o k hk) trivial trivial, L.rows.oin⟩, key _ _ L.hdr trivial trivial, key⟩
  obtain ⟨ep, e⟩ := L.rows.d
  exact ⟨ep, hout _ _ e (L.rep.outO e L.dR L.dP trivial)⟩
abbrev lawL2 (S P D dr so nt : Addr) (clock made : Int) : Loc := [("drawer", .ref dr), ("shelf", .ref S), ("procs", .ref P), ("sorts", .ref so), ("lines", .ref D), ("clock", .int clock), ("made", .int made), ("noted", .ref nt)]
/-- the law's state behind n deeds -/
def St2 (W : Wd) (φ₀ : AH) (tk : Addr → List PK) (so : Addr) (T : List Addr) (dr S P : Addr) (n : Nat) (ρ : Loc) (φ : AH) : Prop :=
  ∃ (a : Adr) (m : Mdl) (ch : Int → List Int) (D : Addr) (la oa : Int → Addr) (ks : List Int) (nt : Addr) (nl : List Int), Sub (lawL2 S P D dr so nt m.gen m.nxt) ρ ∧ a.S = S ∧ a.P = P ∧ Lw W φ₀ φ a m ch D la oa tk so T dr ks n ∧ φ nt = some (.list (nl.map AV.int)) ∧ nl.length ≤ 2 ∧ nt ≠ dr
noncomputable abbrev lawC2 (W : Wd) (A : Around) (l fa : Addr) (cd : Value) : FC := ⟨W, A, envX "law" (dScope (st1 17)) l fa cd (cellsFrom (l + 1) (dScope (st1 17)).names [])⟩
noncomputable def ifB : Stmt → List Stmt
  | .If _ b _ _ => b
  | _ => []
noncomputable def ifE : Stmt → List Stmt
  | .If _ _ e _ => e
  | _ => []
noncomputable def turnB : List Stmt := fBody ((dBody (st1 17))[8]!)
noncomputable def deedIf : Nat → Stmt
  | 0 => turnB[2]!
  | n + 1 => (ifE (deedIf n))[0]!

theorem app_new (m : Mdl) (f : Int) (t i : AV) : ((m.app f t i).rc m.nxt).key = m.nxt ∧ ((m.app f t i).rc m.nxt).birth = m.gen + 1 ∧ ((m.app f t i).rc m.nxt).death = -1 ∧ ((m.app f t i).rc m.nxt).ik = i := by
  have h : (m.new (m.pr f).fn t i).rc m.nxt = ⟨m.nxt, (m.pr f).fn, t, i, m.gen + 1, -1, -1⟩ := fset_self ..
  unfold Mdl.app
  split
  · show ((m.new (m.pr f).fn t i).rc m.nxt).key = _ ∧ ((m.new (m.pr f).fn t i).rc m.nxt).birth = _ ∧ ((m.new (m.pr f).fn t i).rc m.nxt).death = _ ∧ ((m.new (m.pr f).fn t i).rc m.nxt).ik = _
    rw [h]; exact ⟨rfl, rfl, rfl, rfl⟩
  · show ((fset (m.new (m.pr f).fn t i).rc (m.pr f).last _) m.nxt).key = _ ∧ ((fset (m.new (m.pr f).fn t i).rc (m.pr f).last _) m.nxt).birth = _ ∧ ((fset (m.new (m.pr f).fn t i).rc (m.pr f).last _) m.nxt).death = _ ∧ ((fset (m.new (m.pr f).fn t i).rc (m.pr f).last _) m.nxt).ik = _
    by_cases z : m.nxt = (m.pr f).last
    · rw [← z, fset_self, h]; exact ⟨rfl, rfl, rfl, rfl⟩
    · rw [fset_ne z, h]; exact ⟨rfl, rfl, rfl, rfl⟩
theorem pre_new (m : Mdl) (f : Int) (t i : AV) : ((m.pre f t i).rc m.nxt).key = m.nxt ∧ ((m.pre f t i).rc m.nxt).birth = m.gen + 1 ∧ ((m.pre f t i).rc m.nxt).death = -1 ∧ ((m.pre f t i).rc m.nxt).ik = i := by
  have h : (m.new (m.pr f).fn t i).rc m.nxt = ⟨m.nxt, (m.pr f).fn, t, i, m.gen + 1, -1, -1⟩ := fset_self ..
  unfold Mdl.pre
  split
  · show ((fset (m.new (m.pr f).fn t i).rc m.nxt { (m.new (m.pr f).fn t i).rc m.nxt with next := _ }) m.nxt).key = _ ∧ ((fset (m.new (m.pr f).fn t i).rc m.nxt { (m.new (m.pr f).fn t i).rc m.nxt with next := _ }) m.nxt).birth = _ ∧ ((fset (m.new (m.pr f).fn t i).rc m.nxt { (m.new (m.pr f).fn t i).rc m.nxt with next := _ }) m.nxt).death = _ ∧ ((fset (m.new (m.pr f).fn t i).rc m.nxt { (m.new (m.pr f).fn t i).rc m.nxt with next := _ }) m.nxt).ik = _
    rw [fset_self, h]; exact ⟨rfl, rfl, rfl, rfl⟩
  · show ((fset (m.new (m.pr f).fn t i).rc m.nxt { (m.new (m.pr f).fn t i).rc m.nxt with next := _ }) m.nxt).key = _ ∧ ((fset (m.new (m.pr f).fn t i).rc m.nxt { (m.new (m.pr f).fn t i).rc m.nxt with next := _ }) m.nxt).birth = _ ∧ ((fset (m.new (m.pr f).fn t i).rc m.nxt { (m.new (m.pr f).fn t i).rc m.nxt with next := _ }) m.nxt).death = _ ∧ ((fset (m.new (m.pr f).fn t i).rc m.nxt { (m.new (m.pr f).fn t i).rc m.nxt with next := _ }) m.nxt).ik = _
    rw [fset_self, h]; exact ⟨rfl, rfl, rfl, rfl⟩
theorem app_facts (m : Mdl) (f : Int) (t i : AV) : (m.app f t i).pks = m.pks ∧ (m.app f t i).nxt = m.nxt + 1 ∧ (m.app f t i).gen = m.gen + 1 ∧ (m.app f t i).keys = m.keys ++ [m.nxt] ∧ ∀ g, ((m.app f t i).pr g).kind = (m.pr g).kind := by
  unfold Mdl.app
  split
  · refine ⟨rfl, rfl, rfl, rfl, fun g => ?_⟩
    show (fset (fset m.pr f { m.pr f with first := m.nxt }) f { (fset m.pr f { m.pr f with first := m.nxt }) f with last := m.nxt } g).kind = _
    by_cases z : g = f
    · subst z; rw [fset_self, fset_self]
    · rw [fset_ne z, fset_ne z]
  · refine ⟨rfl, rfl, rfl, rfl, fun g => ?_⟩
    show (fset m.pr f { m.pr f with last := m.nxt } g).kind = _
    by_cases z : g = f
    · subst z; rw [fset_self]
    · rw [fset_ne z]
theorem pre_facts (m : Mdl) (f : Int) (t i : AV) : (m.pre f t i).pks = m.pks ∧ (m.pre f t i).nxt = m.nxt + 1 ∧ (m.pre f t i).gen = m.gen + 1 ∧ (m.pre f t i).keys = m.keys ++ [m.nxt] ∧ ∀ g, ((m.pre f t i).pr g).kind = (m.pr g).kind := by
  unfold Mdl.pre
  split
  · refine ⟨rfl, rfl, rfl, rfl, fun g => ?_⟩
    show (fset (fset m.pr f { m.pr f with last := m.nxt }) f { (fset m.pr f { m.pr f with last := m.nxt }) f with first := m.nxt } g).kind = _
    by_cases z : g = f
    · subst z; rw [fset_self, fset_self]
    · rw [fset_ne z, fset_ne z]
  · refine ⟨rfl, rfl, rfl, rfl, fun g => ?_⟩
    show (fset m.pr f { m.pr f with first := m.nxt } g).kind = _
    by_cases z : g = f
    · subst z; rw [fset_self]
    · rw [fset_ne z]
theorem oneO_same {r r' : Rec} (h : Same r r') : oneO r' = oneO r := by
  unfold oneO
  rw [h.1, h.2.2.1, h.2.2.2.1, h.2.2.2.2]
/-- a clause is entered in the store and in the rows -/
theorem Lw.enter (L : Lw W φ₀ φ a m ch D la oa tk so T dr ks n) {φ₂ : AH} {x o1 L2 t : Addr} {m' : Mdl} {c : List Int} {f : Int} {ep : Nat} (hf : f ∈ ([0, 1] : List Int)) (r : Rep φ₀ φ₂ { a with ra := fset a.ra m.nxt x } m') (g : Good m' (fset ch f c))
    (hc : c = ch f ++ [m.nxt] ∨ c = m.nxt :: ch f) (hS : ∀ k ∈ m.keys, Same (m.rc k) (m'.rc k)) (hN : (m'.rc m.nxt).key = m.nxt ∧ (m'.rc m.nxt).birth = m.gen + 1 ∧ (m'.rc m.nxt).death = -1 ∧ (m'.rc m.nxt).ik = .ref t)
    (hF : m'.pks = m.pks ∧ m'.nxt = m.nxt + 1 ∧ m'.gen = m.gen + 1 ∧ m'.keys = m.keys ++ [m.nxt] ∧ ∀ g, (m'.pr g).kind = (m.pr g).kind) (ht : TupAt W.g φ₀ t (tk t))
    (rows : Rows2 φ₂ D la oa m ch) (ho : φ₂ o1 = some (.sdict [("number", .int m.nxt), ("born", .int (m.gen + 1)), ("died", .int (-1)), ("sort", .ref t)])) (nO : φ₀ o1 = none) (hone : ∀ k ∈ m.keys, oa k ≠ o1)
    (hL : φ₂ L2 = some (.list (rlist (fset oa m.nxt o1) c))) (hdr : φ₂ dr = some (.list (ks.map .int))) (hne : dr ≠ L2) :
    Lw W φ₀ (upd φ₂ D (.idict (refs [0, 1] (fset la f L2)) ep)) { a with ra := fset a.ra m.nxt x } m' (fset ch f c) D (fset la f L2) (fset oa m.nxt o1) tk so T dr ks (n + 1) := by
  obtain ⟨epD, hD⟩ := rows.d
  have hc' : Chg D φ₂ (upd φ₂ D (.idict (refs [0, 1] (fset la f L2)) ep)) := Chg.upd
  have fr : ∀ k ∈ m.keys, k ≠ m.nxt := fun k hk z => L.good.fresh (z ▸ hk)
  have nD : ∀ {b o}, φ₂ b = some o → o.notD → b ≠ D := fun h1 h2 z => by rw [z, hD] at h1; cases h1; exact h2
  have key : ∀ k ∈ m'.keys, k ∈ m.keys ∨ k = m.nxt := fun k h => by rw [hF.2.2.2.1] at h; rcases List.mem_append.mp h with h | h; exact .inl h; exact .inr (List.mem_singleton.mp h)
  refine ⟨r.chg (r.outO hD L.dR L.dP trivial) L.nD hc', g, ⟨⟨_, upd_self ..⟩, fun f' hf' => ?_, fun k hk => ?_, fun i hi j hj e => ?_⟩, hF.1.trans L.pks, fun f' hf' => (hF.2.2.2.2 f').trans (L.dyn f' hf'), ⟨L.iks.1, fun k hk => ?_⟩, L.so, L.tup, L.tl, ?_, L.nD, fun k hk => ?_, L.dR, L.dP, ?_, L.ndr, fun f' hf' => ?_, L.ksl⟩
  · by_cases z : f' = f
    · subst z
      rw [fset_self, fset_self]
      exact hc' _ _ (nD hL trivial) hL
    · rw [fset_ne z, fset_ne z]
      have h1 := rows.l f' hf'
      rw [hc' _ _ (nD h1 trivial) h1]
      congr 2
      unfold rlist
      refine List.map_congr_left fun k hk => ?_
      rw [fset_ne (fr k (chmem L.good (L.mem hf') hk))]
  · rcases key k hk with h | rfl
    · rw [fset_ne (fr k h), oneO_same (hS k h)]
      have h1 := rows.o k h
      exact hc' _ _ (nD h1 trivial) h1
    · rw [fset_self]
      have : oneO (m'.rc m.nxt) = ([("number", .int m.nxt), ("born", .int (m.gen + 1)), ("died", .int (-1)), ("sort", .ref t)] : List (Str × AV)) := by unfold oneO; rw [hN.1, hN.2.1, hN.2.2.1, hN.2.2.2]
      rw [this]
      exact hc' _ _ (nD ho trivial) ho
  · rcases key i hi with h1 | rfl <;> rcases key j hj with h2 | rfl
    · rw [fset_ne (fr i h1), fset_ne (fr j h2)] at e; exact L.rows.oin i h1 j h2 e
    · rw [fset_ne (fr i h1), fset_self] at e; exact absurd e (hone i h1)
    · rw [fset_ne (fr j h2), fset_self] at e; exact absurd e.symm (hone j h2)
    · rfl
  · rcases key k hk with h | rfl
    · rw [(hS k h).2.2.2.2]; exact L.iks.2 k h
    · exact ⟨t, hN.2.2.2, ht⟩
  · rw [hF.2.1]; have := L.nxt; omega
  · rcases key k hk with h | rfl
    · rw [fset_ne (fr k h)]; exact L.no k h
    · rw [fset_self]; exact nO
  · exact hc' _ _ L.neD hdr
  · by_cases z : f' = f
    · subst z; rw [fset_self]; exact hne
    · rw [fset_ne z]; exact L.drl f' hf'
end

theorem rl_same {oa : Int → Addr} {k : Int} {x : Addr} {c : List Int} (h : k ∉ c) : rlist (fset oa k x) c = rlist oa c := by
  unfold rlist
  exact List.map_congr_left fun j hj => by rw [fset_ne (show j ≠ k from fun z => h (z ▸ hj))]
theorem rl_pre {oa : Int → Addr} {k : Int} {x : Addr} {c : List Int} (h : k ∉ c) : rlist (fset oa k x) (k :: c) = [.ref x] ++ rlist oa c := by
  rw [← rl_same (x := x) h]
  show AV.ref (fset oa k x k) :: _ = _
  rw [fset_self]; rfl
theorem rl_app {oa : Int → Addr} {k : Int} {x : Addr} {c : List Int} (h : k ∉ c) : rlist (fset oa k x) (c ++ [k]) = rlist oa c ++ [.ref x] := by
  rw [← rl_same (x := x) h]
  unfold rlist
  rw [List.map_append]
  show _ ++ [AV.ref (fset oa k x k)] = _
  rw [fset_self]
section
variable {W : Wd} {φ₀ φ φ' : AH} {a : Adr} {m : Mdl} {ch : Int → List Int} {D : Addr} {la oa : Int → Addr} {tk : Addr → List PK} {so : Addr} {T : List Addr} {dr : Addr} {ks : List Int} {n : Nat}
/-- a clause entered -/
theorem deed_new (ok : W.Ok) (F : Facts W.K) {A : Around} {l fa : Addr} {cd : Value} (G : Gd (lawC2 W A l fa cd) 6) {nt : Addr} {nl : List Int} {deed who : Int} (h0 : 0 ≤ who) (h1 : who < 2) (hn : n < 50) (L : Lw W φ₀ φ a m ch D la oa tk so T dr ks n) (hnt : φ nt = some (.list (nl.map .int))) (hnl : nl.length ≤ 2) (hne : nt ≠ dr)
    {R : AF → Loc → AH → Prop} (hR : ∀ ρ φ', St2 W φ₀ tk so T dr a.S a.P (n + 1) ρ φ' → R .next ρ φ') :
    XS (lawC2 W A l fa cd) (execs (ifB (deedIf 0)) (lawC2 W A l fa cd).env) (("who", .int who) :: ("deed", .int deed) :: lawL2 a.S a.P D dr so nt m.gen m.nxt) φ R := by
  have hf := in01 h0 h1
  have hfp := L.mem hf
  show XS _ (execs (_ :: _) _) _ _ _
  walk_at "m s"
  refine cal_spec ((s_cho ok F L.hdr (by have := L.ksl; omega) (by decide)).mono ?_)
  rintro _ φ₁ ⟨v, ks', rfl, v0, v1, hc, hd, hl⟩
  have L₁ := L.cho hc hd hl
  have hnt₁ := hc _ _ hne hnt
  obtain ⟨t, htv⟩ : ∃ t, T[v.toNat]? = some t := ⟨_, List.getElem?_eq_getElem (by rw [L.tl]; omega)⟩
  have htT := List.mem_of_getElem? htv
  refine subt_list (v := .ref t) (L₁.rep.ext _ _ L.so) v0 (by omega) (by rw [List.getElem?_map, htv]; rfl) ?_
  clear hc hd hl L
  walk_at "m s"
  refine ev_dictS fun o1 ho1 => ?_
  refine ep_cons ?_
  walk_at "m s"
  refine ep_cons ?_
  walk_at "m s"
  refine ep_cons ?_
  walk_at "m s"
  refine ep_cons ?_
  walk_at "m s"
  refine ep_nil (ks := []) ?_
  refine ⟨[("number", .int m.nxt), ("born", .int (m.gen + 1)), ("died", .int (-1)), ("sort", .ref t)], rfl, upd_self .., (by show ([("number" : Str), "born", "died", "sort"]).Nodup; decide), ?_⟩
  rw [upd_upd]
  have Eo : Ext φ₁ (upd φ₁ o1 (.sdict [("number", .int m.nxt), ("born", .int (m.gen + 1)), ("died", .int (-1)), ("sort", .ref t)])) := Ext.new ho1
  have hone : ∀ k ∈ m.keys, oa k ≠ o1 := fun k hk z => by have := L₁.rows.o k hk; rw [z, ho1] at this; cases this
  have nO : φ₀ o1 = none := L₁.rep.ext.none ho1
  have hone1 := upd_self φ₁ o1 (.sdict [("number", .int m.nxt), ("born", .int (m.gen + 1)), ("died", .int (-1)), ("sort", .ref t)])
  generalize upd φ₁ o1 (.sdict [("number", .int m.nxt), ("born", .int (m.gen + 1)), ("died", .int (-1)), ("sort", .ref t)]) = φ₂ at *
  have L₂ := L₁.keep Eo
  have hnt₂ := Eo _ _ hnt₁
  clear L₁ hnt₁ Eo ho1
  walk_at "m s"
  have hnf : m.nxt ∉ m.keys := L₂.good.fresh
  have hkl := L₂.klen
  have hpath := L₂.good.path who hfp
  refine ⟨fun hw => ?g1, fun hw => ?g2⟩
  case' g1 =>
    show XS _ (execs (_ :: _) _) _ _ _
    have hS := L₂.rep.sto
    obtain ⟨epP, hPd⟩ := L₂.rep.pdc
    unfold stoO at hS
    walk_at "m s"
    refine subt_idict hPd (dget_refs hfp) ?_
    walk_at "m s"
    refine ev_tuple ?_
    walk_at "m s"
    refine ⟨by show 2 ≤ 1000000; decide, fun t1 ht1 => ?_⟩
    have L₃ := L₂.keep (Ext.new (o := .tup [.str "i", .int (m.nxt + 1)]) ht1)
    have hnt₃ := Ext.new (o := .tup [.str "i", .int (m.nxt + 1)]) ht1 _ _ hnt₂
    have ho₃ := Ext.new (o := .tup [.str "i", .int (m.nxt + 1)]) ht1 _ _ hone1
    obtain ⟨φb, rb, hE, rowsb, drb, hout⟩ := L₃.big
    walk_at "m s"
    refine cal_spec ((s_pre ok F rb hfp hnf (by omega)).mono ?_)
    rintro _ φ₄ ⟨x, rfl, r₄⟩
    obtain ⟨g', hS', _⟩ := L₂.good.pre hfp (L₂.dyn who hf) (.ref t1) (.ref t)
    have hN := pre_new m who (.ref t1) (.ref t)
    have hF := pre_facts m who (.ref t1) (.ref t)
    generalize m.pre who (.ref t1) (.ref t) = m' at *
    obtain ⟨c, hcc, hc⟩ : ∃ c, m.nxt :: ch who = c ∧ (c = ch who ++ [m.nxt] ∨ c = m.nxt :: ch who) := ⟨_, rfl, .inr rfl⟩
    rw [hcc] at g'
  case' g2 =>
    show XS _ (execs (_ :: _) _) _ _ _
    have hS := L₂.rep.sto
    obtain ⟨epP, hPd⟩ := L₂.rep.pdc
    unfold stoO at hS
    walk_at "m s"
    refine subt_idict hPd (dget_refs hfp) ?_
    walk_at "m s"
    refine ev_tuple ?_
    walk_at "m s"
    refine ⟨by show 2 ≤ 1000000; decide, fun t1 ht1 => ?_⟩
    have L₃ := L₂.keep (Ext.new (o := .tup [.str "i", .int (m.nxt + 1)]) ht1)
    have hnt₃ := Ext.new (o := .tup [.str "i", .int (m.nxt + 1)]) ht1 _ _ hnt₂
    have ho₃ := Ext.new (o := .tup [.str "i", .int (m.nxt + 1)]) ht1 _ _ hone1
    obtain ⟨φb, rb, hE, rowsb, drb, hout⟩ := L₃.big
    walk_at "m s"
    refine cal_spec ((s_app ok F rb hfp hnf (by omega) fun hc => ?_).mono ?_)
    · rw [L₂.good.last _ hfp]
      have : ch who ≠ [] := by intro z; rw [z] at hpath; exact hc hpath
      exact chmem L₂.good hfp (getLastD_mem this _)
    rintro _ φ₄ ⟨x, rfl, r₄⟩
    obtain ⟨g', hS', _⟩ := L₂.good.app hfp (L₂.dyn who hf) (.ref t1) (.ref t)
    have hN := app_new m who (.ref t1) (.ref t)
    have hF := app_facts m who (.ref t1) (.ref t)
    generalize m.app who (.ref t1) (.ref t) = m' at *
    obtain ⟨c, hcc, hc⟩ : ∃ c, ch who ++ [m.nxt] = c ∧ (c = ch who ++ [m.nxt] ∨ c = m.nxt :: ch who) := ⟨_, rfl, .inl rfl⟩
    rw [hcc] at g'
  all_goals
    have hnt₄ := r₄.ext _ _ (hout _ _ hnt₃ trivial trivial)
    have ho₄ := r₄.ext _ _ (hout _ _ ho₃ trivial trivial)
    have dr₄ := r₄.ext _ _ drb
    have rows₄ := rowsb.ext r₄.ext
    have r₄' := r₄.base hE
    have tT := L₂.tup t htT
    clear hS hPd ht1 hnt₃ ho₃ rowsb drb hout rb hnt₂ hone1
    obtain ⟨epD, hD⟩ := rows₄.d
    have hlf := rows₄.l who hf
    have hk' : m.nxt ∈ m'.keys := by rw [hF.2.2.2.1]; simp
    walk_at "m s"
  case' g1 =>
    refine ev_list ?_
    walk_at "m s"
    refine ⟨by show 1 ≤ 1000000; decide, fun d1 hd1 => ?_⟩
    have E1 := Ext.new (o := .list [.ref o1]) hd1
    walk_at "m s"
    refine subt_idict (E1 _ _ hD) (dget_refs hf) ?_
    refine bin_addL (upd_self ..) (E1 _ _ hlf) (fun d2 hd2 => ?_) (by rw [rlist_len]; have := nodup_le (L₂.good.nodup _ hfp) fun k hk => chmem L₂.good hfp hk; simp; omega)
    rw [← rl_pre (x := o1) (fun z => hnf (chmem L₂.good hfp z)), hcc]
    have E12 := Ext.new (o := .list (rlist (fset oa m.nxt o1) c)) hd2
    have hL := upd_self (upd φ₄ d1 (.list [.ref o1])) d2 (.list (rlist (fset oa m.nxt o1) c))
    have E2 := E1.trans E12
    generalize upd (upd φ₄ d1 (.list [.ref o1])) d2 (.list (rlist (fset oa m.nxt o1) c)) = φ₅ at *
    have hdd : dr ≠ d2 := fun z => by have := E1 _ _ dr₄; rw [z, hd2] at this; cases this
    clear hd2 E12 E1 hd1
  case' g2 =>
    refine subt_idict hD (dget_refs hf) ?_
    walk_at "m s"
    refine ev_list ?_
    walk_at "m s"
    refine ⟨by show 1 ≤ 1000000; decide, fun d1 hd1 => ?_⟩
    have E1 := Ext.new (o := .list [.ref o1]) hd1
    refine bin_addL (E1 _ _ hlf) (upd_self ..) (fun d2 hd2 => ?_) (by rw [rlist_len]; have := nodup_le (L₂.good.nodup _ hfp) fun k hk => chmem L₂.good hfp hk; simp; omega)
    rw [← rl_app (x := o1) (fun z => hnf (chmem L₂.good hfp z)), hcc]
    have E12 := Ext.new (o := .list (rlist (fset oa m.nxt o1) c)) hd2
    have hL := upd_self (upd φ₄ d1 (.list [.ref o1])) d2 (.list (rlist (fset oa m.nxt o1) c))
    have E2 := E1.trans E12
    generalize upd (upd φ₄ d1 (.list [.ref o1])) d2 (.list (rlist (fset oa m.nxt o1) c)) = φ₅ at *
    have hdd : dr ≠ d2 := fun z => by have := E1 _ _ dr₄; rw [z, hd2] at this; cases this
    clear hd2 E12 E1 hd1
  all_goals
    walk_at "m s"
    refine seti_idict (E2 _ _ hD) (fun ep' => ?_) (by rw [refs_len]; show 2 ≤ 1000000; decide)
    rw [dset_in hf]
    have L' := L₂.enter (ep := ep') hf (r₄'.keep E2) g' hc hS' hN hF tT (rows₄.ext E2) (E2 _ _ ho₄) nO hone hL (E2 _ _ dr₄) hdd
    have hD₅ := E2 _ _ hD
    have nD : ∀ {b o}, φ₅ b = some o → o.notD → b ≠ D := fun h1 h2 z => by rw [z, hD₅] at h1; cases h1; exact h2
    have hnt₅ := Chg.upd (o := .idict (refs [0, 1] (fset la who d2)) ep') nt _ (nD (E2 _ _ hnt₄) trivial) (E2 _ _ hnt₄)
    have ho₅ := Chg.upd (o := .idict (refs [0, 1] (fset la who d2)) ep') o1 _ (nD (E2 _ _ ho₄) trivial) (E2 _ _ ho₄)
    generalize upd φ₅ D (.idict (refs [0, 1] (fset la who d2)) ep') = φ₆ at *
    have hR6 := L'.rep.rec_ m.nxt hk'
    change φ₆ (fset a.ra m.nxt x m.nxt) = _ at hR6
    rw [fset_self] at hR6
    unfold recO at hR6
    rw [hN.1, hN.2.1] at hR6
    clear nD hD₅ E2 hL hlf hD rows₄ r₄' dr₄ ho₄ hnt₄ r₄
    walk_at "m s"
    refine ⟨fun h => (by simp at h), fun _ => ?_⟩
    walk_at "m s"
    refine ⟨fun h => (by simp at h), fun _ => ?_⟩
    walk_at "m s"
    refine if_f ?_
    walk_at "m s"
    exact hR _ _ ⟨{ a with ra := fset a.ra m.nxt x }, m', _, D, _, _, ks', nt, nl, by rw [hF.2.1, hF.2.2.1]; walk_at "m sub", rfl, rfl, L', hnt₅, hnl, hne⟩
end

theorem filter_one {q : Int → Bool} {v : Int} : ∀ {l : List Int}, l.Nodup → l.filter (fun k => (k == v) && q k) = if v ∈ l ∧ q v = true then [v] else []
  | [], _ => by simp
  | j :: l, h => by
    obtain ⟨h1, h2⟩ := List.nodup_cons.mp h
    rw [List.filter_cons, filter_one h2]
    by_cases z : j = v
    · subst z
      cases hq : q j <;> simp [h1, hq]
    · have z' : ¬ v = j := fun e => z e.symm
      simp [z, z']
section
variable {W : Wd} {φ₀ φ φ' : AH} {a : Adr} {m m' : Mdl} {ch : Int → List Int} {D : Addr} {la oa : Int → Addr} {tk : Addr → List PK} {so : Addr} {T : List Addr} {dr : Addr} {ks : List Int} {n : Nat}
theorem Good.all (g : Good m ch) (hp : m.pks = [0, 1]) : (ch 0 ++ ch 1).Nodup ∧ ∀ k, k ∈ ch 0 ++ ch 1 ↔ k ∈ m.keys := by
  have h0 : (0 : Int) ∈ m.pks := by rw [hp]; decide
  have h1 : (1 : Int) ∈ m.pks := by rw [hp]; decide
  refine ⟨List.nodup_append.mpr ⟨g.nodup 0 h0, g.nodup 1 h1, fun x hx y hy z => ?_⟩, fun k => ?_⟩
  · subst z
    have := (g.fn 0 h0 x hx).symm.trans (g.fn 1 h1 x hy)
    exact absurd this (by decide)
  · rw [g.kin k, hp, List.mem_append]
    constructor
    · rintro (h | h)
      · exact ⟨0, by decide, h⟩
      · exact ⟨1, by decide, h⟩
    · rintro ⟨f, hf, h⟩
      simp only [List.mem_cons, List.not_mem_nil, or_false] at hf
      rcases hf with rfl | rfl
      · exact .inl h
      · exact .inr h
theorem Rows2.die (h : Rows2 φ D la oa m ch) {v : Int} (hv : v ∈ m.keys) (r : Rec) : Rows2 (upd φ (oa v) (.sdict (oneO r))) D la oa (m.setR v r) ch := by
  have hov := h.o v hv
  obtain ⟨ep, hD⟩ := h.d
  refine ⟨⟨ep, by rw [upd_ne (fun z => by rw [z, hov] at hD; cases hD)]; exact hD⟩, fun f hf => ?_, fun k hk => ?_, h.oin⟩
  · have h1 := h.l f hf
    rw [upd_ne (fun z => by rw [z, hov] at h1; cases h1)]; exact h1
  · show _ = some (AO.sdict (oneO (fset m.rc v r k)))
    by_cases z : k = v
    · subst z; rw [upd_self, fset_self]
    · rw [upd_ne (fun e => z (h.oin k hk v hv e)), fset_ne z]; exact h.o k hk
theorem Rows2.re (h : Rows2 φ D la oa m ch) (h1 : m'.keys = m.keys) (h2 : m'.rc = m.rc) : Rows2 φ D la oa m' ch :=
  ⟨h.d, h.l, by rw [h1, h2]; exact h.o, by rw [h1]; exact h.oin⟩
theorem Lw.mods (L : Lw W φ₀ φ a m ch D la oa tk so T dr ks n) (r : Rep φ₀ φ' a m') (g : Good m' ch) (rows : Rows2 φ' D la oa m' ch) (h1 : m'.keys = m.keys) (h2 : m'.pks = m.pks) (h3 : m'.pr = m.pr) (h4 : m'.nxt = m.nxt) (h5 : ∀ k, (m'.rc k).ik = (m.rc k).ik) (hd : φ' dr = some (.list (ks.map .int))) :
    Lw W φ₀ φ' a m' ch D la oa tk so T dr ks n :=
  ⟨r, g, rows, h2.trans L.pks, by rw [h3]; exact L.dyn, ⟨L.iks.1, fun k hk => by rw [h5]; exact L.iks.2 k (h1 ▸ hk)⟩, L.so, L.tup, L.tl, by rw [h4]; exact L.nxt, L.nD, by rw [h1]; exact L.no, L.dR, L.dP, hd, L.ndr, L.drl, L.ksl⟩
theorem dset_died (r : Rec) (d : Int) : dset ("died" : Str) (AV.int d) (oneO r) = oneO { r with death := d } := by
  unfold oneO
  with_unfolding_all rfl
theorem rlist_app (oa : Int → Addr) (b c : List Int) : rlist oa b ++ rlist oa c = rlist oa (b ++ c) := by unfold rlist; rw [List.map_append]
/-- a generation noted -/
theorem deed_note (ok : W.Ok) (F : Facts W.K) {A : Around} {l fa : Addr} {cd : Value} (G : Gd (lawC2 W A l fa cd) 6) {nt : Addr} {nl : List Int} {deed who : Int} (L : Lw W φ₀ φ a m ch D la oa tk so T dr ks n) (hnt : φ nt = some (.list (nl.map .int))) (hnl : nl.length ≤ 2)
    {R : AF → Loc → AH → Prop} (hR : ∀ ρ φ', St2 W φ₀ tk so T dr a.S a.P (n + 1) ρ φ' → R .next ρ φ') :
    XS (lawC2 W A l fa cd) (execs (ifE (deedIf 3)) (lawC2 W A l fa cd).env) (("who", .int who) :: ("deed", .int deed) :: lawL2 a.S a.P D dr so nt m.gen m.nxt) φ R := by
  show XS _ (execs (_ :: _) _) _ _ _
  walk_at "m s"
  refine ep_some ?_
  walk_at "m s"
  refine ep_none ?_
  refine slc_last (k := 1) hnt (fun d1 hd1 => ?_) (Nat.le_refl _) (by rw [List.length_map]; omega)
  rw [List.length_map, ← List.map_drop]
  have E1 := Ext.new (o := .list ((nl.drop (nl.length - 1)).map .int)) hd1
  walk_at "m s"
  refine ev_list ?_
  walk_at "m s"
  refine ⟨by show 1 ≤ 1000000; decide, fun d2 hd2 => ?_⟩
  have E2 := E1.trans (Ext.new (o := .list [.int m.gen]) hd2)
  have h1 := Ext.new (o := .list [.int m.gen]) hd2 _ _ (upd_self φ d1 (.list ((nl.drop (nl.length - 1)).map .int)))
  refine bin_addL h1 (upd_self ..) (fun d3 hd3 => ?_) (by rw [List.length_map, List.length_drop]; show _ + 1 ≤ _; omega)
  have E3 := E2.trans (Ext.new (o := .list ((nl.drop (nl.length - 1)).map .int ++ [.int m.gen])) hd3)
  have hdd : dr ≠ d3 := fun z => by have := E2 _ _ L.hdr; rw [z, hd3] at this; cases this
  walk_at "m s"
  exact hR _ _ ⟨a, m, ch, D, la, oa, ks, d3, nl.drop (nl.length - 1) ++ [m.gen], by walk_at "m sub", rfl, rfl, (L.keep E3).nx, by rw [upd_self]; simp, by simp; omega, Ne.symm hdd⟩
/-- a clause erased -/
theorem deed_era (ok : W.Ok) (F : Facts W.K) {A : Around} {l fa : Addr} {cd : Value} (G : Gd (lawC2 W A l fa cd) 6) {nt : Addr} {nl : List Int} {deed who : Int} (hn : n < 50) (L : Lw W φ₀ φ a m ch D la oa tk so T dr ks n) (hnt : φ nt = some (.list (nl.map .int))) (hnl : nl.length ≤ 2) (hne : nt ≠ dr)
    {R : AF → Loc → AH → Prop} (hR : ∀ ρ φ', St2 W φ₀ tk so T dr a.S a.P (n + 1) ρ φ' → R .next ρ φ') :
    XS (lawC2 W A l fa cd) (execs (ifB (deedIf 1)) (lawC2 W A l fa cd).env) (("who", .int who) :: ("deed", .int deed) :: lawL2 a.S a.P D dr so nt m.gen m.nxt) φ R := by
  show XS _ (execs (_ :: _) _) _ _ _
  refine x_assign_cell rfl ?_
  walk_at "m s"
  refine cal_spec ((s_cho ok F L.hdr (by have := L.ksl; omega) (by have := L.good.nxt0; omega)).mono ?_)
  rintro _ φ₁ ⟨v, ks', rfl, _, _, hc, hd, hl⟩
  have L₁ := L.cho hc hd hl
  have hnt₁ := hc _ _ hne hnt
  clear hc hd hl L hnt
  obtain ⟨epD, hD⟩ := L₁.rows.d
  obtain ⟨hnd, hall⟩ := L₁.good.all L₁.pks
  have hlen : (ch 0 ++ ch 1).length ≤ 50 := by have := nodup_le hnd (fun k hk => (hall k).mp hk); have := L₁.klen; omega
  have hinj : ∀ k ∈ ch 0 ++ ch 1, ∀ j ∈ ch 0 ++ ch 1, oa k = oa j → k = j := fun k hk j hj => L₁.rows.oin k ((hall k).mp hk) j ((hall j).mp hj)
  refine x_assign_comp (cl := [("number", l + 1)]) (pk oa (ch 0 ++ ch 1) fun k => (k == v) && liv (m.rc k)) id [("number", .int v)] rfl (fun y c e => e) (fun y u c e e' => ?_) (fun y u e => ?_) ?_
  · obtain ⟨rfl, rfl⟩ := lookup_one e
    exact e'
  · obtain ⟨rfl, rfl⟩ := lookup_one e
    exact ⟨rfl, l + 1, rfl⟩
  walk_at "m s"
  refine subt_idict hD (dget_refs (by decide)) ?_
  walk_at "m s"
  refine subt_idict hD (dget_refs (by decide)) ?_
  refine bin_addL (L₁.rows.l 0 (by decide)) (L₁.rows.l 1 (by decide)) (fun LL hLL => ?_) (by rw [rlist_len, rlist_len]; rw [List.length_append] at hlen; omega)
  rw [rlist_app]
  have E1 := Ext.new (o := .list (rlist oa (ch 0 ++ ch 1))) hLL
  refine ⟨LL, _, rfl, upd_self .., by rw [rlist_len]; omega, fun Ca D' out hDn G' u hu ρ' hsub' => ?_, fun D' hDn => ?_⟩
  · obtain ⟨k, hk, rfl⟩ := rlist_mem hu
    have ho' := Ext.new (o := .list out) hDn _ _ (E1 _ _ (L₁.rows.o k ((hall k).mp hk)))
    have hw : List.lookup ("number" : Str) ((("one", AV.ref (oa k)) :: ρ') : Loc) = some (AV.int v) := lk_next rfl (hsub' _ _ rfl)
    unfold oneO at ho'
    rw [L₁.good.key k ((hall k).mp hk)] at ho'
    refine ⟨tests_one ?_, fun hp => ?_⟩
    · rw [pk_at hinj hk]
      walk_at "m e"
      refine ⟨fun h => ?_, fun h => ?_⟩
      · walk_at "m e"
        refine ⟨fun h2 => ?_, fun h2 => ?_⟩
        · walk_at "m e"
          refine ⟨rfl, ?_⟩
          simp [liv, h, h2]
        · refine ⟨rfl, ?_⟩
          simp [liv, h, h2]
      · refine ⟨rfl, ?_⟩
        simp [h]
    · walk_at "m e"
      exact ⟨rfl, rfl⟩
  · rw [filter_pk hinj, List.map_id, filter_one hnd]
    have E2 := E1.trans (Ext.new (o := .list (rlist oa (if v ∈ ch 0 ++ ch 1 ∧ liv (m.rc v) = true then [v] else []))) hDn)
    have hlv := upd_self (upd φ₁ LL (.list (rlist oa (ch 0 ++ ch 1)))) D' (.list (rlist oa (if v ∈ ch 0 ++ ch 1 ∧ liv (m.rc v) = true then [v] else [])))
    generalize upd (upd φ₁ LL (.list (rlist oa (ch 0 ++ ch 1)))) D' (.list (rlist oa (if v ∈ ch 0 ++ ch 1 ∧ liv (m.rc v) = true then [v] else []))) = φ₂ at *
    have L₂ := L₁.keep E2
    have hnt₂ := E2 _ _ hnt₁
    clear E2 E1 hDn hLL L₁ hnt₁ hD
    have hS := L₂.rep.sto
    unfold stoO at hS
    obtain ⟨φb, rb, hE, rowsb, drb, hout⟩ := L₂.big
    have hlvb := hout _ _ hlv trivial trivial
    have hntb := hout _ _ hnt₂ trivial trivial
    walk_at "m s"
    refine cal_spec ((s_era ok F rb).mono ?_)
    rintro b φ₃ (⟨hk, hdth, rfl, r₃⟩ | ⟨hno, rfl, rfl⟩)
    · have hcond : v ∈ ch 0 ++ ch 1 ∧ liv (m.rc v) = true := ⟨(hall v).mpr hk, decide_eq_true hdth⟩
      rw [if_pos hcond] at hlvb
      have hlv₃ := r₃.ext _ _ hlvb
      obtain ⟨g', _⟩ := L₂.good.era hk
      have rows₃ := rowsb.ext r₃.ext
      have hnt₃ := r₃.ext _ _ hntb
      have dr₃ := r₃.ext _ _ drb
      have r₃' := r₃.base hE
      clear hlvb hntb rowsb drb hout rb hS hlv hnt₂ r₃
      walk_at "m s"
      refine ev_list ?_
      walk_at "m s"
      refine ⟨Nat.zero_le _, fun d1 hd1 => ?_⟩
      have E1 := Ext.new (o := .list []) hd1
      refine cmp_neNil (E1 _ _ hlv₃) (upd_self ..) ?_
      refine cmp_neB ?_
      walk_at "m s"
      refine ⟨fun h => (by cases h), fun _ => ?_⟩
      walk_at "m s"
      refine ev_list ?_
      walk_at "m s"
      refine ⟨Nat.zero_le _, fun d2 hd2 => ?_⟩
      have E2 := E1.trans (Ext.new (o := .list []) hd2)
      refine cmp_neNil (E2 _ _ hlv₃) (upd_self ..) ?_
      walk_at "m s"
      refine ⟨fun _ => ?_, fun h => (by cases h)⟩
      have hlv₄ := E2 _ _ hlv₃
      generalize upd (upd φ₃ d1 (.list [])) d2 (.list []) = φ₄ at *
      clear hd2 E1 hd1
      show XS _ (execs (_ :: _) _) _ _ _
      walk_at "m s"
      refine subt_list hlv₄ (by decide) (by decide) rfl ?_
      walk_at "m s"
      have rows₄ := rows₃.ext E2
      refine seti_sdict (rows₄.o v hk) ?_ (by show 4 ≤ 1000000; decide)
      rw [dset_died]
      have hov := rows₄.o v hk
      have hc : Chg (oa v) φ₄ (upd φ₄ (oa v) (.sdict (oneO { m.rc v with death := m.gen + 1 }))) := Chg.upd
      have hl : ∀ {b : Addr} {x : List AV}, φ₄ b = some (.list x) → b ≠ oa v := fun h1 z => by rw [z, hov] at h1; cases h1
      have r₅ := (r₃'.keep E2).chg ((r₃'.keep E2).outN hov trivial trivial) (L₂.no v hk) hc
      walk_at "m s"
      exact hR _ _ ⟨a, _, ch, D, la, oa, ks', nt, nl, by walk_at "m sub", rfl, rfl, (L₂.mods r₅ g' ((rows₄.re (m' := { m with gen := m.gen + 1 }) rfl rfl).die hk _) rfl rfl rfl rfl (fun k => by
        show (fset m.rc v { m.rc v with death := m.gen + 1 } k).ik = _
        by_cases z : k = v
        · subst z; rw [fset_self]
        · rw [fset_ne z]) (hc _ _ (hl (E2 _ _ dr₃)) (E2 _ _ dr₃))).nx, hc _ _ (hl (E2 _ _ hnt₃)) (E2 _ _ hnt₃), hnl, hne⟩
    · have hcond : ¬ (v ∈ ch 0 ++ ch 1 ∧ liv (m.rc v) = true) := fun z => hno ⟨(hall v).mp z.1, of_decide_eq_true z.2⟩
      rw [if_neg hcond] at hlv
      clear hlvb hntb rowsb drb hout rb hS
      walk_at "m s"
      refine ev_list ?_
      walk_at "m s"
      refine ⟨Nat.zero_le _, fun d1 hd1 => ?_⟩
      have E1 := Ext.new (o := .list []) hd1
      refine cmp_neNil (E1 _ _ hlv) (upd_self ..) ?_
      refine cmp_neB ?_
      walk_at "m s"
      refine ⟨fun h => (by cases h), fun _ => ?_⟩
      walk_at "m s"
      refine ev_list ?_
      walk_at "m s"
      refine ⟨Nat.zero_le _, fun d2 hd2 => ?_⟩
      have E2 := E1.trans (Ext.new (o := .list []) hd2)
      refine cmp_neNil (E2 _ _ hlv) (upd_self ..) ?_
      walk_at "m s"
      refine ⟨fun h => (by cases h), fun _ => ?_⟩
      walk_at "m s"
      exact hR _ _ ⟨a, m, ch, D, la, oa, ks', nt, nl, by walk_at "m sub", rfl, rfl, (L₂.keep E2).nx, E2 _ _ hnt₂, hnl, hne⟩
end

section
variable {W : Wd} {φ₀ φ φ' : AH} {a : Adr} {m m' : Mdl} {ch : Int → List Int} {D : Addr} {la oa : Int → Addr} {tk : Addr → List PK} {so : Addr} {T : List Addr} {dr : Addr} {ks : List Int} {n : Nat}
theorem kil_loop (F : Facts W.K) {A : Around} {l fa : Addr} {cd : Value} (G : Gd (lawC2 W A l fa cd) 6) {nt : Addr} {nl : List Int} (L : Lw W φ₀ φ a m ch D la oa tk so T dr ks n) (hnl : nl.length ≤ 2) (hne : nt ≠ dr)
    {R : AF → Loc → AH → Prop} (hR : ∀ ρ φ', St2 W φ₀ tk so T dr a.S a.P (n + 1) ρ φ' → R .next ρ φ') {ls : List Int} (hls : ∀ k ∈ ls, k ∈ m.keys) (hll : ls.length ≤ 1000) {g2 : Int} {φ₃ : AH} {ρ : Loc} {d : Addr} (r : Rep φ₀ φ₃ a (killN { m with gen := g2 } ls)) (g : Good (killN { m with gen := g2 } ls) ch) (rows : Rows2 φ₃ D la oa m ch)
    (hd : φ₃ d = some (.list (rlist oa ls))) (hdr : φ₃ dr = some (.list (ks.map .int))) (hnt : φ₃ nt = some (.list (nl.map .int))) (hsub : Sub (("living", .ref d) :: lawL2 a.S a.P D dr so nt g2 m.nxt) ρ) :
    XS (lawC2 W A l fa cd) (execs ((ifB (deedIf 2)).drop 3) (lawC2 W A l fa cd).env) ρ φ₃ R := by
  refine XS.sub ?_ hsub
  show XS _ (execs (_ :: _) _) _ _ _
  refine x_for_list ?_
  walk_at "m s"
  refine ⟨d, rlist oa ls, rfl, hd, fun i ρ φ' => Sub (("living", .ref d) :: lawL2 a.S a.P D dr so nt g2 m.nxt) ρ ∧ Rep φ₀ φ' a (killN { m with gen := g2 } ls) ∧ Rows2 φ' D la oa (killN { m with gen := g2 } (ls.take i)) ch ∧ φ' d = some (.list (rlist oa ls)) ∧ φ' dr = some (.list (ks.map .int)) ∧ φ' nt = some (.list (nl.map .int)),
    ⟨Sub.refl _, r, by rw [List.take_zero, killN_nil]; exact rows.re rfl rfl, hd, hdr, hnt⟩, ?_, ?_, go_name⟩
  · clear r rows hd hdr hnt hsub
    rintro i x ρ φ' hi ⟨hsub, r, rows, hd, hdr, hnt⟩
    obtain ⟨k, hk, rfl, ht, hkm⟩ := rlist_get hi
    refine ⟨hd, asn_name fun Rj hRj => ?_⟩
    refine XS.sub ?_ (hsub.under "one" (.ref (oa k)))
    have hkk : k ∈ (killN { m with gen := g2 } (ls.take i)).keys := hls k hkm
    have hov := rows.o k hkk
    show XS _ (execs (_ :: _) _) _ _ _
    walk_at "m s"
    refine seti_sdict hov ?_ (by show 4 ≤ 1000000; decide)
    rw [dset_died]
    have hc : Chg (oa k) φ' (upd φ' (oa k) (.sdict (oneO { (killN { m with gen := g2 } (ls.take i)).rc k with death := g2 }))) := Chg.upd
    have hl : ∀ {b : Addr} {x : List AV}, φ' b = some (.list x) → b ≠ oa k := fun h1 z => by rw [z, hov] at h1; cases h1
    walk_at "m s"
    exact LoopK.next _ (by walk_at "m sub") ⟨Sub.refl _, r.chg (r.outN hov trivial trivial) (L.no k (hls k hkm)) hc, by rw [ht, killN_next]; exact rows.die hkk _, hc _ _ (hl hd) hd, hc _ _ (hl hdr) hdr, hc _ _ (hl hnt) hnt⟩
  · clear r rows hd hdr hnt hsub
    rintro ρ φ' ⟨hsub, r, rows, hd, hdr, hnt⟩
    rw [rlist_len, List.take_length] at rows
    refine ⟨hd, XS.sub ?_ hsub⟩
    walk_at "m s"
    exact hR _ _ ⟨a, _, ch, D, la, oa, ks, nt, nl, by walk_at "m sub", rfl, rfl, (L.mods r g rows rfl rfl rfl rfl (fun k => by
      show (if k ∈ ls then { m.rc k with death := g2 } else m.rc k).ik = _
      split <;> rfl) hdr).nx, hnt, hnl, hne⟩
/-- all of a predicate killed -/
theorem deed_kil (ok : W.Ok) (F : Facts W.K) {A : Around} {l fa : Addr} {cd : Value} (G : Gd (lawC2 W A l fa cd) 6) {nt : Addr} {nl : List Int} {deed who : Int} (h0 : 0 ≤ who) (h1 : who < 2) (hn : n < 50) (L : Lw W φ₀ φ a m ch D la oa tk so T dr ks n) (hnt : φ nt = some (.list (nl.map .int))) (hnl : nl.length ≤ 2) (hne : nt ≠ dr)
    {R : AF → Loc → AH → Prop} (hR : ∀ ρ φ', St2 W φ₀ tk so T dr a.S a.P (n + 1) ρ φ' → R .next ρ φ') :
    XS (lawC2 W A l fa cd) (execs (ifB (deedIf 2)) (lawC2 W A l fa cd).env) (("who", .int who) :: ("deed", .int deed) :: lawL2 a.S a.P D dr so nt m.gen m.nxt) φ R := by
  have hf := in01 h0 h1
  have hfp := L.mem hf
  have hcl : (ch who).length ≤ 50 := by have := nodup_le (L.good.nodup who hfp) (fun k hk => chmem L.good hfp hk); have := L.klen; omega
  have hinj : ∀ k ∈ ch who, ∀ j ∈ ch who, oa k = oa j → k = j := fun k hk j hj => L.rows.oin k (chmem L.good hfp hk) j (chmem L.good hfp hj)
  obtain ⟨epD, hD⟩ := L.rows.d
  show XS _ (execs (_ :: _) _) _ _ _
  refine x_assign_comp (cl := []) (pk oa (ch who) fun k => liv (m.rc k)) id [] rfl (fun y c e => (by cases e)) (fun y u c e e' => (by cases e)) (fun y u e => (by cases e)) ?_
  walk_at "m s"
  refine subt_idict hD (dget_refs hf) ?_
  refine ⟨la who, _, rfl, L.rows.l who hf, by rw [rlist_len]; omega, fun Ca D' out hDn G' u hu ρ' hsub' => ?_, fun D' hDn => ?_⟩
  · obtain ⟨k, hk, rfl⟩ := rlist_mem hu
    have ho' := Ext.new (o := .list out) hDn _ _ (L.rows.o k (chmem L.good hfp hk))
    unfold oneO at ho'
    refine ⟨tests_one ?_, fun hp => ?_⟩
    · rw [pk_at hinj hk]
      walk_at "m e"
      exact ⟨rfl, rfl⟩
    · walk_at "m e"
      exact ⟨rfl, rfl⟩
  · rw [filter_pk hinj, List.map_id]
    have hal : ((ch who).filter fun k => liv (m.rc k)) = al m ch who := rfl
    rw [hal]
    have E1 := Ext.new (o := .list (rlist oa (al m ch who))) hDn
    have hlv := upd_self φ D' (.list (rlist oa (al m ch who)))
    have L₁ := L.keep E1
    have hnt₁ := E1 _ _ hnt
    generalize upd φ D' (.list (rlist oa (al m ch who))) = φ₁ at *
    have hS := L₁.rep.sto
    obtain ⟨epP, hPd⟩ := L₁.rep.pdc
    unfold stoO at hS
    obtain ⟨φb, rb, hE, rowsb, drb, hout⟩ := L₁.big
    have hlvb := hout _ _ hlv trivial trivial
    have hntb := hout _ _ hnt₁ trivial trivial
    walk_at "m s"
    refine subt_idict hPd (dget_refs hfp) ?_
    walk_at "m s"
    refine cal_spec ((s_kil ok F rb hfp (L.good.path who hfp) (by omega)).mono ?_)
    rintro _ φ₂ ⟨rfl, r₂⟩
    have hfil : ((ch who).filter fun k => vis (m.rc k) m.gen) = al m ch who := List.filter_congr fun k hk => L.good.vis (chmem L.good hfp hk)
    rw [hfil] at r₂
    obtain ⟨g', _⟩ := L.good.kil hfp
    have hls : ∀ k ∈ al m ch who, k ∈ m.keys := fun k hk => chmem L.good hfp (List.mem_filter.mp hk).1
    have hll : (al m ch who).length ≤ 1000 := Nat.le_trans (List.length_filter_le _ _) (by omega)
    have hlv₂ := r₂.ext _ _ hlvb
    have hnt₂ := r₂.ext _ _ hntb
    have dr₂ := r₂.ext _ _ drb
    have rows₂ := rowsb.ext r₂.ext
    have r₂' := r₂.base hE
    clear hlvb hntb rowsb drb hout rb hS hPd hlv hnt₁ r₂ hE hal hfil hD
    generalize al m ch who = ls at *
    walk_at "m s"
    refine ev_list ?_
    walk_at "m s"
    refine ⟨Nat.zero_le _, fun d1 hd1 => ?_⟩
    have E2 := Ext.new (o := .list []) hd1
    refine cmp_neNil (E2 _ _ hlv₂) (upd_self ..) ?_
    walk_at "m s"
    refine ⟨fun h => ?_, fun h => ?_⟩
    · have hne' : ls ≠ [] := by intro z; rw [z] at h; cases h
      rw [if_neg hne'] at r₂' g'
      walk_at "m s"
      exact kil_loop F G L hnl hne hR hls hll (r₂'.keep E2) g' (rows₂.ext E2) (E2 _ _ hlv₂) (E2 _ _ dr₂) (E2 _ _ hnt₂) (by walk_at "m sub")
    · have hne' : ls = [] := by
        cases ls with
        | nil => rfl
        | cons _ _ => cases h
      rw [if_pos hne'] at r₂' g'
      walk_at "m s"
      rw [Int.add_zero]
      exact kil_loop F G L hnl hne hR hls hll (r₂'.keep E2) g' (rows₂.ext E2) (E2 _ _ hlv₂) (E2 _ _ dr₂) (E2 _ _ hnt₂) (by walk_at "m sub")
end

section
variable {W : Wd} {φ₀ φ φ' : AH} {a : Adr} {m m' : Mdl} {ch : Int → List Int} {D : Addr} {la oa : Int → Addr} {tk : Addr → List PK} {so : Addr} {T : List Addr} {dr : Addr} {ks : List Int} {n : Nat}
theorem Good.klen (g : Good m ch) (hp : m.pks = [0, 1]) : m.keys.length = (ch 0).length + (ch 1).length := by
  obtain ⟨h1, h2⟩ := g.all hp
  have a1 := nodup_le h1 (fun k hk => (h2 k).mp hk)
  have a2 := nodup_le g.knd (fun k hk => (h2 k).mpr hk)
  rw [List.length_append] at a1 a2
  omega
/-- all swept -/
theorem deed_swe (ok : W.Ok) (F : Facts W.K) {A : Around} {l fa : Addr} {cd : Value} (G : Gd (lawC2 W A l fa cd) 6) {nt : Addr} {nl : List Int} {deed who : Int} (hn : n < 50) (L : Lw W φ₀ φ a m ch D la oa tk so T dr ks n)
    {R : AF → Loc → AH → Prop} (hR : ∀ ρ φ', St2 W φ₀ tk so T dr a.S a.P (n + 1) ρ φ' → R .next ρ φ') :
    XS (lawC2 W A l fa cd) (execs (ifB (deedIf 3)) (lawC2 W A l fa cd).env) (("who", .int who) :: ("deed", .int deed) :: lawL2 a.S a.P D dr so nt m.gen m.nxt) φ R := by
  have hcl : ∀ f ∈ ([0, 1] : List Int), (ch f).length ≤ 50 := fun f hf => by have := nodup_le (L.good.nodup f (L.mem hf)) (fun k hk => chmem L.good (L.mem hf) hk); have := L.klen; omega
  show XS _ (execs (_ :: _) _) _ _ _
  refine x_assign ?_
  refine ev_list ?_
  walk_at "m s"
  refine ⟨Nat.zero_le _, fun nt' hnt' => ?_⟩
  have E1 := Ext.new (o := .list []) hnt'
  have hdn : nt' ≠ dr := fun z => by rw [z, L.hdr] at hnt'; cases hnt'
  have hn1 := upd_self φ nt' (.list [])
  have L₁ := L.keep E1
  generalize upd φ nt' (.list []) = φ₁ at *
  clear E1 hnt'
  walk_at "m s"
  refine ev_dict0 fun kd' epk hkd => ?_
  have E2 := Ext.new (o := .idict [] epk) hkd
  have hk0 := upd_self φ₁ kd' (.idict [] epk)
  have hkR : kd' ≠ a.R := fun z => by obtain ⟨ep, e⟩ := L₁.rep.rdc; rw [← z, hkd] at e; cases e
  have hkP : kd' ≠ a.P := fun z => by obtain ⟨ep, e⟩ := L₁.rep.pdc; rw [← z, hkd] at e; cases e
  generalize upd φ₁ kd' (.idict [] epk) = φ₂ at *
  refine XS.sub (ρ' := ("kept_now", .ref kd') :: lawL2 a.S a.P D dr so nt' m.gen m.nxt) ?_ (by walk_at "m sub")
  refine x_for_list ?_
  refine ev_list ?_
  walk_at "m s"
  refine ⟨by show 2 ≤ 1000000; decide, fun dw hdw => ?_⟩
  have E3 := Ext.new (o := .list [.int 0, .int 1]) hdw
  refine ⟨dw, [.int 0, .int 1], rfl, upd_self .., fun i ρ φ' => Sub (("kept_now", .ref kd') :: lawL2 a.S a.P D dr so nt' m.gen m.nxt) ρ ∧ Ext φ₁ φ' ∧ φ' dw = some (.list [.int 0, .int 1]) ∧ ∃ (la' : Int → Addr) (ep : Nat), φ' kd' = some (.idict (refs (([0, 1] : List Int).take i) la') ep) ∧ ∀ f ∈ ([0, 1] : List Int).take i, φ₁ (la' f) = none ∧ φ' (la' f) = some (.list (rlist oa (al m ch f))),
    ⟨Sub.refl _, E2.trans E3, upd_self .., la, epk, E3 _ _ hk0, fun f hf => (by simp at hf)⟩, ?_, ?_, go_name⟩
  · clear hdw E3 hk0 E2
    rintro i x ρ φ₃ hi ⟨hsub, E3, hdw, la', ep, hk3, hla⟩
    refine ⟨hdw, asn_name fun Rj hRj => ?_⟩
    obtain ⟨f, hfi, rfl⟩ : ∃ f, ([0, 1] : List Int)[i]? = some f ∧ x = .int f := by
      match i, hi with
      | 0, hi => exact ⟨0, rfl, by cases hi; rfl⟩
      | 1, hi => exact ⟨1, rfl, by cases hi; rfl⟩
    have hf : f ∈ ([0, 1] : List Int) := List.mem_of_getElem? hfi
    have hfp := L₁.mem hf
    have htk : ([0, 1] : List Int).take (i + 1) = ([0, 1] : List Int).take i ++ [f] := by rw [List.take_add_one, hfi]; rfl
    have hfn : f ∉ ([0, 1] : List Int).take i := fun z => by
      have hnd : ([0, 1] : List Int).Nodup := by decide
      have := (List.take_sublist (i + 1) ([0, 1] : List Int)).nodup hnd
      rw [htk] at this
      exact (List.nodup_append.mp this).2.2 f z f (by simp) rfl
    have L₃ := L₁.keep E3
    obtain ⟨epD, hD⟩ := L₃.rows.d
    have hinj : ∀ k ∈ ch f, ∀ j ∈ ch f, oa k = oa j → k = j := fun k hk j hj => L₁.rows.oin k (chmem L₁.good hfp hk) j (chmem L₁.good hfp hj)
    refine XS.sub ?_ (hsub.under "side" (.int f))
    show XS _ (execs (_ :: _) _) _ _ _
    walk_at "m s"
    refine ev_comp (cl := []) (pk oa (ch f) fun k => liv (m.rc k)) id [] rfl (fun y c e => (by cases e)) (fun y u c e e' => (by cases e)) (fun y u e => (by cases e)) ?_
    walk_at "m s"
    refine subt_idict hD (dget_refs hf) ?_
    refine ⟨la f, _, rfl, L₃.rows.l f hf, by rw [rlist_len]; have := hcl f hf; omega, fun Ca D' out hDn G' u hu ρ' hsub' => ?_, fun D' hDn => ?_⟩
    · obtain ⟨k, hk, rfl⟩ := rlist_mem hu
      have ho' := Ext.new (o := .list out) hDn _ _ (L₃.rows.o k (chmem L₁.good hfp hk))
      unfold oneO at ho'
      refine ⟨tests_one ?_, fun hp => ?_⟩
      · rw [pk_at hinj hk]
        walk_at "m e"
        exact ⟨rfl, rfl⟩
      · walk_at "m e"
        exact ⟨rfl, rfl⟩
    · rw [filter_pk hinj, List.map_id]
      have hal : ((ch f).filter fun k => liv (m.rc k)) = al m ch f := rfl
      rw [hal]
      have E4 := Ext.new (o := .list (rlist oa (al m ch f))) hDn
      have hDs := upd_self φ₃ D' (.list (rlist oa (al m ch f)))
      walk_at "m s"
      have hkk := E4 _ _ hk3
      refine seti_idict hkk (fun ep' => ?_) (by rw [refs_len, List.length_take]; exact Nat.le_trans (Nat.min_le_right _ _) (by show 2 ≤ 1000000; decide))
      rw [dset_refs hfn, ← htk]
      have hc : Chg kd' (upd φ₃ D' (.list (rlist oa (al m ch f)))) (upd (upd φ₃ D' (.list (rlist oa (al m ch f)))) kd' (.idict (refs (([0, 1] : List Int).take (i + 1)) (fset la' f D')) ep')) := Chg.upd
      have nk : ∀ {b : Addr} {o : AO}, upd φ₃ D' (.list (rlist oa (al m ch f))) b = some o → o.notD → b ≠ kd' := fun h1 h2 z => by rw [z, hkk] at h1; cases h1; exact h2
      walk_at "m s"
      exact LoopK.next _ (by walk_at "m sub") ⟨Sub.refl _, (E3.trans E4).put hkd, hc _ _ (nk (E4 _ _ hdw) trivial) (E4 _ _ hdw), fset la' f D', ep', upd_self .., fun f' hf' => by
        rw [htk] at hf'
        by_cases z : f' = f
        · subst z
          rw [fset_self]
          exact ⟨E3.none hDn, hc _ _ (nk hDs trivial) hDs⟩
        · rcases List.mem_append.mp hf' with h | h
          · rw [fset_ne z]
            exact ⟨(hla f' h).1, hc _ _ (nk (E4 _ _ (hla f' h).2) trivial) (E4 _ _ (hla f' h).2)⟩
          · exact absurd (List.mem_singleton.mp h) z⟩
  · clear hdw E3 hk0 E2
    rintro ρ φ₃ ⟨hsub, E3, hdw, la', ep, hk3, hla⟩
    refine ⟨hdw, XS.sub ?_ hsub⟩
    change φ₃ kd' = some (.idict (refs [0, 1] la') ep) at hk3
    change ∀ f ∈ ([0, 1] : List Int), φ₁ (la' f) = none ∧ φ₃ (la' f) = some (.list (rlist oa (al m ch f))) at hla
    have L₃ := L₁.keep E3
    have hnt₃ := E3 _ _ hn1
    obtain ⟨epD, hD⟩ := L₃.rows.d
    have i0 : (0 : Int) ∈ ([0, 1] : List Int) := by decide
    have i1 : (1 : Int) ∈ ([0, 1] : List Int) := by decide
    have c0 := hcl 0 i0
    have c1 := hcl 1 i1
    have al0 : (al m ch 0).length ≤ 50 := Nat.le_trans (List.length_filter_le _ _) c0
    have al1 : (al m ch 1).length ≤ 50 := Nat.le_trans (List.length_filter_le _ _) c1
    walk_at "m s"
    refine subt_idict hD (dget_refs i0) ?_
    walk_at "m s"
    refine subt_idict hD (dget_refs i1) ?_
    refine bin_addL (L₃.rows.l 0 i0) (L₃.rows.l 1 i1) (fun d1 hd1 => ?_) (by rw [rlist_len, rlist_len]; omega)
    have E4 := Ext.new (o := .list (rlist oa (ch 0) ++ rlist oa (ch 1))) hd1
    walk_at "m s"
    refine cal_len_list (upd_self ..) ?_ (by rw [List.length_append, rlist_len, rlist_len]; omega)
    walk_at "m s"
    refine subt_idict (E4 _ _ hk3) (dget_refs i0) ?_
    walk_at "m s"
    refine subt_idict (E4 _ _ hk3) (dget_refs i1) ?_
    refine bin_addL (E4 _ _ (hla 0 i0).2) (E4 _ _ (hla 1 i1).2) (fun d2 hd2 => ?_) (by rw [rlist_len, rlist_len]; omega)
    have E5 := E4.trans (Ext.new (o := .list (rlist oa (al m ch 0) ++ rlist oa (al m ch 1))) hd2)
    walk_at "m s"
    refine cal_len_list (upd_self ..) ?_ (by rw [List.length_append, rlist_len, rlist_len]; omega)
    generalize upd (upd φ₃ d1 (.list (rlist oa (ch 0) ++ rlist oa (ch 1)))) d2 (.list (rlist oa (al m ch 0) ++ rlist oa (al m ch 1))) = φ₄ at *
    rw [List.length_append, rlist_len, rlist_len, List.length_append, rlist_len, rlist_len]
    have L₄ := L₃.keep E5
    have hnt₄ := E5 _ _ hnt₃
    have hk4 := E5 _ _ hk3
    have hla4 : ∀ f ∈ ([0, 1] : List Int), φ₁ (la' f) = none ∧ φ₄ (la' f) = some (.list (rlist oa (al m ch f))) := fun f hf => ⟨(hla f hf).1, E5 _ _ (hla f hf).2⟩
    clear hla hk3 hnt₃ L₃ hD E5 E4 hd1 hd2 hdw
    walk_at "m s"
    obtain ⟨φb, rb, hE, hout⟩ := L₄.rep.big
    have key : ∀ b o, φ₄ b = some o → o.notInst → o.notD → φb b = some o := fun b o e h1 h2 => hout b o e (L₄.rep.outN e h1 h2)
    have hkb := hout _ _ hk4 (L₄.rep.outO hk4 hkR hkP trivial)
    refine cal_spec ((s_swe ok F rb L₄.good).mono ?_)
    rintro _ φ₅ ⟨a', m', rfl, r₅, eS, eP, ePa, g', eg, ep', ek, hsame, enx, ekd⟩
    have hk5 := r₅.ext _ _ hkb
    have hnt5 := r₅.ext _ _ (key _ _ hnt₄ trivial trivial)
    have hdr5 := r₅.ext _ _ (key _ _ L₄.hdr trivial trivial)
    have hla5 := fun f hf => r₅.ext _ _ (key _ _ (hla4 f hf).2 trivial trivial)
    have ho5 := fun k hk => r₅.ext _ _ (key _ _ (L₄.rows.o k hk) trivial trivial)
    have kR' : kd' ≠ a'.R := fun z => by have := r₅.nR; rw [← z, hkb] at this; cases this
    have kP' : kd' ≠ a'.P := fun z => by rw [eP] at z; exact hkP z
    have ek' : m'.keys = al m ch 0 ++ al m ch 1 := by rw [ek, L₄.pks]; simp
    have hks : ∀ k ∈ m'.keys, k ∈ m.keys := fun k hk => by
      rw [ek'] at hk
      rcases List.mem_append.mp hk with h | h
      · exact chmem L₄.good (L₄.mem i0) (List.mem_filter.mp h).1
      · exact chmem L₄.good (L₄.mem i1) (List.mem_filter.mp h).1
    have hkl := L₄.good.klen L₄.pks
    have hkl' : m'.keys.length = (al m ch 0).length + (al m ch 1).length := by rw [ek', List.length_append]
    have L₅ : Lw W φ₀ φ₅ a' m' (al m ch) kd' la' oa tk so T dr ks n :=
      ⟨r₅.base hE, g', ⟨⟨ep, hk5⟩, hla5, fun k hk => by rw [oneO_same (hsame k)]; exact ho5 k (hks k hk), fun k hk j hj => L₄.rows.oin k (hks k hk) j (hks j hj)⟩, ep'.trans L₄.pks, fun f hf => (ekd f).trans (L₄.dyn f hf), ⟨L₄.iks.1, fun k hk => by rw [(hsame k).2.2.2.2]; exact L₄.iks.2 k (hks k hk)⟩, L₄.so, L₄.tup, L₄.tl, by rw [enx]; exact L₄.nxt, L₁.rep.ext.none hkd, fun k hk => L₄.no k (hks k hk), kR', kP', hdr5, L₄.ndr, fun f hf z => (by have := (hla4 f hf).1; rw [← z, L₁.hdr] at this; cases this), L₄.ksl⟩
    walk_at "m s"
    refine ⟨fun h => ?_, fun _ => ?_⟩
    · exfalso
      rw [hkl, hkl'] at h
      simp at h
    walk_at "m s"
    exact hR _ _ ⟨a', m', al m ch, kd', la', oa, ks, nt', [], by rw [eg, enx]; walk_at "m sub", eS, eP, L₅.nx, hnt5, Nat.zero_le _, hdn⟩
end

def LawQ (fl : AF) (_ : Loc) (_ : AH) : Prop := fl = .ret (.bool true)
section
variable {W : Wd} {φ₀ φ φ' : AH} {tk : Addr → List PK} {so : Addr} {T : List Addr} {dr S P : Addr} {n : Nat}
theorem law_check (ok : W.Ok) (F : Facts W.K) {A : Around} {l fa : Addr} {cd : Value} (G : Gd (lawC2 W A l fa cd) 6) {ρ : Loc} (h : St2 W φ₀ tk so T dr S P n ρ φ)
    {R : AF → Loc → AH → Prop} (hR : ∀ ρ φ', St2 W φ₀ tk so T dr S P n ρ φ' → R .next ρ φ') :
    XS (lawC2 W A l fa cd) (execs (turnB.drop 3) (lawC2 W A l fa cd).env) ρ φ R := by
  obtain ⟨a, m, ch, D, la, oa, ks, nt, nl, hsub, rfl, rfl, L, hnt, hnl, hne⟩ := h
  refine XS.sub ?_ hsub
  show XS _ (execs (_ :: _) _) _ _ _
  have hS := L.rep.sto
  unfold stoO at hS
  walk_at "m s"
  refine ⟨fun h => (by simp at h), fun _ => ?_⟩
  walk_at "m s"
  refine cal_spec ((s_chk ok F L.rep).mono ?_)
  rintro _ φ₁ ⟨bb, rfl, E, _, hg⟩
  rw [hg _ L.good]
  walk_at "m s"
  refine ⟨fun h => (by cases h), fun _ => ?_⟩
  walk_at "m s"
  refine if_f ?_
  walk_at "m s"
  exact hR _ _ ⟨a, m, ch, D, la, oa, ks, nt, nl, by walk_at "m sub", rfl, rfl, L.keep E, E _ _ hnt, hnl, hne⟩
theorem law_turn (ok : W.Ok) (F : Facts W.K) {A : Around} {l fa : Addr} {cd : Value} (G : Gd (lawC2 W A l fa cd) 6) {ρ : Loc} (hn : n < 50) (h : St2 W φ₀ tk so T dr S P n ρ φ)
    {R : AF → Loc → AH → Prop} (hR : ∀ ρ φ', St2 W φ₀ tk so T dr S P (n + 1) ρ φ' → R .next ρ φ') :
    XS (lawC2 W A l fa cd) (execs turnB (lawC2 W A l fa cd).env) ρ φ R := by
  obtain ⟨a, m, ch, D, la, oa, ks, nt, nl, hsub, rfl, rfl, L, hnt, hnl, hne⟩ := h
  have fin : ∀ ρ φ', St2 W φ₀ tk so T dr a.S a.P (n + 1) ρ φ' → Then (lawC2 W A l fa cd) (turnB.drop 3) R .next ρ φ' := fun ρ φ' h => Then.go (law_check ok F G h hR)
  refine XS.sub ?_ hsub
  show XS _ (execs (_ :: _) _) _ _ _
  walk_at "m s"
  refine cal_spec ((s_cho ok F L.hdr (by have := L.ksl; omega) (by decide)).mono ?_)
  rintro _ φ₁ ⟨deed, ks1, rfl, _, _, hc, hd, hl⟩
  have L₁ := L.cho hc hd hl
  have hnt₁ := hc _ _ hne hnt
  clear hc hd hl L hnt
  walk_at "m s"
  refine cal_spec ((s_cho ok F L₁.hdr (by have := L₁.ksl; omega) (by decide)).mono ?_)
  rintro _ φ₂ ⟨who, ks2, rfl, w0, w1, hc, hd, hl⟩
  have L₂ := L₁.cho hc hd hl
  have hnt₂ := hc _ _ hne hnt₁
  clear hc hd hl L₁ hnt₁
  walk_at "m s"
  refine ⟨fun _ => deed_new ok F G w0 w1 hn L₂ hnt₂ hnl hne fin, fun _ => ?_⟩
  walk_at "m s"
  refine ⟨fun _ => deed_era ok F G hn L₂ hnt₂ hnl hne (fun ρ φ' h => Then.go (xs_nil (fin ρ φ' h))), fun _ => ?_⟩
  walk_at "m s"
  refine ⟨fun _ => deed_kil ok F G w0 w1 hn L₂ hnt₂ hnl hne (fun ρ φ' h => Then.go (xs_nil (Then.go (xs_nil (fin ρ φ' h))))), fun _ => ?_⟩
  walk_at "m s"
  refine ⟨fun _ => deed_swe ok F G (nt := nt) (nl := nl) hn L₂ (fun ρ φ' h => Then.go (xs_nil (Then.go (xs_nil (Then.go (xs_nil (fin ρ φ' h))))))), fun _ => ?_⟩
  exact deed_note ok F G L₂ hnt₂ hnl (fun ρ φ' h => Then.go (xs_nil (Then.go (xs_nil (Then.go (xs_nil (fin ρ φ' h)))))))
theorem law_end2 (ok : W.Ok) (F : Facts W.K) {A : Around} {l fa : Addr} {cd : Value} (G : Gd (lawC2 W A l fa cd) 6) {ρ : Loc} (hn : n < 50) (h : St2 W φ₀ tk so T dr S P n ρ φ) :
    XS (lawC2 W A l fa cd) (execs ((dBody (st1 17)).drop 9) (lawC2 W A l fa cd).env) ρ φ LawQ := by
  obtain ⟨a, m, ch, D, la, oa, ks, nt, nl, hsub, rfl, rfl, L, hnt, hnl, hne⟩ := h
  refine XS.sub ?_ hsub
  show XS _ (execs (_ :: _) _) _ _ _
  refine x_for_list ?_
  walk_at "m s"
  refine ev_list ?_
  walk_at "m s"
  refine ⟨by show 1 ≤ 1000000; decide, fun d1 hd1 => ?_⟩
  have E1 := Ext.new (o := .list [.int m.gen]) hd1
  refine bin_addL (E1 _ _ hnt) (upd_self ..) (fun d2 hd2 => ?_) (by rw [List.length_map]; show _ + 1 ≤ _; omega)
  have E2 := E1.trans (Ext.new (o := .list (nl.map AV.int ++ [.int m.gen])) hd2)
  have hdl := upd_self (upd φ d1 (.list [.int m.gen])) d2 (.list (nl.map AV.int ++ [.int m.gen]))
  generalize upd (upd φ d1 (.list [.int m.gen])) d2 (.list (nl.map AV.int ++ [.int m.gen])) = φ₁ at *
  refine ⟨d2, _, rfl, hdl, fun i ρ φ' => Sub (lawL2 a.S a.P D dr so nt m.gen m.nxt) ρ ∧ Ext φ₁ φ', ⟨Sub.refl _, Ext.refl _⟩, ?_, ?_, go_name⟩
  · rintro i x ρ φ₂ hi ⟨hsub, E3⟩
    refine ⟨E3 _ _ hdl, asn_name fun Rj hRj => ?_⟩
    obtain ⟨w, rfl⟩ : ∃ w, x = .int w := by
      have := List.mem_of_getElem? hi
      rcases List.mem_append.mp this with h | h
      · obtain ⟨w, _, rfl⟩ := List.mem_map.mp h; exact ⟨w, rfl⟩
      · rw [List.mem_singleton.mp h]; exact ⟨_, rfl⟩
    refine XS.sub ?_ (hsub.under "when" (.int w))
    show XS _ (execs (_ :: _) _) _ _ _
    walk_at "m s"
    refine cal_spec ((s_loo ok F ((L.keep (E2.trans E3)).loo (by omega))).mono ?_)
    rintro _ φ₃ ⟨rfl, E4⟩
    walk_at "m s"
    refine ⟨fun h => (by cases h), fun _ => ?_⟩
    walk_at "m s"
    exact LoopK.next _ (by walk_at "m sub") ⟨Sub.refl _, E3.trans E4⟩
  · rintro ρ φ₂ ⟨hsub, E3⟩
    refine ⟨E3 _ _ hdl, XS.sub ?_ hsub⟩
    have L₂ := L.keep (E2.trans E3)
    have hS := L₂.rep.sto
    obtain ⟨epR, hRd⟩ := L₂.rep.rdc
    obtain ⟨epD, hD⟩ := L₂.rows.d
    have hkl := L₂.klen
    have hk2 := L₂.good.klen L₂.pks
    unfold stoO at hS
    walk_at "m s"
    refine cal_len_idict hRd ?_ (by rw [refs_len]; omega)
    walk_at "m s"
    refine subt_idict hD (dget_refs (by decide)) ?_
    walk_at "m s"
    refine cal_len_list (L₂.rows.l 0 (by decide)) ?_ (by rw [rlist_len]; omega)
    walk_at "m s"
    refine subt_idict hD (dget_refs (by decide)) ?_
    walk_at "m s"
    refine cal_len_list (L₂.rows.l 1 (by decide)) ?_ (by rw [rlist_len]; omega)
    rw [refs_len, rlist_len, rlist_len, hk2]
    walk_at "m s"
    show _ = _
    simp
end

theorem XS.low {C : FC} {x : Sem Flow} {ρ : Loc} {φ : AH} {R : AF → Loc → AH → Prop} {t : Addr} {o : AO} (e : φ t = some o) (h : C.W.g.objs.size ≤ t → XS C x ρ φ R) : XS C x ρ φ R := fun fz s S => by
  obtain ⟨⟨m, ψ, H⟩, _⟩ := id S
  exact h (H.ok.own t (.inl ⟨o, e⟩)) fz s S
theorem Sub.over {l ρ : Loc} {x : Str} {v : AV} (h : Sub l ρ) (hx : l.lookup x = none) : Sub l ((x, v) :: ρ) := fun y u e => by
  rw [List.lookup_cons]
  cases hy : (y == x) with
  | false => exact h y u e
  | true => rw [beq_iff_eq.mp hy, hx] at e; cases e
noncomputable def P0 (f : Int) (c t : AV) : Prc := ⟨f, "dynamic", c, t, -1, -1⟩
noncomputable def M0 (c0 t0 c1 t1 : AV) : Mdl := ⟨[], fun _ => ⟨0, 0, .none, .none, 0, 0, 0⟩, 0, 0, [0, 1], fun f => if f = 0 then P0 0 c0 t0 else P0 1 c1 t1⟩
noncomputable def A0 (S R P p0 p1 : Addr) : Adr := ⟨S, R, P, fun _ => 0, fun f => if f = 0 then p0 else p1⟩
section
variable {W : Wd} {φ₀ φ : AH}
theorem m01 {f : Int} (h : f ∈ ([0, 1] : List Int)) : f = 0 ∨ f = 1 := by
  simp only [List.mem_cons, List.not_mem_nil, or_false] at h; exact h
theorem rep0 {S R P p0 p1 : Addr} {c0 t0 c1 t1 : AV} {ep ep' : Nat} (hE : Ext φ₀ φ) (h1 : φ S = some (stoO R 0 0)) (h2 : φ R = some (.idict [] ep)) (h3 : φ P = some (.idict [(0, .ref p0), (1, .ref p1)] ep'))
    (h7 : φ p0 = some (prcO (P0 0 c0 t0))) (h8 : φ p1 = some (prcO (P0 1 c1 t1)))
    (nS : φ₀ S = none) (nR : φ₀ R = none) (nP : φ₀ P = none) (n7 : φ₀ p0 = none) (n8 : φ₀ p1 = none) (d1 : R ≠ P) (d2 : p0 ≠ p1) : Rep φ₀ φ (A0 S R P p0 p1) (M0 c0 t0 c1 t1) := by
  refine ⟨hE, h1, ⟨ep, h2⟩, ⟨ep', h3⟩, fun k h => (by cases h), fun f hf => ?_, nS, nR, nP, fun k h => (by cases h), fun f hf => ?_, d1, fun k h => (by cases h), fun f hf g hg e => ?_, Nat.zero_le _⟩
  · rcases m01 hf with rfl | rfl
    · exact h7
    · exact h8
  · rcases m01 hf with rfl | rfl
    · exact n7
    · exact n8
  · rcases m01 hf with rfl | rfl <;> rcases m01 hg with rfl | rfl
    · rfl
    · exact absurd e d2
    · exact absurd e.symm d2
    · rfl
theorem good0 {c0 t0 c1 t1 : AV} : Good (M0 c0 t0 c1 t1) (fun _ => []) := by
  have key : ∀ f ∈ (M0 c0 t0 c1 t1).pks, ((M0 c0 t0 c1 t1).pr f).first = -1 ∧ ((M0 c0 t0 c1 t1).pr f).last = -1 ∧ ((M0 c0 t0 c1 t1).pr f).fn = f := fun f hf => by
    rcases m01 hf with rfl | rfl <;> exact ⟨rfl, rfl, rfl⟩
  refine ⟨.nil, fun k => ⟨fun h => (by cases h), fun ⟨_, _, h⟩ => (by cases h)⟩, fun f hf => ?_, fun f hf => (key f hf).2.1, fun _ _ => .nil, fun _ _ k h => (by cases h), fun k h => (by cases h), fun k h => (by cases h), fun k h => (by cases h), fun k h => (by cases h), fun f hf => (key f hf).2.2, fun _ _ _ => rfl, by show ([0, 1] : List Int).Nodup; decide, Int.le_refl _, Int.le_refl _⟩
  show ((M0 c0 t0 c1 t1).pr f).first < 0
  rw [(key f hf).1]; decide
theorem law_loop (ok : W.Ok) (F : Facts W.K) {A : Around} {l fa : Addr} {cd : Value} (G : Gd (lawC2 W A l fa cd) 6) {tk : Addr → List PK} {so : Addr} {T : List Addr} {dr S P : Addr} {ρ : Loc} (h : St2 W φ₀ tk so T dr S P 0 ρ φ) :
    XS (lawC2 W A l fa cd) (execs ((dBody (st1 17)).drop 8) (lawC2 W A l fa cd).env) ρ φ LawQ := by
  obtain ⟨a, m, ch, D, la, oa, ks, nt, nl, hsub, rfl, rfl, L, hnt, hnl, hne⟩ := h
  refine XS.sub ?_ hsub
  show XS _ (execs (_ :: _) _) _ _ _
  refine x_for_range ?_
  walk_at "m s"
  refine cal_spec ((s_cho ok F L.hdr (by have := L.ksl; omega) (by decide)).mono ?_)
  rintro _ φ₁ ⟨v, ks1, rfl, v0, v1, hc, hd, hl⟩
  have L₁ := L.cho hc hd hl
  have hnt₁ := hc _ _ hne hnt
  clear hc hd hl L hnt
  walk_at "m s"
  refine cal_range fun rg hrg => ?_
  have E1 := Ext.new (o := .rng v) hrg
  refine ⟨rg, v.toNat, rfl, by rw [upd_self]; congr 2; omega, by omega, fun i ρ φ' => St2 W φ₀ tk so T dr a.S a.P i ρ φ', ⟨a, m, ch, D, la, oa, ks1, nt, nl, Sub.refl _, rfl, rfl, L₁.keep E1, E1 _ _ hnt₁, hnl, hne⟩, ?_, ?_⟩
  · rintro i ρ φ' hi h
    refine asn_name fun Rj hRj => ?_
    obtain ⟨a', m', ch', D', la', oa', ks', nt', nl', hsub', eS, eP, L', h1, h2, h3⟩ := h
    exact law_turn ok F G (n := i) (by omega) ⟨a', m', ch', D', la', oa', ks', nt', nl', hsub'.over rfl, eS, eP, L', h1, h2, h3⟩ (fun ρ φ' h => hRj _ _ _ (LoopK.next _ (Sub.refl _) h))
  · rintro ρ φ' h
    exact law_end2 ok F G (by omega) h
theorem law_xs2 (ok : W.Ok) (F : Facts W.K) {A : Around} {l fa : Addr} {cd : Value} (G : Gd (lawC2 W A l fa cd) 6) {sc : Addr} {vs : List Value} {ns : List Int} (hl : W.g.IsList sc vs.toArray) (hi : IntsAre vs ns) (hz : ns.length ≤ 1000) :
    XS (lawC2 W A l fa cd) (execs (dBody (st1 17)) (lawC2 W A l fa cd).env) ([("script", .ref sc)] : Loc) (fun _ => none) LawQ := by
  show XS _ (execs (_ :: _) _) _ _ _
  walk_at "m s"
  refine cal_spec ((s_dig ok F hl hi hz).mono ?_)
  rintro _ φ₁ ⟨dr, ks, rfl, _, E0, hdr, hks⟩
  walk_at "m s"
  refine cal_cls (lvl := 1) F.kS (fun x hx => (s_iSto ok F).mono ?_)
  rintro _ _ ⟨rfl, R, ep, hR, hRx, rfl⟩
  refine ⟨rfl, ?_⟩
  have E1 : Ext φ₁ (upd (upd φ₁ R (.idict [] ep)) x (stoO R 0 0)) := ((Ext.refl φ₁).put hR).put hx
  have hx1 := upd_self (upd φ₁ R (.idict [] ep)) x (stoO R 0 0)
  have hR1 : upd (upd φ₁ R (.idict [] ep)) x (stoO R 0 0) R = some (.idict [] ep) := by rw [upd_ne hRx, upd_self]
  generalize upd (upd φ₁ R (.idict [] ep)) x (stoO R 0 0) = φ₂ at *
  walk_at "m s"
  refine ev_dictI fun P epP hP => ?_
  refine ep_cons ?_
  walk_at "m s"
  refine cal_cls (lvl := 1) F.kP (fun p0 hp0 => (s_iPro ok F hp0).mono ?_)
  rintro _ φ₃ ⟨rfl, E3, c0, t0, h0⟩
  refine ⟨rfl, ?_⟩
  refine ep_cons ?_
  walk_at "m s"
  refine cal_cls (lvl := 1) F.kP (fun p1 hp1 => (s_iPro ok F hp1).mono ?_)
  rintro _ φ₄ ⟨rfl, E4, c1, t1, h1⟩
  refine ⟨rfl, ?_⟩
  refine ep_nil (ks := []) ?_
  have hP4 : φ₄ P = some (.idict [] epP) := E4 _ _ (E3 _ _ (upd_self ..))
  refine ⟨[(0, .ref p0), (1, .ref p1)], epP, rfl, hP4, by show ([0, 1] : List Int).Nodup; decide, fun epP' => ?_⟩
  have E24 : Ext φ₂ φ₄ := (Ext.new hP).trans (E3.trans E4)
  have nePx : x ≠ P := by intro z; rw [← z, hx1] at hP; cases hP
  have nePR : R ≠ P := by intro z; rw [← z, hR1] at hP; cases hP
  have nePd : dr ≠ P := by intro z; rw [← z, E1 _ _ hdr] at hP; cases hP
  have h04 := E4 _ _ h0
  have d01 : p0 ≠ p1 := by intro z; rw [← z, h0] at hp1; cases hp1
  have r5 : Rep (fun _ => none) (upd φ₄ P (.idict [(0, .ref p0), (1, .ref p1)] epP')) (A0 x R P p0 p1) (M0 c0 t0 c1 t1) := by
    refine rep0 (ep := ep) (ep' := epP') (fun _ _ h => (by cases h)) ?_ ?_ (upd_self ..) ?_ ?_ rfl rfl rfl rfl rfl nePR d01
    · rw [upd_ne nePx]; exact E24 _ _ hx1
    · rw [upd_ne nePR]; exact E24 _ _ hR1
    · rw [upd_ne (fun z => by rw [z, hP4] at h04; cases h04)]; exact h04
    · rw [upd_ne (fun z => by rw [z, hP4] at h1; cases h1)]; exact h1
  have hdr5 : upd φ₄ P (.idict [(0, .ref p0), (1, .ref p1)] epP') dr = some (.list (ks.map .int)) := by rw [upd_ne nePd]; exact E24 _ _ (E1 _ _ hdr)
  generalize upd φ₄ P (.idict [(0, .ref p0), (1, .ref p1)] epP') = φ₅ at *
  clear hP4 E24 nePx nePR nePd h04 h0 h1 hp1 hp0 E3 E4 hP hx1 hR1 E1 E0 hdr hR hx hRx
  clear φ₁ φ₂ φ₃ φ₄
  walk_at "m s"
  refine ev_list ?_
  walk_at "m s"
  refine ev_tuple ?_
  walk_at "m s"
  refine ⟨by show 2 ≤ 1000000; decide, fun ta hta => ?_⟩
  walk_at "m s"
  refine ev_tuple ?_
  walk_at "m s"
  refine ⟨by show 2 ≤ 1000000; decide, fun tb htb => ?_⟩
  walk_at "m s"
  refine ev_tuple ?_
  walk_at "m s"
  refine ⟨by show 2 ≤ 1000000; decide, fun tc htc => ?_⟩
  walk_at "m s"
  refine ⟨by show 4 ≤ 1000000; decide, fun so hso => ?_⟩
  have Ea := Ext.new (o := .tup [.str "a", .int 1]) hta
  have Eb := Ext.new (o := .tup [.str "a", .int 2]) htb
  have Ec := Ext.new (o := .tup [.str "s", .int 1]) htc
  have Es := Ext.new (o := .list [.ref VKA, .ref ta, .ref tb, .ref tc]) hso
  have a1 := Es _ _ (Ec _ _ (Eb _ _ (upd_self φ₅ ta (.tup [.str "a", .int 1]))))
  have b1 := Es _ _ (Ec _ _ (upd_self (upd φ₅ ta (.tup [.str "a", .int 1])) tb (.tup [.str "a", .int 2])))
  have c1' := Es _ _ (upd_self (upd (upd φ₅ ta (.tup [.str "a", .int 1])) tb (.tup [.str "a", .int 2])) tc (.tup [.str "s", .int 1]))
  have s1 := upd_self (upd (upd (upd φ₅ ta (.tup [.str "a", .int 1])) tb (.tup [.str "a", .int 2])) tc (.tup [.str "s", .int 1])) so (.list [.ref VKA, .ref ta, .ref tb, .ref tc])
  have dab : tb ≠ ta := by intro z; rw [z, upd_self] at htb; cases htb
  have dac : tc ≠ ta := by intro z; rw [z, Eb _ _ (upd_self ..)] at htc; cases htc
  have dbc : tc ≠ tb := by intro z; rw [z, upd_self] at htc; cases htc
  have E56 := Ea.trans (Eb.trans (Ec.trans Es))
  have dso : dr ≠ so := by intro z; rw [← z, Ec _ _ (Eb _ _ (Ea _ _ hdr5))] at hso; cases hso
  generalize upd (upd (upd (upd φ₅ ta (.tup [.str "a", .int 1])) tb (.tup [.str "a", .int 2])) tc (.tup [.str "s", .int 1])) so (.list [.ref VKA, .ref ta, .ref tb, .ref tc]) = φ₆ at *
  have r6 := r5.keep E56
  have hdr6 := E56 _ _ hdr5
  clear Ea Eb Ec Es hta htb htc hso E56 r5 hdr5
  clear φ₅
  walk_at "m s"
  refine ev_dictI fun D epD hD => ?_
  refine ep_cons ?_
  walk_at "m s"
  refine ev_list ?_
  walk_at "m s"
  refine ⟨Nat.zero_le _, fun l0 hl0 => ?_⟩
  refine ep_cons ?_
  walk_at "m s"
  refine ev_list ?_
  walk_at "m s"
  refine ⟨Nat.zero_le _, fun l1 hl1 => ?_⟩
  refine ep_nil (ks := []) ?_
  have n01 : l0 ≠ l1 := by intro z; rw [← z, upd_self] at hl1; cases hl1
  have nD0 : D ≠ l0 := by intro z; rw [← z, upd_self] at hl0; cases hl0
  have nD1 : D ≠ l1 := by intro z; rw [← z, upd_ne nD0, upd_self] at hl1; cases hl1
  have ED := Ext.new (o := .idict [] epD) hD
  have EL0 := Ext.new (o := .list []) hl0
  have EL1 := Ext.new (o := .list []) hl1
  refine ⟨[(0, .ref l0), (1, .ref l1)], epD, rfl, by rw [upd_ne nD1, upd_ne nD0, upd_self], by show ([0, 1] : List Int).Nodup; decide, fun epD' => ?_⟩
  have dR : D ≠ R := by intro z; obtain ⟨ep, e⟩ := r6.rdc; have e : φ₆ R = _ := e; rw [← z, hD] at e; cases e
  have dP : D ≠ P := by intro z; obtain ⟨ep, e⟩ := r6.pdc; have e : φ₆ P = _ := e; rw [← z, hD] at e; cases e
  have E67 := (ED.trans (EL0.trans EL1)).put (o := .idict [(0, .ref l0), (1, .ref l1)] epD') hD
  have hD7 := upd_self (upd (upd (upd φ₆ D (.idict [] epD)) l0 (.list [])) l1 (.list [])) D (.idict [(0, .ref l0), (1, .ref l1)] epD')
  have hl07 : upd (upd (upd (upd φ₆ D (.idict [] epD)) l0 (.list [])) l1 (.list [])) D (.idict [(0, .ref l0), (1, .ref l1)] epD') l0 = some (.list []) := by rw [upd_ne (Ne.symm nD0), upd_ne n01, upd_self]
  have hl17 : upd (upd (upd (upd φ₆ D (.idict [] epD)) l0 (.list [])) l1 (.list [])) D (.idict [(0, .ref l0), (1, .ref l1)] epD') l1 = some (.list []) := by rw [upd_ne (Ne.symm nD1), upd_self]
  have dl0 : dr ≠ l0 := by intro z; rw [← z, ED _ _ hdr6] at hl0; cases hl0
  have dl1 : dr ≠ l1 := by intro z; rw [← z, EL0 _ _ (ED _ _ hdr6)] at hl1; cases hl1
  generalize upd (upd (upd (upd φ₆ D (.idict [] epD)) l0 (.list [])) l1 (.list [])) D (.idict [(0, .ref l0), (1, .ref l1)] epD') = φ₇ at *
  have r7 := r6.keep E67
  have hdr7 := E67 _ _ hdr6
  have a7 := E67 _ _ a1
  have b7 := E67 _ _ b1
  have c7 := E67 _ _ c1'
  have s7 := E67 _ _ s1
  clear ED EL0 EL1 hl0 hl1 hD E67 r6 hdr6 a1 b1 c1' s1
  clear φ₆
  walk_at "m s"
  refine ev_list ?_
  walk_at "m s"
  refine ⟨Nat.zero_le _, fun nt hnt => ?_⟩
  have E8 := Ext.new (o := .list []) hnt
  have hnt8 := upd_self φ₇ nt (.list [])
  have dnt : nt ≠ dr := by intro z; rw [z, hdr7] at hnt; cases hnt
  generalize upd φ₇ nt (.list []) = φ₈ at *
  have r8 := r7.keep E8
  have hdr8 := E8 _ _ hdr7
  have a8 := E8 _ _ a7
  have b8 := E8 _ _ b7
  have c8 := E8 _ _ c7
  have s8 := E8 _ _ s7
  have hD8 := E8 _ _ hD7
  have l08 := E8 _ _ hl07
  have l18 := E8 _ _ hl17
  clear a7 b7 c7 s7 hdr7 r7 hD7 hl07 hl17 hnt E8
  refine XS.low a8 fun la => XS.low b8 fun lb => XS.low c8 fun lc => ?_
  have hvl : VKA < W.g.objs.size := by
    obtain ⟨d, n, sl, t, e⟩ := F.var
    exact Heap.lt_size (ok.X _ _ e)
  have va : VKA ≠ ta := by intro z; rw [← z] at la; exact absurd hvl (Nat.not_lt.mpr la)
  have vb : VKA ≠ tb := by intro z; rw [← z] at lb; exact absurd hvl (Nat.not_lt.mpr lb)
  have vc : VKA ≠ tc := by intro z; rw [← z] at lc; exact absurd hvl (Nat.not_lt.mpr lc)
  clear la lb lc hvl
  obtain ⟨φb, rb, _, hout⟩ := r8.big
  obtain ⟨φB, hB1, hB2⟩ : ∃ φB : AH, (∀ b, (b = so ∨ b = ta ∨ b = tb ∨ b = tc) → φB b = φ₈ b) ∧ ∀ b, ¬ (b = so ∨ b = ta ∨ b = tb ∨ b = tc) → φB b = none :=
    ⟨fun b => if b = so ∨ b = ta ∨ b = tb ∨ b = tc then φ₈ b else none, fun b h => if_pos h, fun b h => if_neg h⟩
  obtain ⟨tk, k1, k2, k3, k4⟩ : ∃ tk : Addr → List PK, tk ta = [.s "a", .i 1] ∧ tk tb = [.s "a", .i 2] ∧ tk tc = [.s "s", .i 1] ∧ tk VKA = VK := by
    refine ⟨fun y => if y = ta then [.s "a", .i 1] else if y = tb then [.s "a", .i 2] else if y = tc then [.s "s", .i 1] else VK, if_pos rfl, ?_, ?_, ?_⟩
    · show (if tb = ta then _ else if tb = tb then _ else _) = _
      rw [if_neg dab, if_pos rfl]
    · show (if tc = ta then _ else if tc = tb then _ else if tc = tc then _ else _) = _
      rw [if_neg dac, if_neg dbc, if_pos rfl]
    · show (if VKA = ta then _ else if VKA = tb then _ else if VKA = tc then _ else VK) = VK
      rw [if_neg va, if_neg vb, if_neg vc]
  have sB : φB so = some (.list [.ref VKA, .ref ta, .ref tb, .ref tc]) := (hB1 _ (.inl rfl)).trans s8
  have aB : φB ta = some (.tup [.str "a", .int 1]) := (hB1 _ (.inr (.inl rfl))).trans a8
  have bB : φB tb = some (.tup [.str "a", .int 2]) := (hB1 _ (.inr (.inr (.inl rfl)))).trans b8
  have cB : φB tc = some (.tup [.str "s", .int 1]) := (hB1 _ (.inr (.inr (.inr rfl)))).trans c8
  have EB : Ext φB φb := fun b o e => by
    by_cases hb : b = so ∨ b = ta ∨ b = tb ∨ b = tc
    · have e' : φ₈ b = some o := (hB1 b hb).symm.trans e
      rcases hb with h | h | h | h
      · rw [h] at e' ⊢; exact hout _ _ e' (r8.outN s8 trivial trivial)
      · rw [h] at e' ⊢; exact hout _ _ e' (r8.outN a8 trivial trivial)
      · rw [h] at e' ⊢; exact hout _ _ e' (r8.outN b8 trivial trivial)
      · rw [h] at e' ⊢; exact hout _ _ e' (r8.outN c8 trivial trivial)
    · rw [hB2 b hb] at e; cases e
  have nB : ∀ {b : Addr}, b ≠ so → b ≠ ta → b ≠ tb → b ≠ tc → φB b = none := fun h1 h2 h3 h4 => hB2 _ (by rintro (h | h | h | h); exact h1 h; exact h2 h; exact h3 h; exact h4 h)
  refine law_loop (φ₀ := φB) (tk := tk) (so := so) (T := [VKA, ta, tb, tc]) (dr := dr) (S := x) (P := P) ok F G
    ⟨A0 x R P p0 p1, M0 c0 t0 c1 t1, fun _ => [], D, fun f => if f = 0 then l0 else l1, fun _ => 0, ks, nt, [], by walk_at "m sub", rfl, rfl, ?_, hnt8, Nat.zero_le _, dnt⟩
  refine ⟨rb.base EB, good0, ⟨⟨epD', hD8⟩, fun f hf => ?_, fun k h => (by cases h), fun k h => (by cases h)⟩, rfl, fun f hf => ?_, ⟨k4, fun k h => (by cases h)⟩, sB, fun t ht => ?_, rfl, Int.le_refl _, ?_, fun k h => (by cases h), dR, dP, hdr8, ?_, fun f hf => ?_, hks⟩
  · rcases m01 hf with rfl | rfl
    · exact l08
    · exact l18
  · rcases m01 hf with rfl | rfl <;> rfl
  · simp only [List.mem_cons, List.not_mem_nil, or_false] at ht
    rcases ht with h | h | h | h
    · rw [h, k4]; exact var_at ok F
    · rw [h, k1]; exact .inl aB
    · rw [h, k2]; exact .inl bB
    · rw [h, k3]; exact .inl cB
  · exact nB (fun z => by rw [z, s8] at hD8; cases hD8) (fun z => by rw [z, a8] at hD8; cases hD8) (fun z => by rw [z, b8] at hD8; cases hD8) (fun z => by rw [z, c8] at hD8; cases hD8)
  · exact nB dso (fun z => by rw [z, a8] at hdr8; cases hdr8) (fun z => by rw [z, b8] at hdr8; cases hdr8) (fun z => by rw [z, c8] at hdr8; cases hdr8)
  · rcases m01 hf with rfl | rfl
    · exact dl0
    · exact dl1
end

theorem law_final2 {prog : Program} {w : World} {K : Frag} {g : Heap} {mg mb : Str → Option Value} {p : Program} {loose : List Str} {h₁ : Heap} {L fa a : Addr} {cd : Value} {A : Around} {m : Str → Option Value} {gens : Array GenState} {drawn : Drawn} {toks : Nat} {os : OsState} {vs : List Value} {ns : List Int}
    (X : K.In g) (T : TopRead p loose mg mb g) (hF : Facts K) (F : Fr g L h₁ m) (hm : m "script" = some (.ref a)) (hc : ∃ ov, h₁.IsCell (L + 1) ov) (hl : g.IsList a vs.toArray) (hi : IntsAre vs ns) (hz : ns.length ≤ 1000) (hd : A.depth + 12 < recursionLimit) (hu : A.units + 248 < cLine) (hh : A.handled = none)
    {Q : Flow → Shared → Prop} {E : Value → Shared → Prop} (hQ : ∀ s : Shared, (∀ b o, g.get? b = some o → s.heap.get? b = some o) → s.os = os → s.gens = gens → Q (.ret (.bool true)) s) : wpAny (model prog w) A (execs (dBody (st1 17)) (envX "law" (dScope (st1 17)) L fa cd (cellsFrom (L + 1) (dScope (st1 17)).names []))) Q E ⟨h₁, gens, drawn, toks, os⟩ := by
  have ok : Wd.Ok ⟨prog, w, K, g, mg, mb, p, loose, gens, os⟩ := ⟨X, T⟩
  have one : ∀ x c, (lawC2 ⟨prog, w, K, g, mg, mb, p, loose, gens, os⟩ A L fa cd).cl.lookup x = some c → x = "number" ∧ c = L + 1 := fun x c e => by
    have e : List.lookup x [(("number" : Str), L + 1)] = some c := e
    exact lookup_one e
  have G : Gd (lawC2 ⟨prog, w, K, g, mg, mb, p, loose, gens, os⟩ A L fa cd) 6 :=
    ⟨ok, ⟨hd, by show A.units + 8 * 6 + 200 < _; omega, hh⟩, rfl, rfl, rfl, (fun x c e => by
      obtain ⟨_, rfl⟩ := one x c e
      exact ⟨Nat.succ_ne_self L, Nat.le_trans F.above (Nat.le_succ L)⟩), (fun x y c e e' => (one x c e).1.trans (one y c e').1.symm)⟩
  have nc : ∀ ψ b, ¬ cov (fun _ => none) ψ b := by
    rintro ψ b (⟨o, e⟩ | ⟨c, D, fs, e, _⟩) <;> cases e
  have S : St (lawC2 ⟨prog, w, K, g, mg, mb, p, loose, gens, os⟩ A L fa cd) (fun _ => none) ([("script", .ref a)] : Loc) (fun _ => none) ⟨h₁, gens, drawn, toks, os⟩ := by
    refine ⟨⟨m, fun b => b, F, ⟨F.keep, fun b o e => (by cases e), fun b c => absurd c (nc _ b), fun b D fs e => (by cases e), fun b c D fs D' fs' e => (by cases e), fun b o e => (by cases e)⟩, fun b _ => ⟨nc _ b, rfl⟩, fun x v e _ => ?_, (fun x v c e q => ?_), (fun x c q => ?_)⟩, rfl, rfl⟩
    · obtain ⟨rfl, rfl⟩ := lookup_one e
      exact ⟨_, hm, rfl⟩
    · obtain ⟨rfl, rfl⟩ := lookup_one e
      have := (one _ _ q).1
      exact absurd this (by decide)
    · obtain ⟨_, rfl⟩ := one x c q
      exact hc
  refine wpAny_mono (law_xs2 ok hF G hl hi hz _ _ S) (fun fl s' => ?_) fun _ _ x => x.elim
  rintro ⟨b, ρ', φ', hb, ⟨⟨m', ψ', H'⟩, g', o'⟩, q⟩
  cases q
  obtain ⟨u, rfl, rfl⟩ := hb
  exact hQ s' H'.fr.keep o' g'

end Mine
end
open PySem PySem.W PyProof.Rows
set_option Elab.async false
set_option maxRecDepth 100000
set_option linter.unusedVariables false
set_option maxHeartbeats 8000000 in
theorem PySem.Challenge.cw_ok0011_02_holds : PySem.Challenge.rw_ok0011_02.Holds := by
  w_on; o_law
  refine holds_open (q := Mine.view) (loose := []) (Xt := fun s => xlAt Mine.view [] s && recOk (RowW.records PySem.Challenge.rw_ok0011_02.row.toRowW) s) (XP := XL Mine.view []) (Yf := Hook.obs Mine.hook) (Ya := Hook.val Mine.hook) (YP := Hook.says Mine.hook) (N := 3014) ?hl (Hook.of Mine.hook) (Hook.keeps Mine.hook) (fun s e => xl_of s (Bool.and_eq_true_iff.mp e).1) XL.keeps (by rfl) (by rfl) (by rfl) (fun s e => recFacts_of (Bool.and_eq_true_iff.mp e).2) (by rfl) (by first | assumption | decide +kernel) (by decide +kernel) ⟨rfl, rfl, rfl, rfl, rfl, by decide +kernel⟩ ?hw ?hc
  case hl => exact Mine.run_left
  case hw => w_witness2
  case hc =>
    w_strict (k_go0; skip)
    refine Mine.law_final2 ‹Frag.In _ _› (topRead_of ‹Top _ _ _ _ _ _›) ?hF ‹Fr _ _ _ _› rfl ⟨_, _, (‹News _ _ _ _› _ (List.mem_cons_self ..)).1, ‹_ = Data.cell _›⟩ ‹Heap.IsList _ _ _› ‹IntsAre _ _› (by omega) (Nat.le_of_ble_eq_true rfl) (Nat.le_of_ble_eq_true rfl) rfl ?hQ
    case hF =>
      constructor
      all_goals first
        | (refine Mine.ClsOk.mk (fun x => ?_) ?_ ?_ ?_ <;> with_unfolding_all rfl)
        | (refine Mine.MkOk.mk ?_ ?_ ?_ <;> with_unfolding_all rfl)
        | (refine Mine.MthOk.mk ?_ ?_ ?_ <;> with_unfolding_all rfl)
        | (refine Mine.GlbOk.mk ?_ ?_ <;> with_unfolding_all rfl)
        | (refine Mine.NsOk.mk ?_; with_unfolding_all rfl)
        | (refine Mine.BltOk.mk ?_ ?_ ?_; (with_unfolding_all rfl); (with_unfolding_all rfl); decide)
        | (with_unfolding_all exact ⟨_, _, _, _, rfl⟩)
        | (unfold Mine.FnAt; exact ⟨_, _, _, _, _, _, _, _, _, rfl, rfl⟩)
        | (repeat' (first | exact trivial | refine And.intro ?_ ?_ | refine Mine.FldOk.mk ?_ ?_ | with_unfolding_all rfl))
    case hQ =>
      intro s hk ho hg
      refine ⟨.inl ⟨.bool true, .bool true, [], rfl, fun _ => rfl, ReadsW.bool true, ?_, fun _ => ⟨.nil, fun a h => by cases h⟩⟩, hk, ho, hg.trans (by assumption)⟩
      with_unfolding_all rfl
