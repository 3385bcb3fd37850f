import PyProof.Rows.All
import Wide.All
import OpenK.AllK
import Wide.FinOn
import PySem.Challenge.RW_sa0443_01
section
open PySem PySem.W PyProof.Rows
set_option Elab.async false
set_option maxRecDepth 1000000
set_option maxHeartbeats 8000000
namespace Mine
/-- the parts of the text that the heap's objects bear -/
noncomputable def stAt (i : Nat) : Stmt := (PySem.Challenge.pw_sa0443_01.main.body.drop i).headD (.Pass ⟨0, 0, 0, 0⟩)
noncomputable def inAt (i j : Nat) : Stmt := match stAt i with
  | .ClassDef _ _ _ b _ _ _ _ _ _ _ => (b.drop j).headD (.Pass ⟨0, 0, 0, 0⟩)
  | s => s
noncomputable def aOf : Stmt → Arguments
  | .FunctionDef _ a _ _ _ _ _ _ _ _ => a
  | _ => ⟨[], [], none, [], [], none, []⟩
noncomputable def bOf : Stmt → List Stmt
  | .FunctionDef _ _ b _ _ _ _ _ _ _ => b
  | _ => []
noncomputable def sOf : Stmt → PySem.Scope
  | .FunctionDef _ _ _ _ _ _ s _ _ _ => s
  | _ => { kind := .function, names := [], isGenerator := false, isCoroutine := false }
noncomputable def KK (P : Params) : Frag := [
  (3, { cls := Value.type "dict", data := Data.dict #[{ hash := PyData.keyHash P (Str.ofString "__name__"), key := Value.str (Str.ofString "__name__") 165, val := Value.str (Str.ofString "law_sa0443_01") 544 }, { hash := PyData.keyHash P (Str.ofString "__doc__"), key := Value.str (Str.ofString "__doc__") 166, val := Value.none }, { hash := PyData.keyHash P (Str.ofString "__package__"), key := Value.str (Str.ofString "__package__") 167, val := Value.none }, { hash := PyData.keyHash P (Str.ofString "__loader__"), key := Value.str (Str.ofString "__loader__") 168, val := Value.builtin "__main__.__loader__#opaque" }, { hash := PyData.keyHash P (Str.ofString "__spec__"), key := Value.str (Str.ofString "__spec__") 169, val := Value.none }, { hash := PyData.keyHash P (Str.ofString "__annotations__"), key := Value.str (Str.ofString "__annotations__") 170, val := Value.ref 6 }, { hash := PyData.keyHash P (Str.ofString "__builtins__"), key := Value.str (Str.ofString "__builtins__") 171, val := Value.ref 4 }, { hash := PyData.keyHash P (Str.ofString "__file__"), key := Value.str (Str.ofString "__file__") 173, val := Value.str (Str.ofString "/claim/cut.py") 172 }, { hash := PyData.keyHash P (Str.ofString "__cached__"), key := Value.str (Str.ofString "__cached__") 174, val := Value.none }, { hash := PyData.keyHash P (Str.ofString "_wall"), key := Value.str (Str.ofString "_wall") 193, val := Value.ref 21 }, { hash := PyData.keyHash P (Str.ofString "LendError"), key := Value.str (Str.ofString "LendError") 227, val := Value.ref 39 }, { hash := PyData.keyHash P (Str.ofString "TraitFault"), key := Value.str (Str.ofString "TraitFault") 243, val := Value.ref 52 }, { hash := PyData.keyHash P (Str.ofString "head_pairs"), key := Value.str (Str.ofString "head_pairs") 255, val := Value.ref 61 }, { hash := PyData.keyHash P (Str.ofString "could_be"), key := Value.str (Str.ofString "could_be") 269, val := Value.ref 68 }, { hash := PyData.keyHash P (Str.ofString "match_type"), key := Value.str (Str.ofString "match_type") 285, val := Value.ref 75 }, { hash := PyData.keyHash P (Str.ofString "match_all"), key := Value.str (Str.ofString "match_all") 299, val := Value.ref 82 }, { hash := PyData.keyHash P (Str.ofString "COPY"), key := Value.str (Str.ofString "COPY") 301, val := Value.str (Str.ofString "Copy") 300 }, { hash := PyData.keyHash P (Str.ofString "MOST_DEEP"), key := Value.str (Str.ofString "MOST_DEEP") 305, val := Value.int 60 304 }, { hash := PyData.keyHash P (Str.ofString "names_of"), key := Value.str (Str.ofString "names_of") 311, val := Value.ref 87 }, { hash := PyData.keyHash P (Str.ofString "matches_impl"), key := Value.str (Str.ofString "matches_impl") 322, val := Value.ref 94 }, { hash := PyData.keyHash P (Str.ofString "is_plainly_copy"), key := Value.str (Str.ofString "is_plainly_copy") 329, val := Value.ref 101 }, { hash := PyData.keyHash P (Str.ofString "Selection"), key := Value.str (Str.ofString "Selection") 411, val := Value.ref 149 }, { hash := PyData.keyHash P (Str.ofString "select"), key := Value.str (Str.ofString "select") 425, val := Value.ref 160 }, { hash := PyData.keyHash P (Str.ofString "holds"), key := Value.str (Str.ofString "holds") 436, val := Value.ref 167 }, { hash := PyData.keyHash P (Str.ofString "unmet_bounds"), key := Value.str (Str.ofString "unmet_bounds") 450, val := Value.ref 174 }, { hash := PyData.keyHash P (Str.ofString "ImplRow"), key := Value.str (Str.ofString "ImplRow") 496, val := Value.ref 192 }, { hash := PyData.keyHash P (Str.ofString "World"), key := Value.str (Str.ofString "World") 543, val := Value.ref 221 }, { hash := PyData.keyHash P (Str.ofString "_law_pool"), key := Value.str (Str.ofString "_law_pool") 556, val := Value.ref 232 }, { hash := PyData.keyHash P (Str.ofString "_law_take"), key := Value.str (Str.ofString "_law_take") 565, val := Value.ref 239 }, { hash := PyData.keyHash P (Str.ofString "_law_one"), key := Value.str (Str.ofString "_law_one") 573, val := Value.ref 246 }, { hash := PyData.keyHash P (Str.ofString "_law_box"), key := Value.str (Str.ofString "_law_box") 577, val := Value.ref 248 }, { hash := PyData.keyHash P (Str.ofString "_law_pair"), key := Value.str (Str.ofString "_law_pair") 583, val := Value.ref 252 }, { hash := PyData.keyHash P (Str.ofString "_law_needs"), key := Value.str (Str.ofString "_law_needs") 589, val := Value.ref 257 }, { hash := PyData.keyHash P (Str.ofString "_law_world"), key := Value.str (Str.ofString "_law_world") 595, val := Value.ref 262 }, { hash := PyData.keyHash P (Str.ofString "_law_type"), key := Value.str (Str.ofString "_law_type") 604, val := Value.ref 269 }, { hash := PyData.keyHash P (Str.ofString "_law_parts"), key := Value.str (Str.ofString "_law_parts") 611, val := Value.ref 276 }, { hash := PyData.keyHash P (Str.ofString "_law_answers"), key := Value.str (Str.ofString "_law_answers") 617, val := Value.ref 281 }, { hash := PyData.keyHash P (Str.ofString "_law_due"), key := Value.str (Str.ofString "_law_due") 629, val := Value.ref 288 }, { hash := PyData.keyHash P (Str.ofString "_law_asked_right"), key := Value.str (Str.ofString "_law_asked_right") 635, val := Value.ref 293 }, { hash := PyData.keyHash P (Str.ofString "law"), key := Value.str (Str.ofString "law") 647, val := Value.ref 300 }] 40 }),
  (60, { cls := Value.type "code", data := Data.fields #[Value.str (Str.ofString "head_pairs") 246, Value.str (Str.ofString "head_pairs") 247, Value.str (Str.ofString "/claim/cut.py") 248, Value.int 14 0, Value.int 2 0, Value.int 0 0, Value.int 0 0, Value.int 3 0, Value.ref 55, Value.bool true, Value.int 181 0, Value.ref 56, Value.none, Value.ref 57, Value.ref 58, Value.ref 59, Value.int 253 0, Value.int 14 0, Value.str (Str.ofString "/claim/cut.py") 254] }),
  (61, { cls := Value.type "function", data := Data.func { name := Str.ofString "head_pairs", qualname := Str.ofString "head_pairs", params := Mine.aOf (Mine.stAt 5), body := FuncBody.stmts (Mine.bOf (Mine.stAt 5)), scope := Mine.sOf (Mine.stAt 5), globals := 3, closure := [], defaults := Value.none, kwdefaults := Value.none, pyModule := Value.str (Str.ofString "lendcore.type_heads") 244, code := Value.ref 60 } }),
  (74, { cls := Value.type "code", data := Data.fields #[Value.str (Str.ofString "match_type") 270, Value.str (Str.ofString "match_type") 271, Value.str (Str.ofString "/claim/cut.py") 272, Value.int 52 0, Value.int 4 0, Value.int 0 0, Value.int 0 0, Value.int 3 0, Value.ref 69, Value.bool true, Value.int 181 0, Value.ref 70, Value.none, Value.ref 71, Value.ref 72, Value.ref 73, Value.int 283 0, Value.int 52 0, Value.str (Str.ofString "/claim/cut.py") 284] }),
  (75, { cls := Value.type "function", data := Data.func { name := Str.ofString "match_type", qualname := Str.ofString "match_type", params := Mine.aOf (Mine.stAt 7), body := FuncBody.stmts (Mine.bOf (Mine.stAt 7)), scope := Mine.sOf (Mine.stAt 7), globals := 3, closure := [], defaults := Value.none, kwdefaults := Value.none, pyModule := Value.str (Str.ofString "lendcore.type_heads") 244, code := Value.ref 74 } }),
  (81, { cls := Value.type "code", data := Data.fields #[Value.str (Str.ofString "match_all") 286, Value.str (Str.ofString "match_all") 287, Value.str (Str.ofString "/claim/cut.py") 288, Value.int 73 0, Value.int 4 0, Value.int 0 0, Value.int 0 0, Value.int 3 0, Value.ref 76, Value.bool true, Value.int 181 0, Value.ref 77, Value.none, Value.ref 78, Value.ref 79, Value.ref 80, Value.int 297 0, Value.int 73 0, Value.str (Str.ofString "/claim/cut.py") 298] }),
  (82, { cls := Value.type "function", data := Data.func { name := Str.ofString "match_all", qualname := Str.ofString "match_all", params := Mine.aOf (Mine.stAt 8), body := FuncBody.stmts (Mine.bOf (Mine.stAt 8)), scope := Mine.sOf (Mine.stAt 8), globals := 3, closure := [], defaults := Value.none, kwdefaults := Value.none, pyModule := Value.str (Str.ofString "lendcore.type_heads") 244, code := Value.ref 81 } }),
  (86, { cls := Value.type "code", data := Data.fields #[Value.str (Str.ofString "names_of") 306, Value.str (Str.ofString "names_of") 307, Value.str (Str.ofString "/claim/cut.py") 308, Value.int 86 0, Value.int 1 0, Value.int 0 0, Value.int 0 0, Value.int 3 0, Value.ref 83, Value.bool true, Value.int 181 0, Value.ref 84, Value.none, Value.none, Value.none, Value.ref 85, Value.int 309 0, Value.int 86 0, Value.str (Str.ofString "/claim/cut.py") 310] }),
  (87, { cls := Value.type "function", data := Data.func { name := Str.ofString "names_of", qualname := Str.ofString "names_of", params := Mine.aOf (Mine.stAt 12), body := FuncBody.stmts (Mine.bOf (Mine.stAt 12)), scope := Mine.sOf (Mine.stAt 12), globals := 3, closure := [], defaults := Value.none, kwdefaults := Value.none, pyModule := Value.str (Str.ofString "lendcore.traits") 302, code := Value.ref 86 } }),
  (93, { cls := Value.type "code", data := Data.fields #[Value.str (Str.ofString "matches_impl") 312, Value.str (Str.ofString "matches_impl") 313, Value.str (Str.ofString "/claim/cut.py") 314, Value.int 88 0, Value.int 3 0, Value.int 0 0, Value.int 0 0, Value.int 3 0, Value.ref 88, Value.bool true, Value.int 181 0, Value.ref 89, Value.none, Value.ref 90, Value.ref 91, Value.ref 92, Value.int 320 0, Value.int 88 0, Value.str (Str.ofString "/claim/cut.py") 321] }),
  (94, { cls := Value.type "function", data := Data.func { name := Str.ofString "matches_impl", qualname := Str.ofString "matches_impl", params := Mine.aOf (Mine.stAt 13), body := FuncBody.stmts (Mine.bOf (Mine.stAt 13)), scope := Mine.sOf (Mine.stAt 13), globals := 3, closure := [], defaults := Value.none, kwdefaults := Value.none, pyModule := Value.str (Str.ofString "lendcore.traits") 302, code := Value.ref 93 } }),
  (100, { cls := Value.type "code", data := Data.fields #[Value.str (Str.ofString "is_plainly_copy") 323, Value.str (Str.ofString "is_plainly_copy") 324, Value.str (Str.ofString "/claim/cut.py") 325, Value.int 94 0, Value.int 1 0, Value.int 0 0, Value.int 0 0, Value.int 3 0, Value.ref 95, Value.bool true, Value.int 181 0, Value.ref 96, Value.none, Value.ref 97, Value.ref 98, Value.ref 99, Value.int 327 0, Value.int 94 0, Value.str (Str.ofString "/claim/cut.py") 328] }),
  (101, { cls := Value.type "function", data := Data.func { name := Str.ofString "is_plainly_copy", qualname := Str.ofString "is_plainly_copy", params := Mine.aOf (Mine.stAt 14), body := FuncBody.stmts (Mine.bOf (Mine.stAt 14)), scope := Mine.sOf (Mine.stAt 14), globals := 3, closure := [], defaults := Value.none, kwdefaults := Value.none, pyModule := Value.str (Str.ofString "lendcore.traits") 302, code := Value.ref 100 } }),
  (114, { cls := Value.type "code", data := Data.fields #[Value.str (Str.ofString "__init__") 342, Value.str (Str.ofString "Selection.__init__") 343, Value.str (Str.ofString "/claim/cut.py") 344, Value.int 102 0, Value.int 3 0, Value.int 0 0, Value.int 0 0, Value.int 3 0, Value.ref 109, Value.bool true, Value.int 181 0, Value.ref 110, Value.none, Value.ref 111, Value.ref 112, Value.ref 113, Value.int 348 0, Value.int 102 0, Value.str (Str.ofString "/claim/cut.py") 349] }),
  (115, { cls := Value.type "function", data := Data.func { name := Str.ofString "__init__", qualname := Str.ofString "Selection.__init__", params := Mine.aOf (Mine.inAt 15 0), body := FuncBody.stmts (Mine.bOf (Mine.inAt 15 0)), scope := Mine.sOf (Mine.inAt 15 0), globals := 3, closure := [], defaults := Value.none, kwdefaults := Value.none, pyModule := Value.str (Str.ofString "lendcore.traits") 302, code := Value.ref 114 } }),
  (121, { cls := Value.type "code", data := Data.fields #[Value.str (Str.ofString "bound_of") 351, Value.str (Str.ofString "Selection.bound_of") 352, Value.str (Str.ofString "/claim/cut.py") 353, Value.int 107 0, Value.int 3 0, Value.int 0 0, Value.int 0 0, Value.int 3 0, Value.ref 116, Value.bool true, Value.int 181 0, Value.ref 117, Value.none, Value.ref 118, Value.ref 119, Value.ref 120, Value.int 357 0, Value.int 107 0, Value.str (Str.ofString "/claim/cut.py") 358] }),
  (122, { cls := Value.type "function", data := Data.func { name := Str.ofString "bound_of", qualname := Str.ofString "Selection.bound_of", params := Mine.aOf (Mine.inAt 15 1), body := FuncBody.stmts (Mine.bOf (Mine.inAt 15 1)), scope := Mine.sOf (Mine.inAt 15 1), globals := 3, closure := [], defaults := Value.none, kwdefaults := Value.none, pyModule := Value.str (Str.ofString "lendcore.traits") 302, code := Value.ref 121 } }),
  (126, { cls := Value.type "code", data := Data.fields #[Value.str (Str.ofString "needs_of") 360, Value.str (Str.ofString "Selection.needs_of") 361, Value.str (Str.ofString "/claim/cut.py") 362, Value.int 112 0, Value.int 3 0, Value.int 0 0, Value.int 0 0, Value.int 3 0, Value.ref 123, Value.bool true, Value.int 181 0, Value.ref 124, Value.none, Value.none, Value.none, Value.ref 125, Value.int 363 0, Value.int 112 0, Value.str (Str.ofString "/claim/cut.py") 364] }),
  (127, { cls := Value.type "function", data := Data.func { name := Str.ofString "needs_of", qualname := Str.ofString "Selection.needs_of", params := Mine.aOf (Mine.inAt 15 2), body := FuncBody.stmts (Mine.bOf (Mine.inAt 15 2)), scope := Mine.sOf (Mine.inAt 15 2), globals := 3, closure := [], defaults := Value.none, kwdefaults := Value.none, pyModule := Value.str (Str.ofString "lendcore.traits") 302, code := Value.ref 126 } }),
  (133, { cls := Value.type "code", data := Data.fields #[Value.str (Str.ofString "candidates") 366, Value.str (Str.ofString "Selection.candidates") 367, Value.str (Str.ofString "/claim/cut.py") 368, Value.int 119 0, Value.int 5 0, Value.int 0 0, Value.int 0 0, Value.int 3 0, Value.ref 128, Value.bool true, Value.int 181 0, Value.ref 129, Value.none, Value.ref 130, Value.ref 131, Value.ref 132, Value.int 381 0, Value.int 119 0, Value.str (Str.ofString "/claim/cut.py") 382] }),
  (134, { cls := Value.type "function", data := Data.func { name := Str.ofString "candidates", qualname := Str.ofString "Selection.candidates", params := Mine.aOf (Mine.inAt 15 3), body := FuncBody.stmts (Mine.bOf (Mine.inAt 15 3)), scope := Mine.sOf (Mine.inAt 15 3), globals := 3, closure := [], defaults := Value.none, kwdefaults := Value.none, pyModule := Value.str (Str.ofString "lendcore.traits") 302, code := Value.ref 133 } }),
  (140, { cls := Value.type "code", data := Data.fields #[Value.str (Str.ofString "asked") 384, Value.str (Str.ofString "Selection.asked") 385, Value.str (Str.ofString "/claim/cut.py") 386, Value.int 133 0, Value.int 5 0, Value.int 0 0, Value.int 0 0, Value.int 3 0, Value.ref 135, Value.bool true, Value.int 181 0, Value.ref 136, Value.none, Value.ref 137, Value.ref 138, Value.ref 139, Value.int 392 0, Value.int 133 0, Value.str (Str.ofString "/claim/cut.py") 393] }),
  (141, { cls := Value.type "function", data := Data.func { name := Str.ofString "asked", qualname := Str.ofString "Selection.asked", params := Mine.aOf (Mine.inAt 15 4), body := FuncBody.stmts (Mine.bOf (Mine.inAt 15 4)), scope := Mine.sOf (Mine.inAt 15 4), globals := 3, closure := [], defaults := Value.none, kwdefaults := Value.none, pyModule := Value.str (Str.ofString "lendcore.traits") 302, code := Value.ref 140 } }),
  (145, { cls := Value.type "code", data := Data.fields #[Value.str (Str.ofString "answer_of") 395, Value.str (Str.ofString "Selection.answer_of") 396, Value.str (Str.ofString "/claim/cut.py") 397, Value.int 140 0, Value.int 5 0, Value.int 0 0, Value.int 0 0, Value.int 3 0, Value.ref 142, Value.bool true, Value.int 181 0, Value.ref 143, Value.none, Value.none, Value.none, Value.ref 144, Value.int 398 0, Value.int 140 0, Value.str (Str.ofString "/claim/cut.py") 399] }),
  (146, { cls := Value.type "function", data := Data.func { name := Str.ofString "answer_of", qualname := Str.ofString "Selection.answer_of", params := Mine.aOf (Mine.inAt 15 5), body := FuncBody.stmts (Mine.bOf (Mine.inAt 15 5)), scope := Mine.sOf (Mine.inAt 15 5), globals := 3, closure := [], defaults := Value.none, kwdefaults := Value.none, pyModule := Value.str (Str.ofString "lendcore.traits") 302, code := Value.ref 145 } }),
  (148, { cls := Value.type "dict", data := Data.dict #[{ hash := PyData.keyHash P (Str.ofString "__module__"), key := Value.str (Str.ofString "__module__") 337, val := Value.str (Str.ofString "lendcore.traits") 302 }, { hash := PyData.keyHash P (Str.ofString "__firstlineno__"), key := Value.str (Str.ofString "__firstlineno__") 341, val := Value.int 100 340 }, { hash := PyData.keyHash P (Str.ofString "__init__"), key := Value.str (Str.ofString "__init__") 350, val := Value.ref 115 }, { hash := PyData.keyHash P (Str.ofString "bound_of"), key := Value.str (Str.ofString "bound_of") 359, val := Value.ref 122 }, { hash := PyData.keyHash P (Str.ofString "needs_of"), key := Value.str (Str.ofString "needs_of") 365, val := Value.ref 127 }, { hash := PyData.keyHash P (Str.ofString "candidates"), key := Value.str (Str.ofString "candidates") 383, val := Value.ref 134 }, { hash := PyData.keyHash P (Str.ofString "asked"), key := Value.str (Str.ofString "asked") 394, val := Value.ref 141 }, { hash := PyData.keyHash P (Str.ofString "answer_of"), key := Value.str (Str.ofString "answer_of") 400, val := Value.ref 146 }, { hash := PyData.keyHash P (Str.ofString "__static_attributes__"), key := Value.str (Str.ofString "__static_attributes__") 404, val := Value.ref 147 }, { hash := PyData.keyHash P (Str.ofString "__dict__"), key := Value.str (Str.ofString "__dict__") 406, val := Value.ref 150 }, { hash := PyData.keyHash P (Str.ofString "__weakref__"), key := Value.str (Str.ofString "__weakref__") 408, val := Value.ref 151 }, { hash := PyData.keyHash P (Str.ofString "__doc__"), key := Value.str (Str.ofString "__doc__") 409, val := Value.none }] 4 }),
  (149, { cls := Value.type "type", data := Data.cls { name := Str.ofString "Selection", bases := [Value.type "object"], mro := [Value.ref 149, Value.type "object"], ns := 148, qualname := Str.ofString "Selection" }, slots := #[none, none, some (Value.str (Str.ofString "Selection") 330), some (Value.str (Str.ofString "Selection") 338), some (Value.builtin "object.__new__"), some (Value.bool true)] }),
  (159, { cls := Value.type "code", data := Data.fields #[Value.str (Str.ofString "select") 412, Value.str (Str.ofString "select") 413, Value.str (Str.ofString "/claim/cut.py") 414, Value.int 153 0, Value.int 5 0, Value.int 0 0, Value.int 0 0, Value.int 3 0, Value.ref 154, Value.bool true, Value.int 181 0, Value.ref 155, Value.none, Value.ref 156, Value.ref 157, Value.ref 158, Value.int 423 0, Value.int 153 0, Value.str (Str.ofString "/claim/cut.py") 424] }),
  (160, { cls := Value.type "function", data := Data.func { name := Str.ofString "select", qualname := Str.ofString "select", params := Mine.aOf (Mine.stAt 16), body := FuncBody.stmts (Mine.bOf (Mine.stAt 16)), scope := Mine.sOf (Mine.stAt 16), globals := 3, closure := [], defaults := Value.none, kwdefaults := Value.none, pyModule := Value.str (Str.ofString "lendcore.traits") 302, code := Value.ref 159 } }),
  (166, { cls := Value.type "code", data := Data.fields #[Value.str (Str.ofString "holds") 426, Value.str (Str.ofString "holds") 427, Value.str (Str.ofString "/claim/cut.py") 428, Value.int 166 0, Value.int 5 0, Value.int 0 0, Value.int 0 0, Value.int 3 0, Value.ref 161, Value.bool true, Value.int 181 0, Value.ref 162, Value.none, Value.ref 163, Value.ref 164, Value.ref 165, Value.int 434 0, Value.int 166 0, Value.str (Str.ofString "/claim/cut.py") 435] }),
  (167, { cls := Value.type "function", data := Data.func { name := Str.ofString "holds", qualname := Str.ofString "holds", params := Mine.aOf (Mine.stAt 17), body := FuncBody.stmts (Mine.bOf (Mine.stAt 17)), scope := Mine.sOf (Mine.stAt 17), globals := 3, closure := [], defaults := Value.none, kwdefaults := Value.none, pyModule := Value.str (Str.ofString "lendcore.traits") 302, code := Value.ref 166 } }),
  (173, { cls := Value.type "code", data := Data.fields #[Value.str (Str.ofString "unmet_bounds") 437, Value.str (Str.ofString "unmet_bounds") 438, Value.str (Str.ofString "/claim/cut.py") 439, Value.int 168 0, Value.int 4 0, Value.int 0 0, Value.int 0 0, Value.int 3 0, Value.ref 168, Value.bool true, Value.int 181 0, Value.ref 169, Value.none, Value.ref 170, Value.ref 171, Value.ref 172, Value.int 448 0, Value.int 168 0, Value.str (Str.ofString "/claim/cut.py") 449] }),
  (174, { cls := Value.type "function", data := Data.func { name := Str.ofString "unmet_bounds", qualname := Str.ofString "unmet_bounds", params := Mine.aOf (Mine.stAt 18), body := FuncBody.stmts (Mine.bOf (Mine.stAt 18)), scope := Mine.sOf (Mine.stAt 18), globals := 3, closure := [], defaults := Value.none, kwdefaults := Value.none, pyModule := Value.str (Str.ofString "lendcore.traits") 302, code := Value.ref 173 } }),
  (182, { cls := Value.type "tuple", data := Data.seq #[Value.int 0 465] }),
  (188, { cls := Value.type "code", data := Data.fields #[Value.str (Str.ofString "__init__") 466, Value.str (Str.ofString "ImplRow.__init__") 467, Value.str (Str.ofString "/claim/cut.py") 468, Value.int 178 0, Value.int 9 0, Value.int 0 0, Value.int 0 0, Value.int 3 0, Value.ref 183, Value.bool true, Value.int 181 0, Value.ref 184, Value.none, Value.ref 185, Value.ref 186, Value.ref 187, Value.int 478 0, Value.int 178 0, Value.str (Str.ofString "/claim/cut.py") 479] }),
  (189, { cls := Value.type "function", data := Data.func { name := Str.ofString "__init__", qualname := Str.ofString "ImplRow.__init__", params := Mine.aOf (Mine.inAt 20 0), body := FuncBody.stmts (Mine.bOf (Mine.inAt 20 0)), scope := Mine.sOf (Mine.inAt 20 0), globals := 3, closure := [], defaults := Value.ref 182, kwdefaults := Value.none, pyModule := Value.str (Str.ofString "lendcore.world") 451, code := Value.ref 188 } }),
  (191, { cls := Value.type "dict", data := Data.dict #[{ hash := PyData.keyHash P (Str.ofString "__module__"), key := Value.str (Str.ofString "__module__") 460, val := Value.str (Str.ofString "lendcore.world") 451 }, { hash := PyData.keyHash P (Str.ofString "__firstlineno__"), key := Value.str (Str.ofString "__firstlineno__") 464, val := Value.int 176 463 }, { hash := PyData.keyHash P (Str.ofString "__init__"), key := Value.str (Str.ofString "__init__") 480, val := Value.ref 189 }, { hash := PyData.keyHash P (Str.ofString "__static_attributes__"), key := Value.str (Str.ofString "__static_attributes__") 489, val := Value.ref 190 }, { hash := PyData.keyHash P (Str.ofString "__dict__"), key := Value.str (Str.ofString "__dict__") 491, val := Value.ref 193 }, { hash := PyData.keyHash P (Str.ofString "__weakref__"), key := Value.str (Str.ofString "__weakref__") 493, val := Value.ref 194 }, { hash := PyData.keyHash P (Str.ofString "__doc__"), key := Value.str (Str.ofString "__doc__") 494, val := Value.none }] 4 }),
  (192, { cls := Value.type "type", data := Data.cls { name := Str.ofString "ImplRow", bases := [Value.type "object"], mro := [Value.ref 192, Value.type "object"], ns := 191, qualname := Str.ofString "ImplRow" }, slots := #[none, none, some (Value.str (Str.ofString "ImplRow") 453), some (Value.str (Str.ofString "ImplRow") 461), some (Value.builtin "object.__new__"), some (Value.bool true)] }),
  (204, { cls := Value.type "tuple", data := Data.seq #[Value.none] }),
  (210, { cls := Value.type "code", data := Data.fields #[Value.str (Str.ofString "__init__") 509, Value.str (Str.ofString "World.__init__") 510, Value.str (Str.ofString "/claim/cut.py") 511, Value.int 189 0, Value.int 2 0, Value.int 0 0, Value.int 0 0, Value.int 3 0, Value.ref 205, Value.bool true, Value.int 181 0, Value.ref 206, Value.none, Value.ref 207, Value.ref 208, Value.ref 209, Value.int 514 0, Value.int 189 0, Value.str (Str.ofString "/claim/cut.py") 515] }),
  (211, { cls := Value.type "function", data := Data.func { name := Str.ofString "__init__", qualname := Str.ofString "World.__init__", params := Mine.aOf (Mine.inAt 21 0), body := FuncBody.stmts (Mine.bOf (Mine.inAt 21 0)), scope := Mine.sOf (Mine.inAt 21 0), globals := 3, closure := [], defaults := Value.ref 204, kwdefaults := Value.none, pyModule := Value.str (Str.ofString "lendcore.world") 451, code := Value.ref 210 } }),
  (220, { cls := Value.type "dict", data := Data.dict #[{ hash := PyData.keyHash P (Str.ofString "__module__"), key := Value.str (Str.ofString "__module__") 504, val := Value.str (Str.ofString "lendcore.world") 451 }, { hash := PyData.keyHash P (Str.ofString "__firstlineno__"), key := Value.str (Str.ofString "__firstlineno__") 508, val := Value.int 187 507 }, { hash := PyData.keyHash P (Str.ofString "__init__"), key := Value.str (Str.ofString "__init__") 516, val := Value.ref 211 }, { hash := PyData.keyHash P (Str.ofString "is_field_seen"), key := Value.str (Str.ofString "is_field_seen") 527, val := Value.ref 218 }, { hash := PyData.keyHash P (Str.ofString "__static_attributes__"), key := Value.str (Str.ofString "__static_attributes__") 536, val := Value.ref 219 }, { hash := PyData.keyHash P (Str.ofString "__dict__"), key := Value.str (Str.ofString "__dict__") 538, val := Value.ref 222 }, { hash := PyData.keyHash P (Str.ofString "__weakref__"), key := Value.str (Str.ofString "__weakref__") 540, val := Value.ref 223 }, { hash := PyData.keyHash P (Str.ofString "__doc__"), key := Value.str (Str.ofString "__doc__") 541, val := Value.none }] 4 }),
  (221, { cls := Value.type "type", data := Data.cls { name := Str.ofString "World", bases := [Value.type "object"], mro := [Value.ref 221, Value.type "object"], ns := 220, qualname := Str.ofString "World" }, slots := #[none, none, some (Value.str (Str.ofString "World") 497), some (Value.str (Str.ofString "World") 505), some (Value.builtin "object.__new__"), some (Value.bool true)] }),
  (231, { cls := Value.type "code", data := Data.fields #[Value.str (Str.ofString "_law_pool") 546, Value.str (Str.ofString "_law_pool") 547, Value.str (Str.ofString "/claim/cut.py") 548, Value.int 202 0, Value.int 2 0, Value.int 0 0, Value.int 0 0, Value.int 3 0, Value.ref 226, Value.bool true, Value.int 181 0, Value.ref 227, Value.none, Value.ref 228, Value.ref 229, Value.ref 230, Value.int 554 0, Value.int 202 0, Value.str (Str.ofString "/claim/cut.py") 555] }),
  (232, { cls := Value.type "function", data := Data.func { name := Str.ofString "_law_pool", qualname := Str.ofString "_law_pool", params := Mine.aOf (Mine.stAt 23), body := FuncBody.stmts (Mine.bOf (Mine.stAt 23)), scope := Mine.sOf (Mine.stAt 23), globals := 3, closure := [], defaults := Value.none, kwdefaults := Value.none, pyModule := Value.str (Str.ofString "law_sa0443_01") 544, code := Value.ref 231 } }),
  (238, { cls := Value.type "code", data := Data.fields #[Value.str (Str.ofString "_law_take") 557, Value.str (Str.ofString "_law_take") 558, Value.str (Str.ofString "/claim/cut.py") 559, Value.int 207 0, Value.int 2 0, Value.int 0 0, Value.int 0 0, Value.int 3 0, Value.ref 233, Value.bool true, Value.int 181 0, Value.ref 234, Value.none, Value.ref 235, Value.ref 236, Value.ref 237, Value.int 563 0, Value.int 207 0, Value.str (Str.ofString "/claim/cut.py") 564] }),
  (239, { cls := Value.type "function", data := Data.func { name := Str.ofString "_law_take", qualname := Str.ofString "_law_take", params := Mine.aOf (Mine.stAt 24), body := FuncBody.stmts (Mine.bOf (Mine.stAt 24)), scope := Mine.sOf (Mine.stAt 24), globals := 3, closure := [], defaults := Value.none, kwdefaults := Value.none, pyModule := Value.str (Str.ofString "law_sa0443_01") 544, code := Value.ref 238 } }),
  (245, { cls := Value.type "code", data := Data.fields #[Value.str (Str.ofString "_law_one") 566, Value.str (Str.ofString "_law_one") 567, Value.str (Str.ofString "/claim/cut.py") 568, Value.int 214 0, Value.int 2 0, Value.int 0 0, Value.int 0 0, Value.int 3 0, Value.ref 240, Value.bool true, Value.int 181 0, Value.ref 241, Value.none, Value.ref 242, Value.ref 243, Value.ref 244, Value.int 571 0, Value.int 214 0, Value.str (Str.ofString "/claim/cut.py") 572] }),
  (246, { cls := Value.type "function", data := Data.func { name := Str.ofString "_law_one", qualname := Str.ofString "_law_one", params := Mine.aOf (Mine.stAt 25), body := FuncBody.stmts (Mine.bOf (Mine.stAt 25)), scope := Mine.sOf (Mine.stAt 25), globals := 3, closure := [], defaults := Value.none, kwdefaults := Value.none, pyModule := Value.str (Str.ofString "law_sa0443_01") 544, code := Value.ref 245 } }),
  (247, { cls := Value.type "tuple", data := Data.seq #[Value.str (Str.ofString "param") 575, Value.str (Str.ofString "T") 576] }),
  (248, { cls := Value.type "tuple", data := Data.seq #[Value.str (Str.ofString "box") 574, Value.ref 247] }),
  (249, { cls := Value.type "tuple", data := Data.seq #[Value.str (Str.ofString "param") 579, Value.str (Str.ofString "T") 580] }),
  (250, { cls := Value.type "tuple", data := Data.seq #[Value.str (Str.ofString "param") 581, Value.str (Str.ofString "U") 582] }),
  (251, { cls := Value.type "tuple", data := Data.seq #[Value.ref 249, Value.ref 250] }),
  (252, { cls := Value.type "tuple", data := Data.seq #[Value.str (Str.ofString "tuple") 578, Value.ref 251] }),
  (256, { cls := Value.type "code", data := Data.fields #[Value.str (Str.ofString "_law_needs") 584, Value.str (Str.ofString "_law_needs") 585, Value.str (Str.ofString "/claim/cut.py") 586, Value.int 218 0, Value.int 2 0, Value.int 0 0, Value.int 0 0, Value.int 3 0, Value.ref 253, Value.bool true, Value.int 181 0, Value.ref 254, Value.none, Value.none, Value.none, Value.ref 255, Value.int 587 0, Value.int 218 0, Value.str (Str.ofString "/claim/cut.py") 588] }),
  (257, { cls := Value.type "function", data := Data.func { name := Str.ofString "_law_needs", qualname := Str.ofString "_law_needs", params := Mine.aOf (Mine.stAt 28), body := FuncBody.stmts (Mine.bOf (Mine.stAt 28)), scope := Mine.sOf (Mine.stAt 28), globals := 3, closure := [], defaults := Value.none, kwdefaults := Value.none, pyModule := Value.str (Str.ofString "law_sa0443_01") 544, code := Value.ref 256 } }),
  (261, { cls := Value.type "code", data := Data.fields #[Value.str (Str.ofString "_law_world") 590, Value.str (Str.ofString "_law_world") 591, Value.str (Str.ofString "/claim/cut.py") 592, Value.int 220 0, Value.int 1 0, Value.int 0 0, Value.int 0 0, Value.int 3 0, Value.ref 258, Value.bool true, Value.int 181 0, Value.ref 259, Value.none, Value.none, Value.none, Value.ref 260, Value.int 593 0, Value.int 220 0, Value.str (Str.ofString "/claim/cut.py") 594] }),
  (262, { cls := Value.type "function", data := Data.func { name := Str.ofString "_law_world", qualname := Str.ofString "_law_world", params := Mine.aOf (Mine.stAt 29), body := FuncBody.stmts (Mine.bOf (Mine.stAt 29)), scope := Mine.sOf (Mine.stAt 29), globals := 3, closure := [], defaults := Value.none, kwdefaults := Value.none, pyModule := Value.str (Str.ofString "law_sa0443_01") 544, code := Value.ref 261 } }),
  (268, { cls := Value.type "code", data := Data.fields #[Value.str (Str.ofString "_law_type") 596, Value.str (Str.ofString "_law_type") 597, Value.str (Str.ofString "/claim/cut.py") 598, Value.int 233 0, Value.int 2 0, Value.int 0 0, Value.int 0 0, Value.int 3 0, Value.ref 263, Value.bool true, Value.int 181 0, Value.ref 264, Value.none, Value.ref 265, Value.ref 266, Value.ref 267, Value.int 602 0, Value.int 233 0, Value.str (Str.ofString "/claim/cut.py") 603] }),
  (269, { cls := Value.type "function", data := Data.func { name := Str.ofString "_law_type", qualname := Str.ofString "_law_type", params := Mine.aOf (Mine.stAt 30), body := FuncBody.stmts (Mine.bOf (Mine.stAt 30)), scope := Mine.sOf (Mine.stAt 30), globals := 3, closure := [], defaults := Value.none, kwdefaults := Value.none, pyModule := Value.str (Str.ofString "law_sa0443_01") 544, code := Value.ref 268 } }),
  (275, { cls := Value.type "code", data := Data.fields #[Value.str (Str.ofString "_law_parts") 605, Value.str (Str.ofString "_law_parts") 606, Value.str (Str.ofString "/claim/cut.py") 607, Value.int 242 0, Value.int 1 0, Value.int 0 0, Value.int 0 0, Value.int 3 0, Value.ref 270, Value.bool true, Value.int 181 0, Value.ref 271, Value.none, Value.ref 272, Value.ref 273, Value.ref 274, Value.int 609 0, Value.int 242 0, Value.str (Str.ofString "/claim/cut.py") 610] }),
  (276, { cls := Value.type "function", data := Data.func { name := Str.ofString "_law_parts", qualname := Str.ofString "_law_parts", params := Mine.aOf (Mine.stAt 31), body := FuncBody.stmts (Mine.bOf (Mine.stAt 31)), scope := Mine.sOf (Mine.stAt 31), globals := 3, closure := [], defaults := Value.none, kwdefaults := Value.none, pyModule := Value.str (Str.ofString "law_sa0443_01") 544, code := Value.ref 275 } }),
  (280, { cls := Value.type "code", data := Data.fields #[Value.str (Str.ofString "_law_answers") 612, Value.str (Str.ofString "_law_answers") 613, Value.str (Str.ofString "/claim/cut.py") 614, Value.int 244 0, Value.int 3 0, Value.int 0 0, Value.int 0 0, Value.int 3 0, Value.ref 277, Value.bool true, Value.int 181 0, Value.ref 278, Value.none, Value.none, Value.none, Value.ref 279, Value.int 615 0, Value.int 244 0, Value.str (Str.ofString "/claim/cut.py") 616] }),
  (281, { cls := Value.type "function", data := Data.func { name := Str.ofString "_law_answers", qualname := Str.ofString "_law_answers", params := Mine.aOf (Mine.stAt 32), body := FuncBody.stmts (Mine.bOf (Mine.stAt 32)), scope := Mine.sOf (Mine.stAt 32), globals := 3, closure := [], defaults := Value.none, kwdefaults := Value.none, pyModule := Value.str (Str.ofString "law_sa0443_01") 544, code := Value.ref 280 } }),
  (287, { cls := Value.type "code", data := Data.fields #[Value.str (Str.ofString "_law_due") 618, Value.str (Str.ofString "_law_due") 619, Value.str (Str.ofString "/claim/cut.py") 620, Value.int 257 0, Value.int 5 0, Value.int 0 0, Value.int 0 0, Value.int 3 0, Value.ref 282, Value.bool true, Value.int 181 0, Value.ref 283, Value.none, Value.ref 284, Value.ref 285, Value.ref 286, Value.int 627 0, Value.int 257 0, Value.str (Str.ofString "/claim/cut.py") 628] }),
  (288, { cls := Value.type "function", data := Data.func { name := Str.ofString "_law_due", qualname := Str.ofString "_law_due", params := Mine.aOf (Mine.stAt 33), body := FuncBody.stmts (Mine.bOf (Mine.stAt 33)), scope := Mine.sOf (Mine.stAt 33), globals := 3, closure := [], defaults := Value.none, kwdefaults := Value.none, pyModule := Value.str (Str.ofString "law_sa0443_01") 544, code := Value.ref 287 } }),
  (292, { cls := Value.type "code", data := Data.fields #[Value.str (Str.ofString "_law_asked_right") 630, Value.str (Str.ofString "_law_asked_right") 631, Value.str (Str.ofString "/claim/cut.py") 632, Value.int 264 0, Value.int 5 0, Value.int 0 0, Value.int 0 0, Value.int 3 0, Value.ref 289, Value.bool true, Value.int 181 0, Value.ref 290, Value.none, Value.none, Value.none, Value.ref 291, Value.int 633 0, Value.int 264 0, Value.str (Str.ofString "/claim/cut.py") 634] }),
  (293, { cls := Value.type "function", data := Data.func { name := Str.ofString "_law_asked_right", qualname := Str.ofString "_law_asked_right", params := Mine.aOf (Mine.stAt 34), body := FuncBody.stmts (Mine.bOf (Mine.stAt 34)), scope := Mine.sOf (Mine.stAt 34), globals := 3, closure := [], defaults := Value.none, kwdefaults := Value.none, pyModule := Value.str (Str.ofString "law_sa0443_01") 544, code := Value.ref 292 } }),
  (299, { cls := Value.type "code", data := Data.fields #[Value.str (Str.ofString "law") 636, Value.str (Str.ofString "law") 637, Value.str (Str.ofString "/claim/cut.py") 638, Value.int 274 0, Value.int 1 0, Value.int 0 0, Value.int 0 0, Value.int 3 0, Value.ref 294, Value.bool true, Value.int 181 0, Value.ref 295, Value.none, Value.ref 296, Value.ref 297, Value.ref 298, Value.int 645 0, Value.int 274 0, Value.str (Str.ofString "/claim/cut.py") 646] }),
  (300, { cls := Value.type "function", data := Data.func { name := Str.ofString "law", qualname := Str.ofString "law", params := Mine.aOf (Mine.stAt 35), body := FuncBody.stmts (Mine.bOf (Mine.stAt 35)), scope := Mine.sOf (Mine.stAt 35), globals := 3, closure := [], defaults := Value.none, kwdefaults := Value.none, pyModule := Value.str (Str.ofString "law_sa0443_01") 544, code := Value.ref 299 } })]
def asL : List Addr := [3, 60, 61, 74, 75, 81, 82, 86, 87, 93, 94, 100, 101, 114, 115, 121, 122, 126, 127, 133, 134, 140, 141, 145, 146, 148, 149, 159, 160, 166, 167, 173, 174, 182, 188, 189, 191, 192, 204, 210, 211, 220, 221, 231, 232, 238, 239, 245, 246, 247, 248, 249, 250, 251, 252, 256, 257, 261, 262, 268, 269, 275, 276, 280, 281, 287, 288, 292, 293, 299, 300]
noncomputable def qq : Program := view PySem.Challenge.pw_sa0443_01 [0, 2, 3, 5, 6, 7, 8, 9, 11, 12, 13, 14, 15, 16, 17, 18, 20, 21, 23, 24, 25, 26, 27, 28, 29, 30, 31, 32, 33, 34, 35]
def lq : List Str := [Str.ofString "LendError"]
noncomputable def hk : Hook := kHook KK asL (fun _ => by kernel_rfl)
theorem hl : LeftO PySem.Challenge.pw_sa0443_01 qq lq (fun s => xlAt qq [] s && recOk [] s) hk.obs hk.val 4382 := fun w => by kernel_rfl
end Mine
end

section
open PySem PySem.Calls PySem.W PyProof.Rows
set_option maxRecDepth 100000
set_option Elab.async false
set_option linter.unusedVariables false
namespace Mine

abbrev OH := Addr → Option Obj
def Le (f g : OH) : Prop := ∀ a o, f a = some o → g a = some o
theorem Le.refl (f : OH) : Le f f := fun _ _ h => h
theorem Le.trans {f g h : OH} (x : Le f g) (y : Le g h) : Le f h := fun a o e => y a o (x a o e)
def insH (f : OH) (a : Addr) (o : Obj) : OH := fun b => if b = a then some o else f b
theorem insH_self (f : OH) (a : Addr) (o : Obj) : insH f a o a = some o := by simp [insH]
theorem insH_other (f : OH) {a b : Addr} (o : Obj) (h : b ≠ a) : insH f a o b = f b := by simp [insH, h]
theorem Le.ins {f : OH} {a : Addr} (o : Obj) (h : f a = none) : Le f (insH f a o) := fun b o' e => by
  by_cases q : b = a
  · subst q; rw [h] at e; cases e
  · rw [insH_other _ _ q]; exact e

/-- abstract values -/
inductive V where
  | none
  | bool (b : Bool)
  | int (i : Int)
  | str (x : Str)
  | val (v : Value)
  | tup (l : List V)
  | lst (l : List V)
  | dct (l : List (Str × V))
  | ins (c : Addr) (l : List (Str × V))
  | obj (c d : Addr)

abbrev tupO (xs : Array Value) (n : Nat) : Obj := { cls := .type "tuple", dict := none, data := .seq xs n, slots := #[] }
abbrev lstO (xs : Array Value) (n : Nat) : Obj := { cls := .type "list", dict := none, data := .seq xs n, slots := #[] }

/-- an object whose dict has just these attributes -/
def NsIs (o : Obj) (kvs : List (Str × Value)) : Prop := ∃ es ep, o.data = .dict es ep ∧ StrKeys es ∧ es.size ≤ kvs.length ∧ ∀ k, nsFind es k = kvs.lookup k

structure Cx where
  prog : Program
  w : World
  K : Frag
  h0 : Heap
  os : OsState
  kin : K.In h0
  lim : h0.NoLimit
  mg : Str → Option Value
  mb : Str → Option Value
  g : h0.Ns mainGlobals mg
  b : h0.Ns builtinsNs mb
  boot : ∀ x : Str, x ≠ "__name__" → mb x = bootBuiltins x

abbrev Cx.M (C : Cx) : Model := model C.prog C.w

mutual
inductive RepV (C : Cx) (g : OH) : V → Value → Prop
  | none : RepV C g .none .none
  | bool (b) : RepV C g (.bool b) (.bool b)
  | int (i t) : RepV C g (.int i) (.int i t)
  | str (x t) : RepV C g (.str x) (.str x t)
  | val (v) : RepV C g (.val v) v
  | tup {a xs n l} : g a = some (tupO xs n) → RepL C g l xs.toList → RepV C g (.tup l) (.ref a)
  | lst {a xs n l} : g a = some (lstO xs n) → RepL C g l xs.toList → RepV C g (.lst l) (.ref a)
  | dct {a o kvs l} : g a = some o → o.IsDictOf (strKind C.prog C.w) kvs → (a == sysModules) = false → RepD C g l kvs → RepV C g (.dct l) (.ref a)
  | ins {c a d o kvs l} : g a = some (instObj c d) → g d = some o → NsIs o kvs → RepD C g l kvs → RepV C g (.ins c l) (.ref a)
  | obj {c a d} : g a = some (instObj c d) → RepV C g (.obj c d) (.ref a)
inductive RepL (C : Cx) (g : OH) : List V → List Value → Prop
  | nil : RepL C g [] []
  | cons {x v l vs} : RepV C g x v → RepL C g l vs → RepL C g (x :: l) (v :: vs)
inductive RepD (C : Cx) (g : OH) : List (Str × V) → List (Str × Value) → Prop
  | nil : RepD C g [] []
  | cons {k x v l vs} : RepV C g x v → RepD C g l vs → RepD C g ((k, x) :: l) ((k, v) :: vs)
end

mutual
theorem RepV.mono {C : Cx} {g g' : OH} (h : Le g g') : ∀ {x : V} {v : Value}, RepV C g x v → RepV C g' x v
  | _, _, .none => .none
  | _, _, .bool b => .bool b
  | _, _, .int i t => .int i t
  | _, _, .str x t => .str x t
  | _, _, .val v => .val v
  | _, _, .tup e r => .tup (h _ _ e) (RepL.mono h r)
  | _, _, .lst e r => .lst (h _ _ e) (RepL.mono h r)
  | _, _, .dct e d n r => .dct (h _ _ e) d n (RepD.mono h r)
  | _, _, .ins e1 e2 n r => .ins (h _ _ e1) (h _ _ e2) n (RepD.mono h r)
  | _, _, .obj e1 => .obj (h _ _ e1)
theorem RepL.mono {C : Cx} {g g' : OH} (h : Le g g') : ∀ {x : List V} {v : List Value}, RepL C g x v → RepL C g' x v
  | _, _, .nil => .nil
  | _, _, .cons a r => .cons (RepV.mono h a) (RepL.mono h r)
theorem RepD.mono {C : Cx} {g g' : OH} (h : Le g g') : ∀ {x : List (Str × V)} {v : List (Str × Value)}, RepD C g x v → RepD C g' x v
  | _, _, .nil => .nil
  | _, _, .cons a r => .cons (RepV.mono h a) (RepD.mono h r)
end

/-- what stands behind a fact of representation: one elimination for all -/
def RepI (C : Cx) (g : OH) : V → Value → Prop
  | .none, v => v = .none
  | .bool b, v => v = .bool b
  | .int i, v => ∃ t, v = .int i t
  | .str x, v => ∃ t, v = .str x t
  | .val u, v => v = u
  | .tup l, v => ∃ a xs n, v = .ref a ∧ g a = some (tupO xs n) ∧ RepL C g l xs.toList
  | .lst l, v => ∃ a xs n, v = .ref a ∧ g a = some (lstO xs n) ∧ RepL C g l xs.toList
  | .dct l, v => ∃ a o kvs, v = .ref a ∧ g a = some o ∧ o.IsDictOf (strKind C.prog C.w) kvs ∧ (a == sysModules) = false ∧ RepD C g l kvs
  | .ins c l, v => ∃ a d o kvs, v = .ref a ∧ g a = some (instObj c d) ∧ g d = some o ∧ NsIs o kvs ∧ RepD C g l kvs
  | .obj c d, v => ∃ a, v = .ref a ∧ g a = some (instObj c d)
theorem RepV.inv {C : Cx} {g : OH} {x : V} {v : Value} (h : RepV C g x v) : RepI C g x v := by
  cases h with
  | none => exact rfl
  | bool b => exact rfl
  | int i t => exact ⟨_, rfl⟩
  | str x t => exact ⟨_, rfl⟩
  | val v => exact rfl
  | tup h1 h2 => exact ⟨_, _, _, rfl, h1, h2⟩
  | lst h1 h2 => exact ⟨_, _, _, rfl, h1, h2⟩
  | dct h1 h2 h3 h4 => exact ⟨_, _, _, rfl, h1, h2, h3, h4⟩
  | ins h1 h2 h3 h4 => exact ⟨_, _, _, _, rfl, h1, h2, h3, h4⟩
  | obj h1 => exact ⟨_, rfl, h1⟩
def RepLI (C : Cx) (g : OH) : List V → List Value → Prop
  | [], vs => vs = []
  | x :: l, vs => ∃ v us, vs = v :: us ∧ RepV C g x v ∧ RepL C g l us
theorem RepL.inv {C : Cx} {g : OH} {l : List V} {vs : List Value} (h : RepL C g l vs) : RepLI C g l vs := by
  cases h with
  | nil => exact rfl
  | cons a b => exact ⟨_, _, rfl, a, b⟩
def RepDI (C : Cx) (g : OH) : List (Str × V) → List (Str × Value) → Prop
  | [], vs => vs = []
  | (k, x) :: l, vs => ∃ v us, vs = (k, v) :: us ∧ RepV C g x v ∧ RepD C g l us
theorem RepD.inv {C : Cx} {g : OH} {l : List (Str × V)} {vs : List (Str × Value)} (h : RepD C g l vs) : RepDI C g l vs := by
  cases h with
  | nil => exact rfl
  | cons a b => exact ⟨_, _, rfl, a, b⟩

/-- objects that a call may change -/
inductive MO where
  | lst (l : List V)
  | dct (l : List (Str × V))
  | tdct (l : List (V × V))
  | ns (l : List (Str × V))
  | cell (v : Option V)

inductive RepT (C : Cx) (g : OH) : List (V × V) → List (V × Addr × Value) → Prop
  | nil : RepT C g [] []
  | cons {k x a v l vs} : RepV C g k (.ref a) → RepV C g x v → RepT C g l vs → RepT C g ((k, x) :: l) ((k, a, v) :: vs)

theorem RepT.mono {C : Cx} {g g' : OH} (h : Le g g') {x : List (V × V)} {v : List (V × Addr × Value)} (r : RepT C g x v) : RepT C g' x v := by
  induction r with
  | nil => exact .nil
  | cons a b _ ih => exact .cons (a.mono h) (b.mono h) ih

/-- the hash that a key of abstract data has -/
def hashV (w : World) : V → Int
  | .str x => hashStr w x
  | .int i => hashInt i
  | .tup l => reduceHash (Builtin.Tuple.tupleHashOf (l.attach.map fun ⟨x, _⟩ => hashV w x))
  | _ => 0

inductive RepO (C : Cx) (g : OH) : MO → Obj → Prop
  | lst {xs n l} : RepL C g l xs.toList → RepO C g (.lst l) (lstO xs n)
  | dct {o kvs l} : o.IsDictOf (strKind C.prog C.w) kvs → RepD C g l kvs → RepO C g (.dct l) o
  | tdct {o es ep kvs l} : o.ExactDict → o.data = .dict es ep → es.toList = kvs.map (fun x : V × Addr × Value => (⟨hashV C.w x.1, .ref x.2.1, x.2.2⟩ : DictEntry)) → RepT C g l kvs → RepO C g (.tdct l) o
  | ns {o kvs l} : NsIs o kvs → RepD C g l kvs → RepO C g (.ns l) o
  | celln {o} : o.data = .cell Option.none → RepO C g (.cell Option.none) o
  | cells {o x v} : o.data = .cell (some v) → RepV C g x v → RepO C g (.cell (some x)) o

theorem RepO.mono {C : Cx} {g g' : OH} (h : Le g g') {x : MO} {o : Obj} (r : RepO C g x o) : RepO C g' x o := by
  cases r with
  | lst a => exact .lst (a.mono h)
  | dct a b => exact .dct a (b.mono h)
  | tdct a b c d => exact .tdct a b c (d.mono h)
  | ns a b => exact .ns a (b.mono h)
  | celln a => exact .celln a
  | cells a b => exact .cells a (b.mono h)

abbrev Mu := Addr → Option MO
def insM (f : Mu) (a : Addr) (o : MO) : Mu := fun b => if b = a then some o else f b
def delM (f : Mu) (a : Addr) : Mu := fun b => if b = a then none else f b
theorem insM_self (f : Mu) (a : Addr) (o : MO) : insM f a o a = some o := by simp [insM]
theorem insM_other (f : Mu) {a b : Addr} (o : MO) (h : b ≠ a) : insM f a o b = f b := by simp [insM, h]

structure ST where
  loc : List (Str × V)
  mu : Mu

structure Rp (C : Cx) (fz kp : OH) (env : Env) (st : ST) (s : Shared) : Prop where
  base : Le C.h0.get? fz
  fzs : Le fz s.heap.get?
  kps : Le kp s.heap.get?
  fk : ∀ a o, fz a = some o → kp a = none
  fm : ∀ a o, fz a = some o → st.mu a = none
  fl : fz env.locals = none
  km : ∀ a o, kp a = some o → st.mu a = none
  kl : kp env.locals = none
  ml : st.mu env.locals = none
  ns : ∃ m, s.heap.Ns env.locals m ∧ ∀ x av, st.loc.lookup x = some av → ∃ v, m x = some v ∧ RepV C fz av v
  mus : ∀ a o, st.mu a = some o → ∃ ob, s.heap.get? a = some ob ∧ RepO C fz o ob
  gens : s.gens = #[]
  os : s.os = C.os
  mlow : ∀ a o, st.mu a = some o → 3 < a

namespace Rp
variable {C : Cx} {fz kp : OH} {env : Env} {st : ST} {s : Shared}

theorem toks (R : Rp C fz kp env st s) (tk : Nat) : Rp C fz kp env st { s with toks := tk } := ⟨R.base, R.fzs, R.kps, R.fk, R.fm, R.fl, R.km, R.kl, R.ml, R.ns, R.mus, R.gens, R.os, R.mlow⟩

/-- the heap has grown (or what is not ours has changed) -/
theorem ext (R : Rp C fz kp env st s) {h' : Heap} (tk : Nat) (hk : ∀ b o, s.heap.get? b = some o → h'.get? b = some o) : Rp C fz kp env st { s with heap := h', toks := tk } := by
  obtain ⟨m, hm, hr⟩ := R.ns
  refine ⟨R.base, R.fzs.trans hk, R.kps.trans hk, R.fk, R.fm, R.fl, R.km, R.kl, R.ml, ⟨m, hm.keeps hk, hr⟩, fun a o e => ?_, R.gens, R.os, R.mlow⟩
  obtain ⟨ob, h1, h2⟩ := R.mus a o e
  exact ⟨ob, hk _ _ h1, h2⟩

theorem lt_fz (R : Rp C fz kp env st s) {a : Addr} {o : Obj} (e : fz a = some o) : a < s.heap.objs.size := Heap.lt_size (R.fzs _ _ e)
theorem lt_kp (R : Rp C fz kp env st s) {a : Addr} {o : Obj} (e : kp a = some o) : a < s.heap.objs.size := Heap.lt_size (R.kps _ _ e)
theorem lt_mu (R : Rp C fz kp env st s) {a : Addr} {o : MO} (e : st.mu a = some o) : a < s.heap.objs.size := by
  obtain ⟨ob, h1, _⟩ := R.mus a o e
  exact Heap.lt_size h1
theorem lt_loc (R : Rp C fz kp env st s) : env.locals < s.heap.objs.size := let ⟨_, h, _⟩ := R.ns; h.lt

theorem fz_none (R : Rp C fz kp env st s) {a : Addr} (h : s.heap.objs.size ≤ a) : fz a = none := by
  cases e : fz a with
  | none => rfl
  | some o => exact absurd (R.lt_fz e) (Nat.not_lt.mpr h)
theorem kp_none (R : Rp C fz kp env st s) {a : Addr} (h : s.heap.objs.size ≤ a) : kp a = none := by
  cases e : kp a with
  | none => rfl
  | some o => exact absurd (R.lt_kp e) (Nat.not_lt.mpr h)
theorem mu_none (R : Rp C fz kp env st s) {a : Addr} (h : s.heap.objs.size ≤ a) : st.mu a = none := by
  cases e : st.mu a with
  | none => rfl
  | some o => exact absurd (R.lt_mu e) (Nat.not_lt.mpr h)
theorem big (R : Rp C fz kp env st s) : 3 < s.heap.objs.size := Nat.lt_of_lt_of_le (Nat.lt_succ_self 3) (C.g.keeps (R.base.trans R.fzs)).lt
theorem loc_ne (R : Rp C fz kp env st s) {a : Addr} (h : s.heap.objs.size ≤ a) : a ≠ env.locals := fun e => absurd (e ▸ R.lt_loc : a < s.heap.objs.size) (Nat.not_lt.mpr h)

/-- an object that nobody owns is frozen -/
theorem addF (R : Rp C fz kp env st s) {a : Addr} {o : Obj} (ho : s.heap.get? a = some o) (h1 : fz a = none) (h2 : kp a = none) (h3 : st.mu a = none) (h4 : a ≠ env.locals) :
    Rp C (insH fz a o) kp env st s := by
  have le := Le.ins o h1
  obtain ⟨m, hm, hr⟩ := R.ns
  refine ⟨R.base.trans le, fun b x e => ?_, R.kps, fun b x e => ?_, fun b x e => ?_, ?_, R.km, R.kl, R.ml, ⟨m, hm, fun x av e => ?_⟩, fun b x e => ?_, R.gens, R.os, R.mlow⟩
  · by_cases q : b = a
    · subst q; rw [insH_self] at e; cases e; exact ho
    · rw [insH_other _ _ q] at e; exact R.fzs _ _ e
  · by_cases q : b = a
    · subst q; exact h2
    · rw [insH_other _ _ q] at e; exact R.fk _ _ e
  · by_cases q : b = a
    · subst q; exact h3
    · rw [insH_other _ _ q] at e; exact R.fm _ _ e
  · rw [insH_other _ _ (Ne.symm h4)]; exact R.fl
  · obtain ⟨v, e1, e2⟩ := hr x av e; exact ⟨v, e1, e2.mono le⟩
  · obtain ⟨ob, e1, e2⟩ := R.mus b x e; exact ⟨ob, e1, e2.mono le⟩

/-- an object that nobody owns is taken -/
theorem addM (R : Rp C fz kp env st s) {a : Addr} {ob : Obj} {o : MO} (ho : s.heap.get? a = some ob) (hr : RepO C fz o ob) (h1 : fz a = none) (h2 : kp a = none) (h4 : a ≠ env.locals) (h5 : 3 < a) :
    Rp C fz kp env ⟨st.loc, insM st.mu a o⟩ s := by
  refine ⟨R.base, R.fzs, R.kps, R.fk, fun b x e => ?_, R.fl, fun b x e => ?_, R.kl, ?_, R.ns, fun b x e => ?_, R.gens, R.os, fun b x e => ?_⟩
  · show insM st.mu a o b = none
    rw [insM_other _ _ (fun q => by subst q; rw [h1] at e; cases e)]; exact R.fm _ _ e
  · show insM st.mu a o b = none
    rw [insM_other _ _ (fun q => by subst q; rw [h2] at e; cases e)]; exact R.km _ _ e
  · show insM st.mu a o env.locals = none
    rw [insM_other _ _ (Ne.symm h4)]; exact R.ml
  · by_cases q : b = a
    · subst q
      have e : insM st.mu b o b = some x := e
      rw [insM_self] at e; cases e; exact ⟨ob, ho, hr⟩
    · have e : insM st.mu a o b = some x := e
      rw [insM_other _ _ q] at e; exact R.mus _ _ e
  · by_cases q : b = a
    · subst q; exact h5
    · have e : insM st.mu a o b = some x := e
      rw [insM_other _ _ q] at e; exact R.mlow _ _ e

/-- an object of ours has changed -/
theorem upd (R : Rp C fz kp env st s) {a : Addr} {ob : Obj} {o o' : MO} {h' : Heap} (tk : Nat) (ha : st.mu a = some o) (hs : ∀ b x, b ≠ a → s.heap.get? b = some x → h'.get? b = some x) (ho : h'.get? a = some ob) (hr : RepO C fz o' ob) :
    Rp C fz kp env ⟨st.loc, insM st.mu a o'⟩ { s with heap := h', toks := tk } := by
  have fa : fz a = none := by
    cases e : fz a with
    | none => rfl
    | some o => rw [R.fm _ _ e] at ha; cases ha
  have ka : kp a = none := by
    cases e : kp a with
    | none => rfl
    | some o => rw [R.km _ _ e] at ha; cases ha
  have la : a ≠ env.locals := fun q => by rw [q, R.ml] at ha; cases ha
  obtain ⟨m, hm, hrr⟩ := R.ns
  refine ⟨R.base, fun b x e => hs b x (fun q => by subst q; rw [fa] at e; cases e) (R.fzs _ _ e), fun b x e => hs b x (fun q => by subst q; rw [ka] at e; cases e) (R.kps _ _ e), R.fk, fun b x e => ?_, R.fl, fun b x e => ?_, R.kl, ?_,
    ⟨m, ?_, hrr⟩, fun b x e => ?_, R.gens, R.os, fun b x e => ?_⟩
  · show insM st.mu a o' b = none
    rw [insM_other _ _ (fun q => by subst q; rw [fa] at e; cases e)]; exact R.fm _ _ e
  · show insM st.mu a o' b = none
    rw [insM_other _ _ (fun q => by subst q; rw [ka] at e; cases e)]; exact R.km _ _ e
  · show insM st.mu a o' env.locals = none
    rw [insM_other _ _ (Ne.symm la)]; exact R.ml
  · obtain ⟨oo, es, ep, e1, r⟩ := hm
    exact ⟨oo, es, ep, hs _ _ (Ne.symm la) e1, r⟩
  · by_cases q : b = a
    · subst q
      have e : insM st.mu b o' b = some x := e
      rw [insM_self] at e; cases e; exact ⟨ob, ho, hr⟩
    · have e : insM st.mu a o' b = some x := e
      rw [insM_other _ _ q] at e
      obtain ⟨ob', e1, e2⟩ := R.mus _ _ e
      exact ⟨ob', hs _ _ q e1, e2⟩
  · by_cases q : b = a
    · subst q; exact R.mlow _ _ ha
    · have e : insM st.mu a o' b = some x := e
      rw [insM_other _ _ q] at e; exact R.mlow _ _ e

/-- what we own is given up: frozen -/
theorem freeze (R : Rp C fz kp env st s) {a : Addr} {o : MO} (ha : st.mu a = some o) : ∃ ob, RepO C fz o ob ∧ fz a = none ∧ Rp C (insH fz a ob) kp env ⟨st.loc, delM st.mu a⟩ s := by
  obtain ⟨ob, ho, hr⟩ := R.mus a o ha
  have fa : fz a = none := by
    cases e : fz a with
    | none => rfl
    | some o => rw [R.fm _ _ e] at ha; cases ha
  have ka : kp a = none := by
    cases e : kp a with
    | none => rfl
    | some o => rw [R.km _ _ e] at ha; cases ha
  have la : a ≠ env.locals := fun q => by rw [q, R.ml] at ha; cases ha
  have R' : Rp C fz kp env ⟨st.loc, delM st.mu a⟩ s := by
    refine ⟨R.base, R.fzs, R.kps, R.fk, fun b x e => ?_, R.fl, fun b x e => ?_, R.kl, ?_, R.ns, fun b x e => ?_, R.gens, R.os, fun b x e => ?_⟩
    · show delM st.mu a b = none
      unfold delM; split
      · rfl
      · exact R.fm _ _ e
    · show delM st.mu a b = none
      unfold delM; split
      · rfl
      · exact R.km _ _ e
    · show delM st.mu a env.locals = none
      unfold delM; split
      · rfl
      · exact R.ml
    · have e : delM st.mu a b = some x := e
      unfold delM at e; split at e
      · cases e
      · exact R.mus _ _ e
    · have e : delM st.mu a b = some x := e
      unfold delM at e; split at e
      · cases e
      · exact R.mlow _ _ e
  exact ⟨ob, hr, fa, R'.addF ho fa ka (by show delM st.mu a a = none; simp [delM]) la⟩

/-- less is known -/
theorem weaken (R : Rp C fz kp env st s) {st' : ST} (hl : ∀ x v, st'.loc.lookup x = some v → st.loc.lookup x = some v) (hm : ∀ a o, st'.mu a = some o → st.mu a = some o) : Rp C fz kp env st' s := by
  have none_of : ∀ a, st.mu a = none → st'.mu a = none := fun a e => by
    cases q : st'.mu a with
    | none => rfl
    | some o => rw [hm _ _ q] at e; cases e
  obtain ⟨m, h1, h2⟩ := R.ns
  exact ⟨R.base, R.fzs, R.kps, R.fk, fun a o e => none_of _ (R.fm _ _ e), R.fl, fun a o e => none_of _ (R.km _ _ e), R.kl, none_of _ R.ml, ⟨m, h1, fun x av e => h2 x av (hl _ _ e)⟩, fun a o e => R.mus _ _ (hm _ _ e), R.gens, R.os, fun a o e => R.mlow _ _ (hm _ _ e)⟩

/-- a name of the frame's is stored -/
theorem store (R : Rp C fz kp env st s) {x : Str} {av : V} {v : Value} {h' : Heap} {m : Str → Option Value} (tk : Nat) (hm : s.heap.Ns env.locals m) (hn : h'.Ns env.locals (fun y => if y = x then some v else m y)) (hs : Heap.SameBut env.locals s.heap h') (hr : RepV C fz av v) :
    Rp C fz kp env ⟨(x, av) :: st.loc, st.mu⟩ { s with heap := h', toks := tk } := by
  obtain ⟨m₀, hm₀, hr₀⟩ := R.ns
  have em : m = m₀ := by
    obtain ⟨o1, es1, ep1, a1, b1, c1, d1⟩ := hm
    obtain ⟨o2, es2, ep2, a2, b2, c2, d2⟩ := hm₀
    rw [a1] at a2; cases a2
    rw [b1] at b2; cases b2
    funext y; rw [← d1, d2]
  subst em
  have k : ∀ b o, b ≠ env.locals → s.heap.get? b = some o → h'.get? b = some o := fun b o hb e => (hs.2 b hb).trans e
  refine ⟨R.base, fun b o e => k b o (fun q => by rw [q, R.fl] at e; cases e) (R.fzs _ _ e), fun b o e => k b o (fun q => by rw [q, R.kl] at e; cases e) (R.kps _ _ e), R.fk, R.fm, R.fl, R.km, R.kl, R.ml, ⟨_, hn, fun y av' e => ?_⟩,
    fun a o e => ?_, R.gens, R.os, R.mlow⟩
  · by_cases q : y = x
    · subst q
      have e : ((y, av) :: st.loc).lookup y = some av' := e
      simp at e
      subst e
      exact ⟨v, by simp, hr⟩
    · have e : ((x, av) :: st.loc).lookup y = some av' := e
      rw [List.lookup_cons] at e
      have : (y == x) = false := by simpa using q
      rw [this] at e
      obtain ⟨v', e1, e2⟩ := hr₀ y av' e
      exact ⟨v', by simpa [q] using e1, e2⟩
  · obtain ⟨ob, e1, e2⟩ := R.mus a o e
    exact ⟨ob, k a ob (fun q => by rw [q, R.ml] at e; cases e) e1, e2⟩
end Rp
end Mine
end

section
open PySem PySem.Calls PySem.W PyProof.Rows
set_option maxRecDepth 100000
set_option Elab.async false
set_option linter.unusedVariables false
namespace Mine

def Ok (n : Nat) (A : Around) : Prop := A.handled = none ∧ A.depth + 3 * n < 1000 ∧ A.units + 60 * n < 9000

theorem Ok.room {n : Nat} {A : Around} (h : Ok n A) : A.depth < recursionLimit := by have := h.2.1; simp only [recursionLimit]; omega
theorem Ok.units {n : Nat} {A : Around} (h : Ok n A) : A.units + 500 < cLine := by have := h.2.2; have e : cLine = 9900 := rfl; omega
theorem Ok.deeper {n : Nat} {A : Around} (h : Ok (n + 1) A) (env : Env) : Ok n (A.deeper env) := by
  obtain ⟨a, b, c⟩ := h
  refine ⟨a, ?_, ?_⟩
  · rw [depth_deeper]; omega
  · rw [units_deeper]; omega
theorem Ok.le {n m : Nat} {A : Around} (h : Ok n A) (e : m ≤ n) : Ok m A := ⟨h.1, by have := h.2.1; omega, by have := h.2.2; omega⟩

section
variable {α β γ δ : Type}

/-- where a step ends: one constructor, so that it is taken apart at one go -/
inductive Pst (C : Cx) {α β : Type} (R : OH → β → α → Prop) (fz kp : OH) (env : Env) (Q : β → ST → Prop) (v : α) (s' : Shared) : Prop
  | mk (fz' : OH) (b : β) (st' : ST) (le : Le fz fz') (rv : R fz' b v) (rp : Rp C fz' kp env st' s') (q : Q b st') : Pst C R fz kp env Q v s'
def aw (C : Cx) (n : Nat) (R : OH → β → α → Prop) (fz : OH) (env : Env) (t : Sem α) (st : ST) (Q : β → ST → Prop) : Prop :=
  ∀ A, Ok n A → ∀ kp s, Rp C fz kp env st s →
    wpAny C.M A t (Pst C R fz kp env Q) (fun _ _ => False) s

variable {C : Cx} {n : Nat} {R : OH → β → α → Prop} {R' : OH → δ → γ → Prop} {fz : OH} {env : Env} {st : ST}

theorem aw.mono {t : Sem α} {Q Q' : β → ST → Prop} (h : aw C n R fz env t st Q) (hQ : ∀ b st', Q b st' → Q' b st') : aw C n R fz env t st Q' := fun A hA kp s r =>
  wpAny_mono (h A hA kp s r) (fun _ _ ⟨fz', b, st', h1, h2, h3, h4⟩ => ⟨fz', b, st', h1, h2, h3, hQ _ _ h4⟩) fun _ _ h => h

theorem aw_pure {v : α} {b : β} {Q : β → ST → Prop} (hr : R fz b v) (h : Q b st) : aw C n R fz env (pure v) st Q := fun _ _ _ _ r => wpAny_pure ⟨fz, b, st, Le.refl _, hr, r, h⟩

theorem aw_seq {t : Sem α} {k : α → Sem γ} {Q : δ → ST → Prop}
    (h : aw C n R fz env t st fun b st1 => ∀ fz1 v, Le fz fz1 → R fz1 b v → aw C n R' fz1 env (k v) st1 Q) : aw C n R' fz env (t >>= k) st Q := fun A hA kp s r => by
  refine wpAny_bind (wpAny_mono (h A hA kp s r) ?_ fun _ _ h => h)
  rintro v s1 ⟨fz1, b, st1, le1, rv, r1, h1⟩
  refine wpAny_mono (h1 fz1 v le1 rv A hA kp s1 r1) ?_ fun _ _ h => h
  rintro u s2 ⟨fz2, d, st2, le2, ru, r2, h2⟩
  exact ⟨fz2, d, st2, le1.trans le2, ru, r2, h2⟩

theorem aw_holding {vs : List Value} {t : Sem α} {Q : β → ST → Prop} (h : aw C n R fz env t st Q) : aw C n R fz env (holding vs t) st Q := fun A hA kp s r => wpAny_holding (h A hA kp s r)
theorem aw_at {pos : Pos} {k : Unit → Sem α} {Q : β → ST → Prop} (h : aw C n R fz env (k ()) st Q) : aw C n R fz env (standAt pos >>= k) st Q := fun A hA kp s r => wpAny_bind (wpAny_standAt (h A hA kp s r))
theorem aw_le {m : Nat} {t : Sem α} {Q : β → ST → Prop} (h : aw C m R fz env t st Q) (e : m ≤ n) : aw C n R fz env t st Q := fun A hA kp s r => h A (hA.le e) kp s r

/-- a step that changes nothing that we know of -/
theorem aw_still {t : Sem α} {b : β} {v : α} {Q : β → ST → Prop} (hr : R fz b v) (hq : Q b st)
    (h : ∀ A, Ok n A → ∀ (s : Shared) (P : α → Shared → Prop) (E : Value → Shared → Prop), Le fz s.heap.get? → (∀ a o, st.mu a = some o → ∃ ob, s.heap.get? a = some ob ∧ RepO C fz o ob) → P v s → wpAny C.M A t P E s) : aw C n R fz env t st Q := fun A hA kp s r =>
  h A hA s _ _ r.fzs r.mus ⟨fz, b, st, Le.refl _, hr, r, hq⟩
end

/-- expressions -/
def ev (C : Cx) (n : Nat) (env : Env) (e : Expr) (st : ST) (Q : V → ST → Prop) : Prop := ∀ fz, aw C n (RepV C) fz env (eval e env) st Q
def evl (C : Cx) (n : Nat) (env : Env) (pos : Pos) (es : List Expr) (st : ST) (Q : List V → ST → Prop) : Prop := ∀ fz, aw C n (RepL C) fz env (spliced (backTo pos (starEach es env))) st Q
abbrev RepB (_ : OH) (b c : Bool) : Prop := c = b
abbrev RepU (_ : OH) (_ _ : Unit) : Prop := True
def tr (C : Cx) (n : Nat) (env : Env) (e : Expr) (st : ST) (Q : Bool → ST → Prop) : Prop := ∀ fz, aw C n RepB fz env (isTrue e env (eval e env)) st Q

inductive AF where
  | next | brk | cont | ret (v : V)
inductive RepF (C : Cx) (fz : OH) : AF → Flow → Prop
  | next : RepF C fz .next .next
  | brk : RepF C fz .brk .brk
  | cont : RepF C fz .cont .cont
  | ret {x v} : RepV C fz x v → RepF C fz (.ret x) (.ret v)
def ex (C : Cx) (n : Nat) (env : Env) (b : List Stmt) (st : ST) (Q : AF → ST → Prop) : Prop := ∀ fz, aw C n (RepF C) fz env (execs b env) st Q
def ex1 (C : Cx) (n : Nat) (env : Env) (b : Stmt) (st : ST) (Q : AF → ST → Prop) : Prop := ∀ fz, aw C n (RepF C) fz env (exec b env) st Q

/-- operations on values -/
def op1 (C : Cx) (n : Nat) (env : Env) (f : Value → Sem Value) (a : V) (st : ST) (Q : V → ST → Prop) : Prop := ∀ fz va, RepV C fz a va → aw C n (RepV C) fz env (f va) st Q
def op2 (C : Cx) (n : Nat) (env : Env) (f : Value → Value → Sem Value) (a b : V) (st : ST) (Q : V → ST → Prop) : Prop := ∀ fz va vb, RepV C fz a va → RepV C fz b vb → aw C n (RepV C) fz env (f va vb) st Q
def tru (C : Cx) (n : Nat) (env : Env) (a : V) (st : ST) (Q : Bool → ST → Prop) : Prop := ∀ fz va, RepV C fz a va → aw C n RepB fz env (truthy va) st Q
def cl (C : Cx) (n : Nat) (env : Env) (f : V) (as : List V) (st : ST) (Q : V → ST → Prop) : Prop := ∀ fz vf vs, RepV C fz f vf → RepL C fz as vs → aw C n (RepV C) fz env (call vf vs) st Q
def sto (C : Cx) (n : Nat) (env : Env) (x : Str) (a : V) (st : ST) (Q : ST → Prop) : Prop := ∀ fz va, RepV C fz a va → aw C n RepU fz env (storeName env x va) st fun _ st' => Q st'
def asg (C : Cx) (n : Nat) (env : Env) (t : Expr) (a : V) (st : ST) (Q : ST → Prop) : Prop := ∀ fz va, RepV C fz a va → aw C n RepU fz env (assign t env va) st fun _ st' => Q st'

section
variable {C : Cx} {n : Nat} {env : Env} {st : ST}

theorem ev.mono {e : Expr} {Q Q' : V → ST → Prop} (h : ev C n env e st Q) (hQ : ∀ b st', Q b st' → Q' b st') : ev C n env e st Q' := fun fz => (h fz).mono hQ
theorem ex.mono {e : List Stmt} {Q Q' : AF → ST → Prop} (h : ex C n env e st Q) (hQ : ∀ b st', Q b st' → Q' b st') : ex C n env e st Q' := fun fz => (h fz).mono hQ
theorem cl.mono {f : V} {as : List V} {Q Q' : V → ST → Prop} (h : cl C n env f as st Q) (hQ : ∀ b st', Q b st' → Q' b st') : cl C n env f as st Q' := fun fz _ _ a b => (h fz _ _ a b).mono hQ

-- constants
theorem ev_int {i : Int} {k : Nat} {pos : Pos} {Q : V → ST → Prop} (h : Q (.int i) st) : ev C n env (.Constant (.int i) k pos) st Q := fun fz A hA kp s r =>
  wpAny_Constant_int ⟨fz, .int i, st, Le.refl _, .int _ _, r.toks _, h⟩
theorem ev_str {x : Str} {k : Nat} {pos : Pos} {Q : V → ST → Prop} (h : Q (.str x) st) : ev C n env (.Constant (.str x) k pos) st Q := fun fz A hA kp s r =>
  Constant_str ⟨fz, .str x, st, Le.refl _, .str _ _, r.toks _, h⟩
theorem ev_bool {b : Bool} {k : Nat} {pos : Pos} {Q : V → ST → Prop} (h : Q (.bool b) st) : ev C n env (.Constant (.bool b) k pos) st Q := fun fz A hA kp s r =>
  Constant_bool ⟨fz, .bool b, st, Le.refl _, .bool _, r, h⟩
theorem ev_none {k : Nat} {pos : Pos} {Q : V → ST → Prop} (h : Q .none st) : ev C n env (.Constant .none k pos) st Q := fun fz A hA kp s r =>
  Constant_none ⟨fz, .none, st, Le.refl _, .none, r, h⟩

-- names
theorem ev_loc {x : Str} {pos : Pos} {v : V} {Q : V → ST → Prop} (hk : env.scope.kind = .function) (hx : env.kindOf x = some .local) (hv : st.loc.lookup x = some v) (hd : (x == ("__debug__" : Str)) = false) (h : Q v st) : ev C n env (.Name x pos) st Q := fun fz A hA kp s r => by
  obtain ⟨m, hm, hr⟩ := r.ns
  obtain ⟨u, e1, e2⟩ := hr x v hv
  exact wpAny_Name (wpAny_loadName_local hk hx hm e1 ⟨fz, v, st, Le.refl _, e2, r, h⟩) hd
theorem ev_cell {x : Str} {pos : Pos} {c : Addr} {v : V} {Q : V → ST → Prop} (hk : env.scope.kind = .function) (hx : env.kindOf x = some .cell ∨ env.kindOf x = some .free) (hc : env.cells.lookup x = some c) (hv : st.mu c = some (.cell (some v)))
    (hd : (x == ("__debug__" : Str)) = false) (hn : (x == ("__classdict__" : Str)) = false) (h : Q v st) : ev C n env (.Name x pos) st Q := fun fz A hA kp s r => by
  obtain ⟨ob, h1, h2⟩ := r.mus _ _ hv
  cases h2 with
  | cells e1 e2 =>
    rcases hx with hx | hx
    · exact wpAny_Name (wpAny_loadName_cell hk hx hc ⟨ob, h1, e1⟩ ⟨fz, v, st, Le.refl _, e2, r, h⟩) hd
    · exact wpAny_Name (wpAny_loadName_free hk hx hc ⟨ob, h1, e1⟩ ⟨fz, v, st, Le.refl _, e2, r, h⟩ hn) hd
theorem ev_glob {x : Str} {pos : Pos} {v : Value} {Q : V → ST → Prop} (hk : env.scope.kind = .function) (hx : env.kindOf x = some .globalImplicit) (hg : env.globals = mainGlobals) (e : nsIn C.K mainGlobals x = some (some v))
    (hd : (x == ("__debug__" : Str)) = false) (h : Q (.val v) st) : ev C n env (.Name x pos) st Q := fun fz A hA kp s r =>
  Name_function_global hk hx (loadGlobal_global (by rw [hg]; exact C.g.keeps (r.base.trans r.fzs)) (mg_of C.kin C.g e) ⟨fz, .val v, st, Le.refl _, .val _, r, h⟩) hd
theorem ev_boot {x : Str} {pos : Pos} {v : Value} {Q : V → ST → Prop} (hk : env.scope.kind = .function) (hx : env.kindOf x = some .globalImplicit) (hg : env.globals = mainGlobals) (hb : env.builtins = builtinsNs) (e : nsIn C.K mainGlobals x = some none)
    (hv : bootBuiltins x = some v) (hn : x ≠ "__name__") (hd : (x == ("__debug__" : Str)) = false) (h : Q (.val v) st) : ev C n env (.Name x pos) st Q := fun fz A hA kp s r =>
  Name_function_global hk hx (loadGlobal_builtin (by rw [hg]; exact C.g.keeps (r.base.trans r.fzs)) (mg_none_of C.kin C.g e) (by rw [hb]; exact C.b.keeps (r.base.trans r.fzs)) ((C.boot x hn).trans hv)
    ⟨fz, .val v, st, Le.refl _, .val _, r, h⟩) hd

-- operators
theorem aw_operate {R : OH → V → Value → Prop} {fz : OH} {vs : List Value} {t : Sem Value} {Q : V → ST → Prop} (h : aw C n R fz env t st Q) : aw C n R fz env (operate vs t) st Q := fun A hA kp s r => wpAny_operate' (h A hA kp s r)
theorem ev_BinOp {l r : Expr} {op : Operator} {pos : Pos} {Q : V → ST → Prop} (h : ev C n env l st fun a st1 => ev C n env r st1 fun b st2 => op2 C n env (binaryOp op) a b st2 Q) : ev C n env (.BinOp l op r pos) st Q := fun fz => by
  rw [arm_eval_BinOp]
  refine aw_seq ((h fz).mono fun a st1 h1 fz1 va le1 ra => ?_)
  refine aw_seq (aw_holding ((h1 fz1).mono fun b st2 h2 fz2 vb le2 rb => ?_))
  exact aw_at (aw_operate (h2 fz2 va vb (ra.mono le2) rb))
theorem ev_UnaryOp {x : Expr} {op : UnaryOp} {pos : Pos} {Q : V → ST → Prop} (h : ev C n env x st fun a st1 => op1 C n env (unaryOp op) a st1 Q) : ev C n env (.UnaryOp op x pos) st Q := fun fz => by
  rw [arm_eval_UnaryOp]
  refine aw_seq ((h fz).mono fun a st1 h1 fz1 va le1 ra => ?_)
  exact aw_at (aw_holding (h1 fz1 va ra))
theorem op_not {a : V} {Q : V → ST → Prop} (h : tru C n env a st fun b st1 => Q (.bool (!b)) st1) : op1 C n env (unaryOp .Not) a st Q := fun fz va ra A hA kp s r =>
  not_of (wpAny_mono (h fz va ra A hA kp s r) (fun _ _ ⟨fz', b, st', h1, h2, h3, h4⟩ => ⟨fz', _, st', h1, h2 ▸ .bool _, h3, h4⟩) fun _ _ x => x)
theorem ev_Compare {l r : Expr} {op : CmpOp} {pos : Pos} {Q : V → ST → Prop} (hm : behindInMarks op r = false) (h : ev C n env l st fun a st1 => ev C n env r st1 fun b st2 => op2 C n env (compareOp op) a b st2 Q) : ev C n env (.Compare l [op] [r] pos) st Q := fun fz => by
  rw [eval_Compare1, markedBehindIn_of_false hm]
  refine aw_seq ((h fz).mono fun a st1 h1 fz1 va le1 ra => ?_)
  refine aw_seq (aw_holding ((h1 fz1).mono fun b st2 h2 fz2 vb le2 rb => ?_))
  exact aw_at (aw_operate (h2 fz2 va vb (ra.mono le2) rb))
theorem ev_IfExp {t b o : Expr} {pos : Pos} {Q : V → ST → Prop} (h : tr C n env t st fun c st1 => if c then ev C n env b st1 Q else ev C n env o st1 Q) : ev C n env (.IfExp t b o pos) st Q := fun fz => by
  rw [arm_eval_IfExp]
  refine aw_seq ((h fz).mono fun c st1 h1 fz1 v le1 rv => ?_)
  subst rv
  cases v
  · exact h1 fz1
  · exact h1 fz1
theorem ev_or1 {a : Expr} {pos : Pos} {Q : V → ST → Prop} (h : ev C n env a st Q) : ev C n env (.BoolOp .Or [a] pos) st Q := h
theorem ev_or {a b : Expr} {rest : List Expr} {pos : Pos} {Q : V → ST → Prop} (h : ev C n env a st fun v st1 => tru C n env v st1 fun c st2 => if c then Q v st2 else ev C n env (.BoolOp .Or (b :: rest) pos) st2 Q) :
    ev C n env (.BoolOp .Or (a :: b :: rest) pos) st Q := fun fz A hA kp s r => by
  refine BoolOp_or (wpAny_mono (h fz A hA kp s r) ?_ fun _ _ x => x)
  rintro v s1 ⟨fz1, av, st1, le1, rv, r1, h1⟩
  refine wpAny_mono (h1 fz1 v rv A hA kp s1 r1) ?_ fun _ _ x => x
  rintro c s2 ⟨fz2, c', st2, le2, rc, r2, h2⟩
  subst rc
  cases c with
  | true => exact ⟨fz2, av, st2, le1.trans le2, rv.mono le2, r2, h2⟩
  | false =>
    refine wpAny_mono (h2 fz2 A hA kp s2 r2) ?_ fun _ _ x => x
    rintro u s3 ⟨fz3, au, st3, le3, ru, r3, h3⟩
    exact ⟨fz3, au, st3, (le1.trans le2).trans le3, ru, r3, h3⟩

-- tests
theorem tr_plain {e : Expr} {Q : Bool → ST → Prop} (he : ∀ whole, isTrue e env whole = (do let v ← whole; standAt e.pos; holding [v] (truthy v))) (h : ev C n env e st fun v st1 => tru C n env v st1 Q) : tr C n env e st Q := fun fz => by
  rw [he]
  refine aw_seq ((h fz).mono fun a st1 h1 fz1 va le1 ra => ?_)
  exact aw_at (aw_holding (h1 fz1 va ra))
theorem tr_Compare {l r : Expr} {op : CmpOp} {pos : Pos} {Q : Bool → ST → Prop} (hm : behindInMarks op r = false) (h : ev C n env l st fun a st1 => ev C n env r st1 fun b st2 => op2 C n env (compareOp op) a b st2 fun c st3 => tru C n env c st3 Q) :
    tr C n env (.Compare l [op] [r] pos) st Q := fun fz => by
  rw [isTrue_Compare1, markedBehindIn_of_false hm]
  refine aw_seq ((h fz).mono fun a st1 h1 fz1 va le1 ra => ?_)
  refine aw_seq (aw_holding ((h1 fz1).mono fun b st2 h2 fz2 vb le2 rb => ?_))
  refine aw_at (aw_seq (aw_operate ((h2 fz2 va vb (ra.mono le2) rb).mono fun c st3 h3 fz3 vc le3 rc => ?_)))
  exact aw_holding (h3 fz3 vc rc)
theorem tr_Not {x : Expr} {pos : Pos} {Q : Bool → ST → Prop} (h : tr C n env x st fun b st1 => Q (!b) st1) : tr C n env (.UnaryOp .Not x pos) st Q := fun fz A hA kp s r =>
  PyProof.Rows.isTrue_not (wpAny_mono (h fz A hA kp s r) (fun _ _ ⟨fz', b, st', h1, h2, h3, h4⟩ => ⟨fz', _, st', h1, by rw [h2], h3, h4⟩) fun _ _ x => x)
theorem tr_and_nil {pos : Pos} {Q : Bool → ST → Prop} (h : Q true st) : tr C n env (.BoolOp .And [] pos) st Q := fun fz A hA kp s r => PyProof.Rows.isTrue_and_nil ⟨fz, true, st, Le.refl _, rfl, r, h⟩
theorem tr_or_nil {pos : Pos} {Q : Bool → ST → Prop} (h : Q false st) : tr C n env (.BoolOp .Or [] pos) st Q := fun fz A hA kp s r => PyProof.Rows.isTrue_or_nil ⟨fz, false, st, Le.refl _, rfl, r, h⟩
theorem tr_and {x : Expr} {rest : List Expr} {pos : Pos} {Q : Bool → ST → Prop} (h : tr C n env x st fun b st1 => if b then tr C n env (.BoolOp .And rest pos) st1 Q else Q false st1) : tr C n env (.BoolOp .And (x :: rest) pos) st Q := fun fz A hA kp s r => by
  refine PyProof.Rows.isTrue_and (wpAny_mono (h fz A hA kp s r) ?_ fun _ _ x => x)
  rintro c s1 ⟨fz1, c', st1, le1, rc, r1, h1⟩
  subst rc
  cases c with
  | false => exact ⟨fz1, _, st1, le1, rfl, r1, h1⟩
  | true =>
    refine wpAny_mono (h1 fz1 A hA kp s1 r1) ?_ fun _ _ x => x
    rintro u s3 ⟨fz3, au, st3, le3, ru, r3, h3⟩
    exact ⟨fz3, au, st3, le1.trans le3, ru, r3, h3⟩
theorem tr_or {x : Expr} {rest : List Expr} {pos : Pos} {Q : Bool → ST → Prop} (h : tr C n env x st fun b st1 => if b then Q true st1 else tr C n env (.BoolOp .Or rest pos) st1 Q) : tr C n env (.BoolOp .Or (x :: rest) pos) st Q := fun fz A hA kp s r => by
  refine PyProof.Rows.isTrue_or (wpAny_mono (h fz A hA kp s r) ?_ fun _ _ x => x)
  rintro c s1 ⟨fz1, c', st1, le1, rc, r1, h1⟩
  subst rc
  cases c with
  | true => exact ⟨fz1, _, st1, le1, rfl, r1, h1⟩
  | false =>
    refine wpAny_mono (h1 fz1 A hA kp s1 r1) ?_ fun _ _ x => x
    rintro u s3 ⟨fz3, au, st3, le3, ru, r3, h3⟩
    exact ⟨fz3, au, st3, le1.trans le3, ru, r3, h3⟩
theorem tr_IfExp {t b o : Expr} {pos : Pos} {Q : Bool → ST → Prop} (h : tr C n env t st fun c st1 => if c then tr C n env b st1 Q else tr C n env o st1 Q) : tr C n env (.IfExp t b o pos) st Q := fun fz A hA kp s r => by
  refine PyProof.Rows.isTrue_IfExp (wpAny_mono (h fz A hA kp s r) ?_ fun _ _ x => x)
  rintro c s1 ⟨fz1, c', st1, le1, rc, r1, h1⟩
  subst rc
  cases c <;>
  · refine wpAny_mono (h1 fz1 A hA kp s1 r1) ?_ fun _ _ x => x
    rintro u s3 ⟨fz3, au, st3, le3, ru, r3, h3⟩
    exact ⟨fz3, au, st3, le1.trans le3, ru, r3, h3⟩

-- lists of expressions
theorem evl_nil {pos : Pos} {Q : List V → ST → Prop} (h : Q [] st) : evl C n env pos [] st Q := fun fz A hA kp s r => args_nil ⟨fz, [], st, Le.refl _, .nil, r, h⟩
theorem evl_cons {pos : Pos} {e : Expr} {rest : List Expr} {Q : List V → ST → Prop} (he : starEach (e :: rest) env = (false, eval e env) :: starEach rest env)
    (h : ev C n env e st fun v st1 => evl C n env pos rest st1 fun vs st2 => Q (v :: vs) st2) : evl C n env pos (e :: rest) st Q := fun fz A hA kp s r => by
  refine args_cons (wpAny_mono (h fz A hA kp s r) ?_ fun _ _ x => x) he
  rintro v s1 ⟨fz1, av, st1, le1, rv, r1, h1⟩
  refine wpAny_mono (h1 fz1 A hA kp s1 r1) ?_ fun _ _ x => x
  rintro u s2 ⟨fz2, au, st2, le2, ru, r2, h2⟩
  exact ⟨fz2, _, st2, le1.trans le2, .cons (rv.mono le2) ru, r2, h2⟩

-- statements
theorem ex_nil {Q : AF → ST → Prop} (h : Q .next st) : ex C n env [] st Q := fun fz A hA kp s r => wpAny_execs_nil ⟨fz, .next, st, Le.refl _, .next, r, h⟩
/-- what follows a statement (closed to beta, so that proofs stay small) -/
abbrev seqQ (C : Cx) (n : Nat) (env : Env) (rest : List Stmt) (Q : AF → ST → Prop) (f : AF) (st1 : ST) : Prop := match f with | .next => ex C n env rest st1 Q | f => Q f st1
theorem ex_cons {s₀ : Stmt} {rest : List Stmt} {Q : AF → ST → Prop} (h : ex1 C n env s₀ st (seqQ C n env rest Q)) : ex C n env (s₀ :: rest) st Q := fun fz A hA kp s r => by
  refine wpAny_execs_cons (wpAny_mono (h fz A hA kp s r) ?_ fun _ _ x => x)
  rintro f s1 ⟨fz1, af, st1, le1, rf, r1, h1⟩
  cases rf with
  | next =>
    refine wpAny_mono (h1 fz1 A hA kp s1 r1) ?_ fun _ _ x => x
    rintro u s2 ⟨fz2, au, st2, le2, ru, r2, h2⟩
    exact ⟨fz2, _, st2, le1.trans le2, ru, r2, h2⟩
  | brk => exact ⟨fz1, _, st1, le1, .brk, r1, h1⟩
  | cont => exact ⟨fz1, _, st1, le1, .cont, r1, h1⟩
  | ret x => exact ⟨fz1, _, st1, le1, .ret x, r1, h1⟩
theorem ex1_Pass {pos : Pos} {Q : AF → ST → Prop} (h : Q .next st) : ex1 C n env (.Pass pos) st Q := fun fz A hA kp s r => wpAny_Pass ⟨fz, .next, st, Le.refl _, .next, r, h⟩
theorem ex1_Break {pos : Pos} {Q : AF → ST → Prop} (h : Q .brk st) : ex1 C n env (.Break pos) st Q := fun fz => by
  rw [arm_exec_Break]
  exact aw_at (aw_pure .brk h)
theorem ex1_Continue {pos : Pos} {Q : AF → ST → Prop} (h : Q .cont st) : ex1 C n env (.Continue pos) st Q := fun fz => by
  rw [arm_exec_Continue]
  exact aw_at (aw_pure .cont h)
theorem ex1_Return {e : Expr} {pos : Pos} {Q : AF → ST → Prop} (h : ev C n env e st fun v st1 => Q (.ret v) st1) : ex1 C n env (.Return (some e) pos) st Q := fun fz A hA kp s r =>
  wpAny_Return_some (wpAny_mono (h fz A hA kp s r) (fun _ _ ⟨fz', b, st', h1, h2, h3, h4⟩ => ⟨fz', _, st', h1, .ret h2, h3, h4⟩) fun _ _ x => x)
theorem ex1_If {t : Expr} {b o : List Stmt} {pos : Pos} {Q : AF → ST → Prop} (h : tr C n env t st fun c st1 => if c then ex C n env b st1 Q else ex C n env o st1 Q) : ex1 C n env (.If t b o pos) st Q := fun fz A hA kp s r => by
  refine wpAny_If (wpAny_mono (h fz A hA kp s r) ?_ fun _ _ x => x)
  rintro c s1 ⟨fz1, c', st1, le1, rc, r1, h1⟩
  subst rc
  cases c <;>
  · refine wpAny_mono (h1 fz1 A hA kp s1 r1) ?_ fun _ _ x => x
    rintro u s3 ⟨fz3, au, st3, le3, ru, r3, h3⟩
    exact ⟨fz3, au, st3, le1.trans le3, ru, r3, h3⟩
theorem ex1_AssignName {x : Str} {e : Expr} {pos pos' : Pos} {Q : AF → ST → Prop} (hs : swapsWith e (some (.Name x pos')) pos.line env = pure false) (h : ev C n env e st fun v st1 => sto C n env x v st1 fun st2 => Q .next st2) :
    ex1 C n env (.Assign [.Name x pos'] e pos) st Q := fun fz A hA kp s r => by
  refine wpAny_Assign_Name (wpAny_mono (h fz A hA kp s r) ?_ fun _ _ x => x) hs
  rintro v s1 ⟨fz1, av, st1, le1, rv, r1, h1⟩
  refine wpAny_mono (h1 fz1 v rv A hA kp s1 r1) ?_ fun _ _ x => x
  rintro u s3 ⟨fz3, au, st3, le3, ru, r3, h3⟩
  exact ⟨fz3, _, st3, le1.trans le3, .next, r3, h3⟩
theorem sto_loc {x : Str} {a : V} {Q : ST → Prop} (hk : env.scope.kind = .function) (hx : env.kindOf x = some .local) (h : Q ⟨(x, a) :: st.loc, st.mu⟩) : sto C n env x a st Q := fun fz va ra A hA kp s r => by
  obtain ⟨m, hm, hr⟩ := r.ns
  exact wpAny_storeName_local hx hm (fun h' hn hs => ⟨fz, (), _, Le.refl _, trivial, r.store _ hm hn hs ra, h⟩) (by rw [hk]; rfl)
theorem sto_cell {x : Str} {a : V} {c : Addr} {o : Option V} {Q : ST → Prop} (hk : env.scope.kind = .function) (hx : env.kindOf x = some .cell) (hc : env.cells.lookup x = some c) (hm : st.mu c = some (.cell o)) (h : Q ⟨st.loc, insM st.mu c (.cell (some a))⟩) : sto C n env x a st Q := fun fz va ra A hA kp s r => by
  obtain ⟨ob, h1, h2⟩ := r.mus _ _ hm
  have : ∃ v₀, ob.data = .cell v₀ := by cases h2 with
    | celln e => exact ⟨_, e⟩
    | cells e _ => exact ⟨_, e⟩
  obtain ⟨v₀, hd⟩ := this
  refine wpAny_storeName_cell hk hx hc ⟨ob, h1, hd⟩ fun h' hv hs => ?_
  obtain ⟨o', ho', hd'⟩ := hv
  exact ⟨fz, (), _, Le.refl _, trivial, r.upd s.toks hm (fun b x hb e => (hs.2 b hb).trans e) ho' (.cells hd' ra), h⟩
theorem asg_Name {x : Str} {a : V} {pos : Pos} {Q : ST → Prop} (h : sto C n env x a st Q) : asg C n env (.Name x pos) a st Q := fun fz va ra A hA kp s r => wpAny_assign_Name (h fz va ra A hA kp s r)
end
end Mine
end

section
open PySem PySem.Calls PySem.W PyProof.Rows
set_option maxRecDepth 100000
set_option Elab.async false
set_option linter.unusedVariables false
namespace Mine

def LeM (f g : Mu) : Prop := ∀ a o, f a = some o → g a = some o
theorem LeM.refl (f : Mu) : LeM f f := fun _ _ h => h
theorem LeM.trans {f g h : Mu} (x : LeM f g) (y : LeM g h) : LeM f h := fun a o e => y a o (x a o e)
theorem LeM.new {f g : Mu} {a : Addr} {o : MO} (h : LeM f g) (hf : f a = none) : LeM f (insM g a o) := fun b o' e => by
  by_cases q : b = a
  · subst q; rw [hf] at e; cases e
  · rw [insM_other _ _ q]; exact h _ _ e
theorem LeM.del {f g : Mu} {a : Addr} (h : LeM f g) (hf : f a = none) : LeM f (delM g a) := fun b o' e => by
  by_cases q : b = a
  · subst q; rw [hf] at e; cases e
  · simp only [delM, q, if_false]; exact h _ _ e
theorem LeM.ins {f g : Mu} {a : Addr} {o : MO} (h : ∀ b o', b ≠ a → f b = some o' → g b = some o') (hg : g a = some o) : LeM (insM f a o) g := fun b o' e => by
  by_cases q : b = a
  · subst q; rw [insM_self] at e; cases e; exact hg
  · rw [insM_other _ _ q] at e; exact h _ _ q e

theorem RepD.append {C : Cx} {g : OH} : ∀ {l : List (Str × V)} {vs : List (Str × Value)} {l' : List (Str × V)} {vs' : List (Str × Value)}, RepD C g l vs → RepD C g l' vs' → RepD C g (l ++ l') (vs ++ vs')
  | _, _, _, _, .nil, r => r
  | _, _, _, _, .cons a b, r => .cons a (RepD.append b r)
theorem RepD.reverse {C : Cx} {g : OH} : ∀ {l : List (Str × V)} {vs : List (Str × Value)}, RepD C g l vs → RepD C g l.reverse vs.reverse
  | _, _, .nil => .nil
  | _, _, .cons a b => by
    rw [List.reverse_cons, List.reverse_cons]
    exact RepD.append (RepD.reverse b) (.cons a .nil)
theorem RepD.look {C : Cx} {g : OH} : ∀ {l : List (Str × V)} {vs : List (Str × Value)}, RepD C g l vs → ∀ {x : Str} {av : V}, l.lookup x = some av → ∃ v, vs.lookup x = some v ∧ RepV C g av v
  | _, _, .nil, x, av, e => by cases e
  | _, _, @RepD.cons _ _ k y v l vs a b, x, av, e => by
    rw [List.lookup_cons] at e ⊢
    cases q : x == k with
    | true => rw [q] at e; cases e; exact ⟨v, rfl, a⟩
    | false => rw [q] at e; exact RepD.look b e
theorem RepD.none {C : Cx} {g : OH} : ∀ {l : List (Str × V)} {vs : List (Str × Value)}, RepD C g l vs → ∀ {x : Str}, l.lookup x = none → vs.lookup x = Option.none
  | _, _, .nil, x, e => rfl
  | _, _, @RepD.cons _ _ k y v l vs a b, x, e => by
    rw [List.lookup_cons] at e ⊢
    cases q : x == k with
    | true => rw [q] at e; cases e
    | false => rw [q] at e; exact RepD.none b e
theorem RepL.length {C : Cx} {g : OH} : ∀ {l : List V} {vs : List Value}, RepL C g l vs → l.length = vs.length
  | _, _, .nil => rfl
  | _, _, .cons _ b => by simp [RepL.length b]
theorem RepL.get {C : Cx} {g : OH} : ∀ {l : List V} {vs : List Value}, RepL C g l vs → ∀ {i : Nat} {x : V}, l[i]? = some x → ∃ v, vs[i]? = some v ∧ RepV C g x v
  | _, _, .nil, i, x, e => by simp at e
  | _, _, .cons a b, 0, x, e => by simp at e; subst e; exact ⟨_, rfl, a⟩
  | _, _, .cons a b, i + 1, x, e => by simpa using RepL.get b (i := i) (by simpa using e)
theorem RepL.append {C : Cx} {g : OH} : ∀ {l : List V} {vs : List Value} {l' : List V} {vs' : List Value}, RepL C g l vs → RepL C g l' vs' → RepL C g (l ++ l') (vs ++ vs')
  | _, _, _, _, .nil, r => r
  | _, _, _, _, .cons a b, r => .cons a (RepL.append b r)

namespace Rp
variable {C : Cx} {fz fz' kp : OH} {env env' : Env} {st st' : ST} {s s' : Shared} {oL : Obj}

theorem enter (R : Rp C fz kp env st s) (hL : s.heap.get? env.locals = some oL) {h₁ : Heap} (tk : Nat) {m' : Str → Option Value} {loc' : List (Str × V)} {mu' : Mu} (hk : ∀ b o, s.heap.get? b = some o → h₁.get? b = some o) (hns : h₁.Ns env'.locals m') (hf : s.heap.objs.size ≤ env'.locals)
    (hl : ∀ x av, loc'.lookup x = some av → ∃ v, m' x = some v ∧ RepV C fz av v)
    (hm : ∀ a o, mu' a = some o → st.mu a = some o ∨ (s.heap.objs.size ≤ a ∧ a ≠ env'.locals ∧ ∃ ob, h₁.get? a = some ob ∧ RepO C fz o ob)) :
    Rp C fz (insH kp env.locals oL) env' ⟨loc', mu'⟩ { s with heap := h₁, toks := tk } := by
  have some_of : ∀ a, s.heap.objs.size ≤ a ∨ st.mu a = none → a < s.heap.objs.size → mu' a = none := fun a h lt => by
    rcases h with h | h
    · exact absurd lt (Nat.not_lt.mpr h)
    · cases q : mu' a with
      | none => rfl
      | some o => rcases hm a o q with e | ⟨e, _⟩
                  · rw [h] at e; cases e
                  · exact absurd lt (Nat.not_lt.mpr e)
  refine ⟨R.base, R.fzs.trans hk, fun a o e => ?_, fun a o e => ?_, fun a o e => some_of a (.inr (R.fm _ _ e)) (R.lt_fz e), R.fz_none hf, fun a o e => ?_, ?_, ?_, ⟨m', hns, hl⟩, fun a o e => ?_, R.gens, R.os, fun a o e => (hm a o e).elim (R.mlow _ _) fun h => Nat.lt_of_lt_of_le R.big h.1⟩
  · by_cases q : a = env.locals
    · subst q; rw [insH_self] at e; cases e; exact hk _ _ hL
    · rw [insH_other _ _ q] at e; exact hk _ _ (R.kps _ _ e)
  · rw [insH_other _ _ (fun q => by rw [q, R.fl] at e; cases e)]; exact R.fk _ _ e
  · by_cases q : a = env.locals
    · subst q; exact some_of _ (.inr R.ml) R.lt_loc
    · rw [insH_other _ _ q] at e; exact some_of _ (.inr (R.km _ _ e)) (R.lt_kp e)
  · have ne : env'.locals ≠ env.locals := fun q => by have := R.lt_loc; rw [← q] at this; exact absurd this (Nat.not_lt.mpr hf)
    rw [insH_other _ _ ne]; exact R.kp_none hf
  · show mu' env'.locals = none
    cases q : mu' env'.locals with
    | none => rfl
    | some o => rcases hm _ o q with e | ⟨_, e, _⟩
                · exact absurd (R.lt_mu e) (Nat.not_lt.mpr hf)
                · exact absurd rfl e
  · rcases hm a o e with e | ⟨_, _, e⟩
    · obtain ⟨ob, h1, h2⟩ := R.mus a o e; exact ⟨ob, hk _ _ h1, h2⟩
    · exact e

theorem leave (R : Rp C fz kp env st s) (hL : s.heap.get? env.locals = some oL) (le : Le fz fz') (R' : Rp C fz' (insH kp env.locals oL) env' st' s') {mu1 : Mu} (hm : LeM mu1 st'.mu) : Rp C fz' kp env ⟨st.loc, mu1⟩ s' := by
  have none_of : ∀ a, st'.mu a = none → mu1 a = none := fun a e => by
    cases q : mu1 a with
    | none => rfl
    | some o => rw [hm _ _ q] at e; cases e
  have kk : ∀ a o, kp a = some o → insH kp env.locals oL a = some o := fun a o e => by
    rw [insH_other _ _ (fun q => by rw [q, R.kl] at e; cases e)]; exact e
  obtain ⟨m, ⟨o1, es, ep, a1, r1⟩, h2⟩ := R.ns
  rw [hL] at a1; cases a1
  refine ⟨R'.base, R'.fzs, fun a o e => R'.kps _ _ (kk _ _ e), fun a o e => ?_, fun a o e => none_of _ (R'.fm _ _ e), ?_, fun a o e => none_of _ (R'.km _ _ (kk _ _ e)), R.kl, none_of _ (R'.km _ _ (insH_self ..)),
    ⟨m, ⟨_, es, ep, R'.kps _ _ (insH_self ..), r1⟩, fun x av e => ?_⟩, fun a o e => R'.mus _ _ (hm _ _ e), R'.gens, R'.os, fun a o e => R'.mlow _ _ (hm _ _ e)⟩
  · cases q : kp a with
    | none => rfl
    | some o' => have := R'.fk _ _ e; rw [kk _ _ q] at this; cases this
  · cases q : fz' env.locals with
    | none => rfl
    | some o' => have := R'.fk _ _ q; rw [insH_self] at this; cases this
  · obtain ⟨v, e1, e2⟩ := h2 x av e; exact ⟨v, e1, e2.mono le⟩
end Rp

section
variable {C : Cx} {n : Nat} {env : Env} {st : ST}

def clc (C : Cx) (n : Nat) (env : Env) (f : V) (as : List V) (st : ST) (Q : V → ST → Prop) : Prop := ∀ fz vf vs, RepV C fz f vf → RepL C fz as vs → ∀ A, Ok n A → ∀ kp s, Rp C fz kp env st s →
  codeAny C.M A (.call vf ⟨vs, []⟩) (fun r s' => ∃ v, r = .ok (.ret v) ∧ Pst C (RepV C) fz kp env Q v s') s
theorem cl_of {f : V} {as : List V} {Q : V → ST → Prop} (h : clc C n env f as st Q) : cl C n env f as st Q := fun fz vf vs rf rs A hA kp s r =>
  wpAny_call (codeAny_mono (h fz vf vs rf rs A hA kp s r) fun r s' ⟨v, e, x⟩ => by subst e; exact x)

/-- what a def's binding gives, on abstract values -/
def Binds (C : Cx) (fd : FuncData) (as : List V) (ab : List (Str × V)) : Prop :=
  ∀ fz vs s, RepL C fz as vs → Le C.h0.get? s.heap.get? → ∃ binds, BindsTo s fd ⟨vs, []⟩ binds ∧ RepD C fz ab binds

theorem RepD.keys {C : Cx} {g : OH} : ∀ {l : List (Str × V)} {vs : List (Str × Value)}, RepD C g l vs → vs.map (·.1) = l.map (·.1)
  | _, _, .nil => rfl
  | _, _, .cons _ b => by simp [RepD.keys b]

abbrev Ret (Q : V → ST → Prop) (l : List (Str × V)) (fl : AF) (st' : ST) : Prop := ∃ mu1, LeM mu1 st'.mu ∧ Q (match fl with | .ret v => v | _ => .none) ⟨l, mu1⟩
theorem clc_def {f : Addr} {oc : Value} {od : Option Addr} {osl : Array (Option Value)} {name qual : Str} {params : Arguments} {body : List Stmt} {scope : Scope} {dV kV doc pm cdv ct : Value} {an : Option Addr} {as : List V} {ab : List (Str × V)} {Q : V → ST → Prop}
    (ho : C.K.lookup f = some ⟨oc, od, .func (fnOf name qual params body scope dV kV doc pm an cdv ct), osl⟩) (hcd : codeIn C.K cdv qual = true)
    (hb : Binds C (fnOf name qual params body scope dV kV doc pm an cdv ct) as ab) (hcell : ∀ x ∈ scope.names, x.2 ≠ .cell) (hloc : ∀ y ∈ ab.map (·.1), scope.names.lookup y = some .local)
    (hco : scope.isCoroutine = false) (hgen : scope.isGenerator = false) (hk : scope.kind = .function)
    (h : ∀ L', ex C n (envX qual scope L' f cdv []) body ⟨ab.reverse, st.mu⟩ (Ret Q st.loc)) :
    clc C (n + 1) env (.val (.ref f)) as st Q := fun fz vf vs rf rs A hA kp s r => by
  (first | obtain ⟨_, rfl⟩ := rf.inv | obtain rfl := rf.inv)
  have hb0 : Le C.h0.get? s.heap.get? := r.base.trans r.fzs
  have X : C.K.In s.heap := C.kin.keeps hb0
  obtain ⟨oL, hL⟩ : ∃ oL, s.heap.get? env.locals = some oL := let ⟨_, ⟨o, _, _, e, _⟩, _⟩ := r.ns; ⟨o, e⟩
  obtain ⟨binds, hbi, hrd⟩ := hb fz vs s rs hb0
  refine (codeAny_call_def (fd := fnOf name qual params body scope dV kV doc pm an cdv ct) (body := body) (binds := binds) hA.room (X _ _ ho) rfl (C.lim.keeps hb0) (codeRec_of X hcd) rfl hbi hcell
    (fun x hx => hloc x.1 (by rw [← hrd.keys]; exact List.mem_map_of_mem hx)) (fun h₁ hns hk₁ => ?_) hco hgen hk)
  have R' : Rp C fz (insH kp env.locals oL) (envX qual scope s.heap.objs.size f cdv []) ⟨ab.reverse, st.mu⟩ { s with heap := h₁, toks := s.toks + binds.length } :=
    r.enter hL _ hk₁ hns (Nat.le_refl _) (fun x av e => hrd.reverse.look e) (fun a o e => .inl e)
  refine wpAny_mono (h s.heap.objs.size fz (A.deeper (envX qual scope s.heap.objs.size f cdv [])) (hA.deeper _) _ _ R') ?_ fun _ _ x => x.elim
  rintro fl s' ⟨fz', af, st', le, rf, R2, mu1, hm, hq⟩
  refine ⟨_, rfl, fz', _, ⟨st.loc, mu1⟩, le, ?_, r.leave hL le R2 hm, hq⟩
  cases rf with
  | ret x => exact x
  | _ => exact .none

theorem lookNone {β : Type} {r : List (Str × β)} {y : Str} (h : y ∉ r.map (·.1)) : r.lookup y = none := by
  induction r with
  | nil => rfl
  | cons p r ih =>
    rw [List.map_cons, List.mem_cons, not_or] at h
    rw [List.lookup_cons]
    have : (y == p.1) = false := by simpa using h.1
    rw [this]; exact ih h.2
theorem valL (kindOf : Str → Option NameKind) : ∀ (bs : List (Str × Value)) (m : Str → Option Value) (y : Str), (bs.map (·.1)).Nodup → kindOf y = some .local → bindL kindOf bs m y = (match bs.lookup y with | some v => some v | none => m y)
  | [], m, y, _, _ => rfl
  | (a, v) :: r, m, y, hn, hy => by
    rw [List.map_cons, List.nodup_cons] at hn
    unfold bindL
    by_cases hl : kindOf a = some .local
    · rw [if_pos hl, valL kindOf r _ y hn.2 hy, List.lookup_cons]
      by_cases q : y = a
      · subst q
        simp [lookNone hn.1]
      · have : (y == a) = false := by simpa using q
        simp only [this, q, if_false]
    · rw [if_neg hl, valL kindOf r _ y hn.2 hy, List.lookup_cons]
      have q : y ≠ a := fun e => hl (e ▸ hy)
      have : (y == a) = false := by simpa using q
      simp only [this]
theorem valC (kindOf : Str → Option NameKind) : ∀ (bs : List (Str × Value)) (m : Str → Option Value) (y : Str), (bs.map (·.1)).Nodup → ¬ kindOf y = some .local → bindC kindOf bs m y = (match bs.lookup y with | some v => some v | none => m y)
  | [], m, y, _, _ => rfl
  | (a, v) :: r, m, y, hn, hy => by
    rw [List.map_cons, List.nodup_cons] at hn
    unfold bindC
    by_cases hl : kindOf a = some .local
    · rw [if_pos hl, valC kindOf r _ y hn.2 hy, List.lookup_cons]
      have q : y ≠ a := fun e => hy (e ▸ hl)
      have : (y == a) = false := by simpa using q
      simp only [this]
    · rw [if_neg hl, valC kindOf r _ y hn.2 hy, List.lookup_cons]
      by_cases q : y = a
      · subst q
        simp [lookNone hn.1]
      · have : (y == a) = false := by simpa using q
        simp only [this, q, if_false]
theorem cellIn : ∀ (names : List (Str × NameKind)) (k : Nat) (acc : List (Str × Addr)) (y : Str) (c : Addr), (cellsFrom k names acc).lookup y = some c → acc.lookup y = some c ∨ (y, NameKind.cell) ∈ names
  | [], _, _, _, _, e => .inl e
  | (a, kd) :: r, k, acc, y, c, e => by
    unfold cellsFrom at e
    by_cases hkd : (kd == NameKind.cell) = true
    · rw [if_pos hkd] at e
      rcases cellIn r _ _ _ _ e with e | e
      · rw [List.lookup_cons] at e
        by_cases q : (y == a) = true
        · exact .inr (by rw [beq_iff_eq.mp q, beq_iff_eq.mp hkd]; exact .head _)
        · have q' : (y == a) = false := by simpa using q
          rw [q'] at e; exact .inl e
      · exact .inr (.tail _ e)
    · rw [if_neg hkd] at e
      rcases cellIn r _ _ _ _ e with e | e
      · exact .inl e
      · exact .inr (.tail _ e)
theorem lookMem : ∀ {cs : List (Str × NameKind)} {n : Str} {c : NameKind}, (cs.map (·.1)).Nodup → (n, c) ∈ cs → cs.lookup n = some c
  | (n', c') :: cs, n, c, hnd, hm => by
    rw [List.map_cons, List.nodup_cons] at hnd
    rw [List.lookup_cons]
    rcases List.mem_cons.mp hm with e | hm
    · cases e; simp
    · have : n ≠ n' := fun e => hnd.1 (by rw [← e]; exact List.mem_map_of_mem (f := (·.1)) hm)
      have : (n == n') = false := by simpa using this
      rw [this]; exact lookMem hnd.2 hm
theorem lookFilter {β : Type} {p : Str → Bool} : ∀ {l : List (Str × β)} {x : Str} {v : β}, (l.filter fun y => p y.1).lookup x = some v → p x = true ∧ l.lookup x = some v
  | [], x, v, e => by cases e
  | (a, b) :: r, x, v, e => by
    rw [List.filter_cons] at e
    by_cases h : p a = true
    · rw [if_pos h, List.lookup_cons] at e
      rw [List.lookup_cons]
      cases q : x == a with
      | true => rw [q] at e; rw [beq_iff_eq.mp q]; exact ⟨h, e⟩
      | false => rw [q] at e; exact lookFilter e
    · rw [if_neg h] at e
      obtain ⟨h1, h2⟩ := lookFilter e
      refine ⟨h1, ?_⟩
      rw [List.lookup_cons]
      cases q : x == a with
      | true => rw [beq_iff_eq.mp q] at h1; exact absurd h1 h
      | false => exact h2

theorem clc_defC {f : Addr} {oc : Value} {od : Option Addr} {osl : Array (Option Value)} {name qual : Str} {params : Arguments} {body : List Stmt} {scope : Scope} {dV kV doc pm cdv ct : Value} {an : Option Addr} {as : List V} {ab : List (Str × V)} {Q : V → ST → Prop}
    (ho : C.K.lookup f = some ⟨oc, od, .func (fnOf name qual params body scope dV kV doc pm an cdv ct), osl⟩) (hcd : codeIn C.K cdv qual = true)
    (hb : Binds C (fnOf name qual params body scope dV kV doc pm an cdv ct) as ab) (hkind : ((ab.map (·.1)).all fun y => scope.names.lookup y == some .local || scope.names.lookup y == some .cell) = true)
    (hnd : (ab.map (·.1)).Nodup) (hnn : (scope.names.map (·.1)).Nodup) (hndc : ((cellsFrom 0 scope.names []).map (·.1)).Nodup)
    (hco : scope.isCoroutine = false) (hgen : scope.isGenerator = false) (hk : scope.kind = .function)
    (h : ∀ L' mu', (∀ x c, (cellsFrom (L' + 1) scope.names []).lookup x = some c → mu' c = some (.cell (ab.lookup x)) ∧ st.mu c = none) → LeM st.mu mu' →
      ex C n (envX qual scope L' f cdv (cellsFrom (L' + 1) scope.names [])) body ⟨ab.filter (fun y => scope.names.lookup y.1 == some .local), mu'⟩ (Ret Q st.loc)) :
    clc C (n + 1) env (.val (.ref f)) as st Q := fun fz vf vs rf rs A hA kp s r => by
  (first | obtain ⟨_, rfl⟩ := rf.inv | obtain rfl := rf.inv)
  have hb0 : Le C.h0.get? s.heap.get? := r.base.trans r.fzs
  have X : C.K.In s.heap := C.kin.keeps hb0
  obtain ⟨oL, hL⟩ : ∃ oL, s.heap.get? env.locals = some oL := let ⟨_, ⟨o, _, _, e, _⟩, _⟩ := r.ns; ⟨o, e⟩
  obtain ⟨binds, hbi, hrd⟩ := hb fz vs s rs hb0
  have hkeys := hrd.keys
  have hndb : (binds.map (·.1)).Nodup := hkeys ▸ hnd
  have hkb : (binds.all fun y => scope.names.lookup y.1 == some .local || scope.names.lookup y.1 == some .cell) = true := by
    rw [List.all_eq_true] at hkind ⊢
    intro x hx
    exact hkind x.1 (by rw [← hkeys]; exact List.mem_map_of_mem hx)
  refine (codeAny_call_function hA.room (X _ _ ho) rfl hco hgen rfl (codeRec_of X hcd) (hbi _ _ _ _ ?_))
  refine wpAny_newFunctionEnv_cells hk (kindsX hkb _) fun env' he s1 x => ?_
  subst he
  refine ⟨(C.lim.keeps hb0).keeps x.toInCall.keep, codeAny_func ?_⟩
  obtain ⟨h₁, tk, rfl⟩ := x.toInCall.same
  have hk₁ := x.toInCall.keep
  let cells := cellsFrom (s.heap.objs.size + 1) scope.names []
  let mu' : Mu := fun a => match cells.find? (fun p => p.2 == a) with
    | some p => some (.cell (ab.lookup p.1))
    | none => st.mu a
  have ndup : (cells.map (·.1)).Nodup := cellsFrom_names scope.names 0 (s.heap.objs.size + 1) [] [] rfl ▸ hndc
  have above : ∀ p ∈ cells, s.heap.objs.size < p.2 := fun p hp => x.above p.1 p.2 hp
  have memOf : ∀ y c, cells.lookup y = some c → (y, c) ∈ cells := fun y c e => PySem.mem_of_lookup e
  have uniq : ∀ y c, cells.lookup y = some c → mu' c = some (.cell (ab.lookup y)) := by
    intro y c e
    have hm : (y, c) ∈ cells := memOf y c e
    have : ∃ p, cells.find? (fun p => p.2 == c) = some p := by
      cases q : cells.find? (fun p => p.2 == c) with
      | some p => exact ⟨p, rfl⟩
      | none => have := List.find?_eq_none.mp q (y, c) hm; simp at this
    obtain ⟨p, hp⟩ := this
    have h1 : p.2 = c := by simpa using List.find?_some hp
    have h2 : p ∈ cells := List.mem_of_find?_eq_some hp
    have h3 : p.1 = y := name_of_addr x.apart (c := c) (by rw [← h1]; exact h2) hm
    show (match cells.find? (fun p => p.2 == c) with | some p => some (MO.cell (ab.lookup p.1)) | none => st.mu c) = _
    rw [hp]
    show some (MO.cell (ab.lookup p.1)) = _
    rw [h3]
  have fresh : ∀ a, (∃ p ∈ cells, p.2 = a) → st.mu a = none := fun a ⟨p, hp, e⟩ => r.mu_none (by rw [← e]; exact Nat.le_of_lt (above p hp))
  have leM : LeM st.mu mu' := by
    intro a o e
    show (match cells.find? (fun p => p.2 == a) with | some p => some (MO.cell (ab.lookup p.1)) | none => st.mu a) = _
    cases q : cells.find? (fun p => p.2 == a) with
    | none => exact e
    | some p =>
      have := fresh a ⟨p, List.mem_of_find?_eq_some q, by simpa using List.find?_some q⟩
      rw [this] at e; cases e
  have valOf : ∀ y c, cells.lookup y = some c → ∃ ob, h₁.get? c = some ob ∧ RepO C fz (.cell (ab.lookup y)) ob := by
    intro y c e
    obtain ⟨ob, h1, h2⟩ := x.cell y c e
    refine ⟨ob, h1, ?_⟩
    have hkd : scope.names.lookup y = some .cell := by
      rcases cellIn _ _ _ _ _ e with q | q
      · cases q
      · exact lookMem hnn q
    rw [valC _ _ _ _ hndb (by show ¬ scope.names.lookup y = some NameKind.local; rw [hkd]; decide)] at h2
    cases q : ab.lookup y with
    | none =>
      rw [hrd.none q] at h2
      exact .celln h2
    | some av =>
      obtain ⟨v, e1, e2⟩ := hrd.look q
      rw [e1] at h2
      exact .cells h2 e2
  have R' : Rp C fz (insH kp env.locals oL) (envX qual scope s.heap.objs.size f cdv cells) ⟨ab.filter (fun y => scope.names.lookup y.1 == some .local), mu'⟩ { s with heap := h₁, toks := tk } := by
    refine r.enter hL _ hk₁ x.toInCall.ns (Nat.le_refl _) (fun y av e => ?_) (fun a o e => ?_)
    · obtain ⟨e1, e2⟩ := lookFilter (p := fun y => scope.names.lookup y == some NameKind.local) e
      obtain ⟨v, e3, e4⟩ := hrd.look e2
      refine ⟨v, ?_, e4⟩
      rw [valL _ _ _ _ hndb (by show scope.names.lookup y = some NameKind.local; simpa using e1), e3]
    · have e : (match cells.find? (fun p => p.2 == a) with | some p => some (MO.cell (ab.lookup p.1)) | none => st.mu a) = some o := e
      cases q : cells.find? (fun p => p.2 == a) with
      | none => rw [q] at e; exact .inl e
      | some p =>
        rw [q] at e
        cases e
        have h1 : p.2 = a := by simpa using List.find?_some q
        have hp : p ∈ cells := List.mem_of_find?_eq_some q
        have lt := above p hp
        rw [h1] at lt
        refine .inr ⟨Nat.le_of_lt lt, Nat.ne_of_gt lt, ?_⟩
        have := valOf p.1 p.2 (lookup_of_mem_nodup ndup hp)
        rw [h1] at this
        exact this
  refine wpAny_mono (h s.heap.objs.size mu' (fun y c e => ⟨uniq y c e, fresh c ⟨(y, c), memOf y c e, rfl⟩⟩) leM fz (A.deeper (envX qual scope s.heap.objs.size f cdv cells)) (hA.deeper _) _ _ R') ?_ fun _ _ x => x.elim
  rintro fl s' ⟨fz', af, st', le, rf, R2, mu1, hm, hq⟩
  refine ⟨_, rfl, fz', _, ⟨st.loc, mu1⟩, le, ?_, r.leave hL le R2 hm, hq⟩
  cases rf with
  | ret x => exact x
  | _ => exact .none
end
end Mine
end

section
open PySem PySem.Calls PySem.W PyProof.Rows
set_option maxRecDepth 100000
set_option Elab.async false
set_option linter.unusedVariables false
namespace Mine

theorem Rp.at_fz {C : Cx} {fz kp : OH} {env : Env} {st : ST} {s : Shared} (r : Rp C fz kp env st s) {a : Addr} {o : Obj} (e : fz a = some o) : s.heap.get? a = some o := r.fzs _ _ e
theorem Rp.kin {C : Cx} {fz kp : OH} {env : Env} {st : ST} {s : Shared} (r : Rp C fz kp env st s) : C.K.In s.heap := C.kin.keeps (r.base.trans r.fzs)

theorem wpAny_frame {C : Cx} {n : Nat} {α β : Type} {R : OH → β → α → Prop} {fz : OH} {env : Env} {t : Sem α} {st : ST} {Q Q' : β → ST → Prop} {A : Around} {kp : OH} {s : Shared} {fz0 : OH} (h : aw C n R fz env t st Q) (hA : Ok n A) (r : Rp C fz kp env st s) (le : Le fz0 fz) (hQ : ∀ b st', Q b st' → Q' b st') :
    wpAny C.M A t (Pst C R fz0 kp env Q') (fun _ _ => False) s :=
  wpAny_mono (h A hA kp s r) (fun _ _ ⟨fz', b, st', h1, h2, h3, h4⟩ => ⟨fz', b, st', le.trans h1, h2, h3, hQ _ _ h4⟩) fun _ _ x => x

section
variable {C : Cx} {n : Nat} {env : Env} {st : ST}

-- calls: a def or a class of the text's own
theorem ev_CallK {func : Expr} {e : Expr} {rest : List Expr} {pos : Pos} {Q : V → ST → Prop}
    (he : eval (.Call func (e :: rest) [] pos) env = (do callWith pos (← eval func env) [] (backTo pos (starEach (e :: rest) env)) (backToKw pos (keywordEach [] env))))
    (hs : starEach (e :: rest) env = (false, eval e env) :: starEach rest env) (hp : (backTo pos (starEach rest env)).any (·.1) = false)
    (h : ev C n env func st fun fv st1 => ∃ f, fv = .val f ∧ keepIn C.K f = true ∧ evl C n env pos (e :: rest) st1 fun avs st2 => cl C n env fv avs st2 Q) : ev C n env (.Call func (e :: rest) [] pos) st Q := fun fz A hA kp s r => by
  refine Call_ (wpAny_mono (h fz A hA kp s r) ?_ fun _ _ x => x) he
  rintro v s1 ⟨fz1, av, st1, le1, rv, r1, f, rfl, hk, h1⟩
  (first | obtain ⟨_, rfl⟩ := rv.inv | obtain rfl := rv.inv)
  refine callWith_K r1.kin hk (wpAny_mono (h1 fz1 A hA kp s1 r1) ?_ fun _ _ x => x) hs hp
  rintro vs s2 ⟨fz2, avs, st2, le2, rvs, r2, h2⟩
  exact ⟨r2.kin, wpAny_frame (h2 fz2 _ _ (.val _) rvs) hA r2 (le1.trans le2) fun _ _ x => x⟩
theorem ev_CallK0 {func : Expr} {pos : Pos} {Q : V → ST → Prop}
    (he : eval (.Call func [] [] pos) env = (do callWith pos (← eval func env) [] (backTo pos (starEach [] env)) (backToKw pos (keywordEach [] env))))
    (h : ev C n env func st fun fv st1 => ∃ f, fv = .val f ∧ keepIn C.K f = true ∧ cl C n env fv [] st1 Q) : ev C n env (.Call func [] [] pos) st Q := fun fz A hA kp s r => by
  refine Call_ (wpAny_mono (h fz A hA kp s r) ?_ fun _ _ x => x) he
  rintro v s1 ⟨fz1, av, st1, le1, rv, r1, f, rfl, hk, h1⟩
  (first | obtain ⟨_, rfl⟩ := rv.inv | obtain rfl := rv.inv)
  exact callWith_K0 r1.kin hk (wpAny_frame (h1 fz1 _ _ (.val _) .nil) hA r1 le1 fun _ _ x => x)
-- a built-in function, a built-in type
theorem ev_CallB {func : Expr} {e : Expr} {rest : List Expr} {pos : Pos} {Q : V → ST → Prop}
    (he : eval (.Call func (e :: rest) [] pos) env = (do callWith pos (← eval func env) [] (backTo pos (starEach (e :: rest) env)) (backToKw pos (keywordEach [] env))))
    (hs : starEach (e :: rest) env = (false, eval e env) :: starEach rest env) (hp : (backTo pos (starEach rest env)).any (·.1) = false)
    (h : ev C n env func st fun fv st1 => ∃ i, fv = .val (.builtin i) ∧ evl C n env pos (e :: rest) st1 fun avs st2 => cl C n env fv avs st2 Q) : ev C n env (.Call func (e :: rest) [] pos) st Q := fun fz A hA kp s r => by
  refine Call_ (wpAny_mono (h fz A hA kp s r) ?_ fun _ _ x => x) he
  rintro v s1 ⟨fz1, av, st1, le1, rv, r1, f, rfl, h1⟩
  (first | obtain ⟨_, rfl⟩ := rv.inv | obtain rfl := rv.inv)
  refine PyProof.Rows.callWith_builtin1 (wpAny_mono (h1 fz1 A hA kp s1 r1) ?_ fun _ _ x => x) hs hp
  rintro vs s2 ⟨fz2, avs, st2, le2, rvs, r2, h2⟩
  exact wpAny_frame (h2 fz2 _ _ (.val _) rvs) hA r2 (le1.trans le2) fun _ _ x => x
theorem ev_CallT {func : Expr} {e : Expr} {rest : List Expr} {pos : Pos} {Q : V → ST → Prop}
    (he : eval (.Call func (e :: rest) [] pos) env = (do callWith pos (← eval func env) [] (backTo pos (starEach (e :: rest) env)) (backToKw pos (keywordEach [] env))))
    (hs : starEach (e :: rest) env = (false, eval e env) :: starEach rest env) (hp : (backTo pos (starEach rest env)).any (·.1) = false)
    (h : ev C n env func st fun fv st1 => ∃ i, fv = .val (.type i) ∧ evl C n env pos (e :: rest) st1 fun avs st2 => cl C n env fv avs st2 Q) : ev C n env (.Call func (e :: rest) [] pos) st Q := fun fz A hA kp s r => by
  refine Call_ (wpAny_mono (h fz A hA kp s r) ?_ fun _ _ x => x) he
  rintro v s1 ⟨fz1, av, st1, le1, rv, r1, f, rfl, h1⟩
  (first | obtain ⟨_, rfl⟩ := rv.inv | obtain rfl := rv.inv)
  refine PyProof.Rows.callWith_type1 (wpAny_mono (h1 fz1 A hA kp s1 r1) ?_ fun _ _ x => x) hs hp
  rintro vs s2 ⟨fz2, avs, st2, le2, rvs, r2, h2⟩
  exact wpAny_frame (h2 fz2 _ _ (.val _) rvs) hA r2 (le1.trans le2) fun _ _ x => x

-- instances: their attributes
theorem lookIn_of {o : Obj} {kvs : List (Str × Value)} (h : NsIs o kvs) (name : Str) : lookIn name o = some (kvs.lookup name) := by
  obtain ⟨es, ep, hd, hk, _, hf⟩ := h
  unfold lookIn
  rw [hd]
  dsimp only
  have e := hf name
  unfold nsFind findBy at e
  rw [← Array.find?_toList] at e
  cases q : es.toList.find? (fun x => x.key.isStr name) with
  | some x => rw [q] at e; simp at e; simp [e]
  | none =>
    rw [q] at e
    have nr : es.toList.any (·.refKey) = false := by
      rw [List.any_eq_false]
      intro x hx
      obtain ⟨k, t, hkt⟩ := hk x (Array.mem_toList_iff.mp hx)
      simp [DictEntry.refKey, hkt]
    simp only [nr, Bool.false_eq_true, if_false]
    simp at e
    rw [← e]
theorem instAt_ins {C : Cx} {fz kp : OH} {env : Env} {st : ST} {s : Shared} (r : Rp C fz kp env st s) {c : Addr} {l : List (Str × V)} {v : Value} (h : RepV C fz (.ins c l) v) : ∃ x d o kvs, v = .ref x ∧ InstAt s.heap x (instObj c d) c (some o) ∧ NsIs o kvs ∧ RepD C fz l kvs := by
  obtain ⟨_, _, _, _, rfl, h1, h2, h3, h4⟩ := h.inv
  exact ⟨_, _, _, _, rfl, ⟨r.fzs _ _ h1, rfl, rfl, r.fzs _ _ h2⟩, h3, h4⟩
theorem instAt_obj {C : Cx} {fz kp : OH} {env : Env} {st : ST} {s : Shared} (r : Rp C fz kp env st s) {c d : Addr} {l : List (Str × V)} {v : Value} (h : RepV C fz (.obj c d) v) (hd : st.mu d = some (.ns l)) : ∃ x o kvs, v = .ref x ∧ fz x = some (instObj c d) ∧ InstAt s.heap x (instObj c d) c (some o) ∧ NsIs o kvs ∧ RepD C fz l kvs := by
  obtain ⟨_, rfl, h1⟩ := h.inv
  obtain ⟨ob, h2, h3⟩ := r.mus _ _ hd
  cases h3 with
  | ns h4 h5 => exact ⟨_, _, _, rfl, h1, ⟨r.fzs _ _ h1, rfl, rfl, h2⟩, h4, h5⟩

def plainV : V → Bool
  | .val (.builtin _) => false
  | _ => true
theorem handed {C : Cx} {g : OH} {x : V} {v : Value} (h : RepV C g x v) (hp : plainV x = true) : handedIn v = true := by
  cases h with
  | val => cases v <;> first | rfl | cases hp
  | _ => rfl

/-- the attribute's name is not found in the class, or what is found there is no descriptor -/
def attrOk (K : Frag) (c : Addr) (name : Str) : Bool := plainGet K c name && hasDictIn K c && (match findIn K (.ref c) name with | some a => noGet K a | none => false)
theorem ev_AttrI {o : Expr} {name : Str} {pos : Pos} {Q : V → ST → Prop} (he : ∀ e, attributeBase o name env e = e) (h : ev C n env o st fun ov st1 => ∃ c l x, ov = .ins c l ∧ attrOk C.K c name = true ∧ l.lookup name = some x ∧ plainV x = true ∧ Q x st1) :
    ev C n env (.Attribute o name pos) st Q := fun fz => by
  rw [arm_eval_Attribute, he]
  refine aw_seq ((h fz).mono fun ov st1 h1 fz1 v le1 rv => ?_)
  obtain ⟨c, l, x, rfl, hk, hl, hp, hq⟩ := h1
  intro A hA kp s r
  refine wpAny_bind (wpAny_standAt (wpAny_bind (wpAny_holding ?_)))
  obtain ⟨x', d, ob, kvs, rfl, I, hns, hrd⟩ := instAt_ins r rv
  obtain ⟨u, e1, e2⟩ := hrd.look hl
  unfold attrOk at hk
  simp only [Bool.and_eq_true] at hk
  obtain ⟨⟨k1, k2⟩, k3⟩ := hk
  split at k3
  · rename_i a ha
    refine get_value r.kin I (plainGet_of k1).1 (findObj_own k2 ha k3 (by rw [lookIn_of hns, e1])) (handed e2 hp) ?_
    exact wpAny_bind (wpAny_letTemporaryGo (wpAny_pure ⟨fz1, x, st1, Le.refl _, e2, r.toks _, hq⟩))
  · cases k3
theorem ev_AttrO {o : Expr} {name : Str} {pos : Pos} {Q : V → ST → Prop} (he : ∀ e, attributeBase o name env e = e) (h : ev C n env o st fun ov st1 => ∃ c d l x, ov = .obj c d ∧ st1.mu d = some (.ns l) ∧ attrOk C.K c name = true ∧ l.lookup name = some x ∧ plainV x = true ∧ Q x st1) :
    ev C n env (.Attribute o name pos) st Q := fun fz => by
  rw [arm_eval_Attribute, he]
  refine aw_seq ((h fz).mono fun ov st1 h1 fz1 v le1 rv => ?_)
  obtain ⟨c, d, l, x, rfl, hd, hk, hl, hp, hq⟩ := h1
  intro A hA kp s r
  refine wpAny_bind (wpAny_standAt (wpAny_bind (wpAny_holding ?_)))
  obtain ⟨x', ob, kvs, rfl, _, I, hns, hrd⟩ := instAt_obj r rv hd
  obtain ⟨u, e1, e2⟩ := hrd.look hl
  unfold attrOk at hk
  simp only [Bool.and_eq_true] at hk
  obtain ⟨⟨k1, k2⟩, k3⟩ := hk
  split at k3
  · rename_i a ha
    refine get_value r.kin I (plainGet_of k1).1 (findObj_own k2 ha k3 (by rw [lookIn_of hns, e1])) (handed e2 hp) ?_
    exact wpAny_bind (wpAny_letTemporaryGo (wpAny_pure ⟨fz1, x, st1, Le.refl _, e2, r.toks _, hq⟩))
  · cases k3

-- an attribute is stored
theorem wpAny_nsSet_is {M : Model} {A : Around} {E : Value → Shared → Prop} {s : Shared} {a : Addr} {o : Obj} {kvs : List (Str × Value)} {name : Str} {v : Value} {Q : Unit → Shared → Prop} (ho : s.heap.get? a = some o) (hn : NsIs o kvs)
    (h : ∀ h' o', h'.get? a = some o' → NsIs o' ((name, v) :: kvs) → Heap.SameBut a s.heap h' → Q () { s with heap := h', toks := s.toks + 1 }) : wpAny M A (nsSet a name v) Q E s := fun Γ p _ => by
  obtain ⟨es, ep, hd, hk, hz, hm⟩ := hn
  simp only [nsSet, strHash, Sem.wp_bind', Sem.wp_cmd_ask, Sem.wp_pure', Sem.wp_cmd_mkText]
  rw [Sem.wp_loadPart_of M Γ _ p { s with toks := s.toks + 1 } (o := o) _ ho]
  have hany : es.any (·.refKey) = false := by
    rw [Array.any_eq_false']; intro e he; obtain ⟨n, t, h⟩ := hk e he; simp [DictEntry.refKey, h]
  simp only [hd, aRefKeyMayBeTheName_eq, aRefKeyMayBeTheNameByArray, hany, Bool.and_false, Bool.false_eq_true, if_false, Sem.wp_cmd_updatePart]
  have lk : ∀ x, List.lookup x ((name, v) :: kvs) = if x = name then some v else kvs.lookup x := fun x => by
    rw [List.lookup_cons]
    by_cases q : x = name
    · subst q; simp
    · have : (x == name) = false := by simpa using q
      simp [this, q]
  refine ⟨by rw [ho]; rfl, ?_⟩
  obtain ⟨c, d, dt, sl⟩ := o
  subst hd
  cases hi : es.findIdx? (·.key.isStr name) with
  | some i =>
    refine h _ _ (Heap.get?_update_self _ ho (by simp only [Obj.putName_eq, Obj.putNameByArray, hi]; rfl)) ⟨_, ep, by simp only [Obj.putName_eq, Obj.putNameByArray, hi]; rfl, hk.modify _ _, ?_, fun x => ?_⟩ (Heap.SameBut.update ..)
    · rw [Array.size_modify, List.length_cons]; omega
    · rw [lk, ← hm]; exact findBy_modify (fun n v => v.isStr n) Value.isStr_inj es name x v i hi
  | none =>
    refine h _ _ (Heap.get?_update_self _ ho (by simp only [Obj.putName_eq, Obj.putNameByArray, hi]; rfl)) ⟨_, ep + 1, by simp only [Obj.putName_eq, Obj.putNameByArray, hi]; rfl, hk.push _ _ _ _, ?_, fun x => ?_⟩ (Heap.SameBut.update ..)
    · rw [Array.size_push, List.length_cons]; omega
    · rw [lk, ← hm]
      exact findBy_push (fun n v => v.isStr n) es name x _ _ v (fun y => by
        show (name == y) = decide (y = name)
        by_cases h : y = name
        · subst h; simp
        · have : ¬ name = y := fun e => h e.symm
          simp [h, this]) hi

theorem osa_ns {A : Around} {R : Result → Shared → Prop} {prog : Program} {w : World} {s : Shared} {K : Frag} {x Cc dx : Addr} {ox od : Obj} {name : Str} {tk : Tok} {v : Value} {kvs : List (Str × Value)} (X : K.In s.heap)
    (I : InstAt s.heap x ox Cc (some od)) (hd : ox.dict = some dx) (hp : plainOver K Cc = true) (ht : takerIn K Cc name = some none) (hh : hasDictIn K Cc = true) (hn : NsIs od kvs) (hz : kvs.length ≤ 1000)
    (h : ∀ h' o', h'.get? dx = some o' → NsIs o' ((name, v) :: kvs) → Heap.SameBut dx s.heap h' → R (.ok (.ret .none)) { s with heap := h', toks := s.toks + 1 }) :
    codeAny (model prog w) A (.call (.builtin "object.__setattr__") ⟨[.ref x, .str name tk, v], []⟩) R s := by
  refine osa_open X I hp ht fun b => ?_
  obtain ⟨cd, hc, hd'⟩ := any_some hh
  obtain ⟨hx, hcl, hno, hdd⟩ := I
  obtain ⟨oc, odi, oda, osl⟩ := ox
  dsimp only at hcl hd hdd
  subst hcl hd
  dsimp only at hdd
  refine wpAny_bind (wpAny_pure (wpAny_bind (wpAny_bind (wpAny_loadPart hx (wpAny_bind ((looks_clsIn X hc).here ?_))))))
  rw [hd']
  refine wpAny_pure (a := some dx) (wpAny_bind (wpAny_pure (wpAny_bind ?_)))
  refine wpAny_nsSet_is hdd hn fun h' o' ho' hn' hs => ?_
  have hh := hn'
  obtain ⟨es, ep, hd, _, hzz, _⟩ := hh
  rw [List.length_cons] at hzz
  refine wpAny_bind (wpAny_lookBehind ho' (by rw [hd]; exact pastItsLine_dict (by rw [sizeLine_eq]; omega)) ?_)
  exact wpAny_pure (h h' o' ho' hn' hs)

def setOk (K : Frag) (c : Addr) (name : Str) : Bool := findIn K (.ref c) "__setattr__" == some (some (.builtin "object.__setattr__")) && plainOver K c && takerIn K c name == some none && hasDictIn K c
theorem asg_Attr {o : Expr} {name : Str} {pos : Pos} {a : V} {Q : ST → Prop} (h : ev C n env o st fun ov st1 => ∃ c d l, ov = .obj c d ∧ st1.mu d = some (.ns l) ∧ setOk C.K c name = true ∧ l.length ≤ 1000 ∧ Q ⟨st1.loc, insM st1.mu d (.ns ((name, a) :: l))⟩) :
    asg C n env (.Attribute o name pos) a st Q := fun fz va ra => by
  rw [arm_assign_Attribute]
  refine aw_seq (aw_holding ((h fz).mono fun ov st1 h1 fz1 v le1 rv => ?_))
  obtain ⟨c, d, l, rfl, hd, hk, hz, hq⟩ := h1
  intro A hA kp s r
  refine wpAny_bind (wpAny_standAt (wpAny_bind (wpAny_holding ?_)))
  obtain ⟨x', ob, kvs, rfl, hfx, I, hns, hrd⟩ := instAt_obj r rv hd
  unfold setOk at hk
  simp only [Bool.and_eq_true, beq_iff_eq] at hk
  obtain ⟨⟨⟨k1, k2⟩, k3⟩, k4⟩ := hk
  have hlen : kvs.length ≤ 1000 := by
    have := congrArg List.length hrd.keys
    simp at this; omega
  refine set_plain r.kin I k1 (osa_ns (s := { s with toks := s.toks + 1 }) r.kin I rfl k2 k3 k4 hns hlen fun h' o' ho' hn' hs => ?_)
  refine wpAny_release' ?_
  exact ⟨fz1, (), _, Le.refl _, trivial, r.upd _ hd (fun b x hb e => (hs.2 b hb).trans e) ho' (.ns hn' (.cons (ra.mono le1) hrd)), hq⟩
theorem ex1_AssignG {t e : Expr} {pos : Pos} {Q : AF → ST → Prop} (hs : swapsWithSole [t] e pos.line env = pure false) (hw : swappedStores [t] e env = pure none) (h : ev C n env e st fun v st1 => asg C n env t v st1 fun st2 => Q .next st2)
    (ht : assignEach [t] env = [(false, assign t env)]) : ex1 C n env (.Assign [t] e pos) st Q := fun fz => by
  rw [arm_exec_Assign, hs, hw, ht]
  refine aw_at ?_
  intro A hA kp s r
  refine wpAny_bind (wpAny_pure ?_)
  show wpAny _ _ (eval e env >>= fun v => pure none >>= fun x => assignStores env v x _) _ _ _
  refine wpAny_bind (wpAny_mono (h fz A hA kp s r) ?_ fun _ _ x => x)
  rintro v s1 ⟨fz1, av, st1, le1, rv, r1, h1⟩
  refine wpAny_bind (wpAny_pure ?_)
  show wpAny _ _ (assign t env v >>= fun _ => (pure Flow.next : Sem Flow)) _ _ _
  refine wpAny_bind (wpAny_mono (h1 fz1 v rv A hA kp s1 r1) ?_ fun _ _ x => x)
  rintro u s2 ⟨fz2, _, st2, le2, _, r2, h2⟩
  exact wpAny_pure ⟨fz2, _, st2, le1.trans le2, .next, r2, h2⟩

-- methods
/-- a method of a built-in type -/
theorem ev_MethB {T id : String} {o : Expr} {name : Str} {apos pos : Pos} {e : Expr} {rest : List Expr} {pl : Sem Bool} {Q : V → ST → Prop}
    (he : eval (.Call (.Attribute o name apos) (e :: rest) [] pos) env = (do
      let ov ← eval o env
      standAt apos.atName
      let (f, first) ← holding [ov] (getMethod ov name pl)
      callWith pos f first (backTo pos (starEach (e :: rest) env)) []))
    (hs : starEach (e :: rest) env = (false, eval e env) :: starEach rest env) (hp : (backTo pos (starEach rest env)).any (·.1) = false)
    (pa : PlainAttrs T) (slot : Slot T name id) (hty : typeOf (.builtin id) = pure (.type "method_descriptor"))
    (h : ev C n env o st fun ov st1 => (∀ fz kp s v, Rp C fz kp env st1 s → RepV C fz ov v → s.TypeIs v T ∧ ∀ a, v = .ref a → ∃ o, s.heap.get? a = some o ∧ o.dict = Option.none) ∧
      evl C n env pos (e :: rest) st1 fun avs st2 => cl C n env (.val (.builtin id)) (ov :: avs) st2 Q) : ev C n env (.Call (.Attribute o name apos) (e :: rest) [] pos) st Q := fun fz A hA kp s r => by
  refine MethodCall_ (pl := pl) (wpAny_mono (h fz A hA kp s r) ?_ fun _ _ x => x) he
  rintro v s1 ⟨fz1, av, st1, le1, rv, r1, k1, h1⟩
  obtain ⟨hT, hd⟩ := k1 fz1 kp s1 v r1 rv
  refine getMethod_builtin hT pa slot hty hd ?_
  refine callWith_method1 (wpAny_mono (h1 fz1 A hA kp s1 r1) ?_ fun _ _ x => x) hs hp
  rintro vs s2 ⟨fz2, avs, st2, le2, rvs, r2, h2⟩
  exact wpAny_frame (h2 fz2 _ _ (.val _) (.cons (rv.mono le2) rvs)) hA r2 (le1.trans le2) fun _ _ x => x
theorem ev_MethB0 {T id : String} {o : Expr} {name : Str} {apos pos : Pos} {pl : Sem Bool} {Q : V → ST → Prop}
    (he : eval (.Call (.Attribute o name apos) [] [] pos) env = (do
      let ov ← eval o env
      standAt apos.atName
      let (f, first) ← holding [ov] (getMethod ov name pl)
      callWith pos f first (backTo pos (starEach [] env)) []))
    (pa : PlainAttrs T) (slot : Slot T name id) (hty : typeOf (.builtin id) = pure (.type "method_descriptor"))
    (h : ev C n env o st fun ov st1 => (∀ fz kp s v, Rp C fz kp env st1 s → RepV C fz ov v → s.TypeIs v T ∧ ∀ a, v = .ref a → ∃ o, s.heap.get? a = some o ∧ o.dict = Option.none) ∧
      cl C n env (.val (.builtin id)) [ov] st1 Q) : ev C n env (.Call (.Attribute o name apos) [] [] pos) st Q := fun fz A hA kp s r => by
  refine MethodCall_ (pl := pl) (wpAny_mono (h fz A hA kp s r) ?_ fun _ _ x => x) he
  rintro v s1 ⟨fz1, av, st1, le1, rv, r1, k1, h1⟩
  obtain ⟨hT, hd⟩ := k1 fz1 kp s1 v r1 rv
  refine getMethod_builtin hT pa slot hty hd ?_
  refine callWith_method0 ?_
  exact wpAny_frame (h1 fz1 _ _ (.val _) (.cons rv .nil)) hA r1 le1 fun _ _ x => x

-- making an instance
theorem clc_cls {c f : Addr} {as : List V} {Q : V → ST → Prop} (hm : makesIn C.K c = true) (hi : findIn C.K (.ref c) "__init__" = some (some (.ref f))) (hf : isFn C.K (.ref f) = true)
    (h : ∀ d, st.mu d = none → clc C n env (.val (.ref f)) (.obj c d :: as) ⟨st.loc, insM st.mu d (.ns [])⟩ fun v st1 => v = .none ∧ Q (.obj c d) st1) : clc C (n + 1) env (.val (.ref c)) as st Q := fun fz vf vs rf rs A hA kp s r => by
  (first | obtain ⟨_, rfl⟩ := rf.inv | obtain rfl := rf.inv)
  obtain ⟨hp, g, dr, tk, os⟩ := s
  refine (make_core (init := .ref f) (makes_of r.kin hm) (looks_findIn r.kin hi) (fun self => bind_fn r.kin self (beq_iff_eq.mp hf)) (.inl (by rfl)) ?_)
  have r1 : Rp C fz kp env st ⟨hp.push emptyDict, g, dr, tk, os⟩ := r.ext tk fun b o e => Heap.get?_push_of_some _ e
  have g1 : (hp.push emptyDict).get? hp.objs.size = some emptyDict := Heap.get?_push_size _ rfl
  have r2 := r1.addM (ob := emptyDict) (o := .ns []) g1 (.ns ⟨#[], 0, rfl, fun e he => by simp at he, Nat.le_refl _, fun k => rfl⟩ .nil) (r.fz_none (Nat.le_refl _)) (r.kp_none (Nat.le_refl _)) (r.loc_ne (Nat.le_refl _)) r.big
  have r3 : Rp C fz kp env ⟨st.loc, insM st.mu hp.objs.size (.ns [])⟩ ⟨(hp.push emptyDict).push (instObj c hp.objs.size), g, dr, tk, os⟩ := r2.ext tk fun b o e => Heap.get?_push_of_some _ e
  have hz : (hp.push emptyDict).objs.size = hp.objs.size + 1 := Heap.size_push ..
  have g3 : ((hp.push emptyDict).push (instObj c hp.objs.size)).get? (hp.objs.size + 1) = some (instObj c hp.objs.size) := by
    have := Heap.get?_push_size (hp.push emptyDict) (o := instObj c hp.objs.size) rfl
    rw [hz] at this; exact this
  have r4 := r3.addF g3 (r2.fz_none (by show (hp.push emptyDict).objs.size ≤ _; rw [hz]; exact Nat.le_refl _)) (r2.kp_none (by show (hp.push emptyDict).objs.size ≤ _; rw [hz]; exact Nat.le_refl _))
    (r2.mu_none (by show (hp.push emptyDict).objs.size ≤ _; rw [hz]; exact Nat.le_refl _)) (r2.loc_ne (by show (hp.push emptyDict).objs.size ≤ _; rw [hz]; exact Nat.le_refl _))
  have le : Le fz (insH fz (hp.objs.size + 1) (instObj c hp.objs.size)) := Le.ins _ (r2.fz_none (by show (hp.push emptyDict).objs.size ≤ _; rw [hz]; exact Nat.le_refl _))
  have rx : RepV C (insH fz (hp.objs.size + 1) (instObj c hp.objs.size)) (.obj c hp.objs.size) (.ref (hp.objs.size + 1)) := .obj (insH_self ..)
  have hA' : Ok n (A.under (.builtin "type.__call__" ⟨.ref c :: vs, []⟩)) := by
    obtain ⟨a, b, e⟩ := hA
    refine ⟨a, ?_, ?_⟩
    · rw [depth_under_kw]; omega
    · rw [units_under_make]; omega
  have key := h hp.objs.size (r.mu_none (Nat.le_refl _)) _ _ _ (.val (.ref f)) (.cons rx (rs.mono le)) _ hA' kp _ r4
  refine codeAny_mono key fun rr s' ⟨v, e, fz', b, st', le', rv, rr', hb, hq⟩ => ?_
  subst e hb
  (first | obtain ⟨_, rfl⟩ := rv.inv | obtain rfl := rv.inv)
  exact ⟨rfl, _, rfl, fz', _, st', le.trans le', rx.mono le', rr', hq⟩
end
end Mine
end

section
open PySem PySem.Calls PySem.W PyProof.Rows
set_option maxRecDepth 100000
set_option Elab.async false
set_option linter.unusedVariables false
namespace Mine

namespace Rp
variable {C : Cx} {fz kp : OH} {env : Env} {st : ST} {s : Shared}
theorem pushF (r : Rp C fz kp env st s) (o : Obj) (hf : o.isFreed = false) (tk : Nat) : Le fz (insH fz s.heap.objs.size o) ∧ Rp C (insH fz s.heap.objs.size o) kp env st { s with heap := s.heap.push o, toks := tk } :=
  ⟨Le.ins _ (r.fz_none (Nat.le_refl _)), (r.ext (h' := s.heap.push o) tk fun b x e => Heap.get?_push_of_some _ e).addF (Heap.get?_push_size _ hf) (r.fz_none (Nat.le_refl _)) (r.kp_none (Nat.le_refl _)) (r.mu_none (Nat.le_refl _)) (r.loc_ne (Nat.le_refl _))⟩
theorem pushM (r : Rp C fz kp env st s) (ob : Obj) {o : MO} (hf : ob.isFreed = false) (ho : RepO C fz o ob) (tk : Nat) : st.mu s.heap.objs.size = none ∧ Rp C fz kp env ⟨st.loc, insM st.mu s.heap.objs.size o⟩ { s with heap := s.heap.push ob, toks := tk } :=
  ⟨r.mu_none (Nat.le_refl _), (r.ext (h' := s.heap.push ob) tk fun b x e => Heap.get?_push_of_some _ e).addM (Heap.get?_push_size _ hf) ho (r.fz_none (Nat.le_refl _)) (r.kp_none (Nat.le_refl _)) (r.loc_ne (Nat.le_refl _)) r.big⟩
/-- a new object somewhere above the old heap -/
theorem newF (r : Rp C fz kp env st s) {h' : Heap} {a : Addr} {o : Obj} (tk : Nat) (hk : ∀ b o, s.heap.get? b = some o → h'.get? b = some o) (ha : s.heap.objs.size ≤ a) (ho : h'.get? a = some o) : Le fz (insH fz a o) ∧ Rp C (insH fz a o) kp env st { s with heap := h', toks := tk } :=
  ⟨Le.ins _ (r.fz_none ha), (r.ext tk hk).addF ho (r.fz_none ha) (r.kp_none ha) (r.mu_none ha) (r.loc_ne ha)⟩
theorem newM (r : Rp C fz kp env st s) {h' : Heap} {a : Addr} {ob : Obj} {o : MO} (tk : Nat) (hk : ∀ b o, s.heap.get? b = some o → h'.get? b = some o) (ha : s.heap.objs.size ≤ a) (ho : h'.get? a = some ob) (hr : RepO C fz o ob) : st.mu a = none ∧ Rp C fz kp env ⟨st.loc, insM st.mu a o⟩ { s with heap := h', toks := tk } :=
  ⟨r.mu_none ha, (r.ext tk hk).addM ho hr (r.fz_none ha) (r.kp_none ha) (r.loc_ne ha) (Nat.lt_of_lt_of_le r.big ha)⟩
end Rp

section
variable {C : Cx} {n : Nat} {env : Env} {st : ST}

-- ints
theorem bop_add {a b : Int} {Q : V → ST → Prop} (h : Q (.int (a + b)) st) : op2 C n env (binaryOp .Add) (.int a) (.int b) st Q := fun fz va vb ra rb A hA kp s r => by
  (first | obtain ⟨_, rfl⟩ := ra.inv | obtain rfl := ra.inv); (first | obtain ⟨_, rfl⟩ := rb.inv | obtain rfl := rb.inv)
  exact PyProof.Rows.add_int ⟨fz, _, st, Le.refl _, .int _ _, r.toks _, h⟩
theorem bop_sub {a b : Int} {Q : V → ST → Prop} (h : Q (.int (a - b)) st) : op2 C n env (binaryOp .Sub) (.int a) (.int b) st Q := fun fz va vb ra rb A hA kp s r => by
  (first | obtain ⟨_, rfl⟩ := ra.inv | obtain rfl := ra.inv); (first | obtain ⟨_, rfl⟩ := rb.inv | obtain rfl := rb.inv)
  exact PyProof.Rows.sub_int ⟨fz, _, st, Le.refl _, .int _ _, r.toks _, h⟩
theorem bop_mul {a b : Int} {Q : V → ST → Prop} (hm : IntMulOk a b) (h : Q (.int (a * b)) st) : op2 C n env (binaryOp .Mult) (.int a) (.int b) st Q := fun fz va vb ra rb A hA kp s r => by
  (first | obtain ⟨_, rfl⟩ := ra.inv | obtain rfl := ra.inv); (first | obtain ⟨_, rfl⟩ := rb.inv | obtain rfl := rb.inv)
  exact PyProof.Rows.mul_int ⟨fz, _, st, Le.refl _, .int _ _, r.toks _, h⟩ hm
theorem bop_fdiv {a b : Int} {Q : V → ST → Prop} (hb : b ≠ 0) (hs : b.natAbs < 1073741824) (h : Q (.int (a.fdiv b)) st) : op2 C n env (binaryOp .FloorDiv) (.int a) (.int b) st Q := fun fz va vb ra rb A hA kp s r => by
  (first | obtain ⟨_, rfl⟩ := ra.inv | obtain rfl := ra.inv); (first | obtain ⟨_, rfl⟩ := rb.inv | obtain rfl := rb.inv)
  exact PyProof.Rows.floordiv_int hb ⟨fz, _, st, Le.refl _, .int _ _, r.toks _, h⟩ (.inl (PyProof.noPylong_small hs))
theorem bop_fmod {a b : Int} {Q : V → ST → Prop} (hb : b ≠ 0) (h : Q (.int (a.fmod b)) st) : op2 C n env (binaryOp .Mod) (.int a) (.int b) st Q := fun fz va vb ra rb A hA kp s r => by
  (first | obtain ⟨_, rfl⟩ := ra.inv | obtain rfl := ra.inv); (first | obtain ⟨_, rfl⟩ := rb.inv | obtain rfl := rb.inv)
  exact PyProof.Rows.mod_int hb ⟨fz, _, st, Le.refl _, .int _ _, r.toks _, h⟩
theorem op_neg {a : Int} {Q : V → ST → Prop} (h : Q (.int (-a)) st) : op1 C n env (unaryOp .USub) (.int a) st Q := fun fz va ra A hA kp s r => by
  (first | obtain ⟨_, rfl⟩ := ra.inv | obtain rfl := ra.inv)
  exact PyProof.Rows.neg_int ⟨fz, _, st, Le.refl _, .int _ _, r.toks _, h⟩
theorem cmp_lt {a b : Int} {Q : V → ST → Prop} (h : Q (.bool (decide (a < b))) st) : op2 C n env (compareOp .Lt) (.int a) (.int b) st Q := fun fz va vb ra rb A hA kp s r => by
  (first | obtain ⟨_, rfl⟩ := ra.inv | obtain rfl := ra.inv); (first | obtain ⟨_, rfl⟩ := rb.inv | obtain rfl := rb.inv)
  exact PyProof.Rows.lt_int ⟨fz, _, st, Le.refl _, .bool _, r, h⟩
theorem cmp_gt {a b : Int} {Q : V → ST → Prop} (h : Q (.bool (decide (b < a))) st) : op2 C n env (compareOp .Gt) (.int a) (.int b) st Q := fun fz va vb ra rb A hA kp s r => by
  (first | obtain ⟨_, rfl⟩ := ra.inv | obtain rfl := ra.inv); (first | obtain ⟨_, rfl⟩ := rb.inv | obtain rfl := rb.inv)
  exact PyProof.Rows.gt_int ⟨fz, _, st, Le.refl _, .bool _, r, h⟩
theorem cmp_ge {a b : Int} {Q : V → ST → Prop} (h : Q (.bool (decide (b ≤ a))) st) : op2 C n env (compareOp .GtE) (.int a) (.int b) st Q := fun fz va vb ra rb A hA kp s r => by
  (first | obtain ⟨_, rfl⟩ := ra.inv | obtain rfl := ra.inv); (first | obtain ⟨_, rfl⟩ := rb.inv | obtain rfl := rb.inv)
  exact PyProof.Rows.ge_int ⟨fz, _, st, Le.refl _, .bool _, r, h⟩
theorem cmp_eq {a b : Int} {Q : V → ST → Prop} (h : Q (.bool (a == b)) st) : op2 C n env (compareOp .Eq) (.int a) (.int b) st Q := fun fz va vb ra rb A hA kp s r => by
  (first | obtain ⟨_, rfl⟩ := ra.inv | obtain rfl := ra.inv); (first | obtain ⟨_, rfl⟩ := rb.inv | obtain rfl := rb.inv)
  exact PyProof.Rows.eq_int ⟨fz, _, st, Le.refl _, .bool _, r, h⟩
theorem cmp_ne {a b : Int} {Q : V → ST → Prop} (h : Q (.bool (a != b)) st) : op2 C n env (compareOp .NotEq) (.int a) (.int b) st Q := fun fz va vb ra rb A hA kp s r => by
  (first | obtain ⟨_, rfl⟩ := ra.inv | obtain rfl := ra.inv); (first | obtain ⟨_, rfl⟩ := rb.inv | obtain rfl := rb.inv)
  exact PyProof.Rows.ne_int ⟨fz, _, st, Le.refl _, .bool _, r, h⟩
theorem cmp_seq {a b : Str} {Q : V → ST → Prop} (h : Q (.bool (a == b)) st) : op2 C n env (compareOp .Eq) (.str a) (.str b) st Q := fun fz va vb ra rb A hA kp s r => by
  (first | obtain ⟨_, rfl⟩ := ra.inv | obtain rfl := ra.inv); (first | obtain ⟨_, rfl⟩ := rb.inv | obtain rfl := rb.inv)
  exact PyProof.Rows.eq_str ⟨fz, _, st, Le.refl _, .bool _, r, h⟩
theorem cmp_sne {a b : Str} {Q : V → ST → Prop} (h : Q (.bool (a != b)) st) : op2 C n env (compareOp .NotEq) (.str a) (.str b) st Q := fun fz va vb ra rb A hA kp s r => by
  (first | obtain ⟨_, rfl⟩ := ra.inv | obtain rfl := ra.inv); (first | obtain ⟨_, rfl⟩ := rb.inv | obtain rfl := rb.inv)
  exact PyProof.Rows.ne_str ⟨fz, _, st, Le.refl _, .bool _, r, h⟩
theorem cmp_bne {a b : Bool} {Q : V → ST → Prop} (h : Q (.bool (a != b)) st) : op2 C n env (compareOp .NotEq) (.bool a) (.bool b) st Q := fun fz va vb ra rb A hA kp s r => by
  (first | obtain ⟨_, rfl⟩ := ra.inv | obtain rfl := ra.inv); (first | obtain ⟨_, rfl⟩ := rb.inv | obtain rfl := rb.inv)
  exact PyProof.Rows.ne_bool ⟨fz, _, st, Le.refl _, .bool _, r, h⟩
-- is None
def isNone : V → Bool
  | .none => true
  | .val v => v == .none
  | _ => false
theorem isNone_of {fz : OH} {a : V} {va : Value} (r : RepV C fz a va) : (va == .none) = isNone a := by
  cases r <;> rfl
theorem cmp_is {a : V} {Q : V → ST → Prop} (h : Q (.bool (isNone a)) st) : op2 C n env (compareOp .Is) a .none st Q := fun fz va vb ra rb A hA kp s r => by
  (first | obtain ⟨_, rfl⟩ := rb.inv | obtain rfl := rb.inv)
  exact is_none_gen ⟨fz, _, st, Le.refl _, .bool _, r, by rw [isNone_of ra]; exact h⟩
theorem cmp_isnot {a : V} {Q : V → ST → Prop} (h : Q (.bool (!isNone a)) st) : op2 C n env (compareOp .IsNot) a .none st Q := fun fz va vb ra rb A hA kp s r => by
  (first | obtain ⟨_, rfl⟩ := rb.inv | obtain rfl := rb.inv)
  exact isnot_none_gen ⟨fz, _, st, Le.refl _, .bool _, r, by rw [isNone_of ra]; exact h⟩
-- truth
theorem tru_bool {b : Bool} {Q : Bool → ST → Prop} (h : Q b st) : tru C n env (.bool b) st Q := fun fz va ra A hA kp s r => by
  (first | obtain ⟨_, rfl⟩ := ra.inv | obtain rfl := ra.inv)
  exact wpAny_truthy_bool ⟨fz, _, st, Le.refl _, rfl, r, h⟩
theorem tru_none {Q : Bool → ST → Prop} (h : Q false st) : tru C n env .none st Q := fun fz va ra A hA kp s r => by
  (first | obtain ⟨_, rfl⟩ := ra.inv | obtain rfl := ra.inv)
  exact truthy_none ⟨fz, _, st, Le.refl _, rfl, r, h⟩
-- displays
theorem ev_Tuple {es : List Expr} {k : Nat} {pos : Pos} {Q : V → ST → Prop} (h : evl C n env pos es st fun vs st1 => vs.length ≤ 1000 ∧ Q (.tup vs) st1) : ev C n env (.Tuple es k pos) st Q := fun fz => by
  rw [arm_eval_Tuple]
  refine aw_at (aw_seq ((h fz).mono fun vs st1 h1 fz1 v le1 rv => ?_))
  intro A hA kp s r
  have hz := rv.length
  refine PySem.wpAny_newTuple ?_ (by rw [← hz, sizeLine_eq]; have := h1.1; omega)
  obtain ⟨le, r'⟩ := r.pushF { cls := .type "tuple", data := .seq v.toArray } rfl s.toks
  exact ⟨_, _, st1, le, .tup (insH_self ..) (by simpa using rv.mono le), r', h1.2⟩
theorem ev_ListF {es : List Expr} {pos : Pos} {Q : V → ST → Prop} (h : evl C n env pos es st fun vs st1 => vs.length ≤ 1000 ∧ Q (.lst vs) st1) : ev C n env (.List es pos) st Q := fun fz => by
  rw [arm_eval_List]
  refine aw_at (aw_seq ((h fz).mono fun vs st1 h1 fz1 v le1 rv => ?_))
  intro A hA kp s r
  have hz := rv.length
  refine PySem.wpAny_newList ?_ (by rw [← hz, sizeLine_eq]; have := h1.1; omega)
  obtain ⟨le, r'⟩ := r.pushF { cls := .type "list", data := .seq v.toArray } rfl s.toks
  exact ⟨_, _, st1, le, .lst (insH_self ..) (by simpa using rv.mono le), r', h1.2⟩
theorem ev_ListM {es : List Expr} {pos : Pos} {Q : V → ST → Prop} (h : evl C n env pos es st fun vs st1 => vs.length ≤ 1000 ∧ ∀ a, st1.mu a = none → Q (.val (.ref a)) ⟨st1.loc, insM st1.mu a (.lst vs)⟩) : ev C n env (.List es pos) st Q := fun fz => by
  rw [arm_eval_List]
  refine aw_at (aw_seq ((h fz).mono fun vs st1 h1 fz1 v le1 rv => ?_))
  intro A hA kp s r
  have hz := rv.length
  refine PySem.wpAny_newList ?_ (by rw [← hz, sizeLine_eq]; have := h1.1; omega)
  obtain ⟨hn, r'⟩ := r.pushM { cls := .type "list", data := .seq v.toArray } (o := .lst vs) rfl (.lst (by simpa using rv)) s.toks
  exact ⟨_, _, _, Le.refl _, .val _, r', h1.2 _ hn⟩
end
end Mine
end

section
open PySem PySem.Calls PySem.W PyProof.Rows
set_option maxRecDepth 100000
set_option Elab.async false
set_option linter.unusedVariables false
namespace Mine

section
variable {C : Cx} {n : Nat} {env : Env} {st : ST}

theorem valueAt_lookup (kvs : List (Str × Value)) (k : Str) : valueAt kvs k = kvs.lookup k := by
  induction kvs with
  | nil => rfl
  | cons p r ih =>
    obtain ⟨a, v⟩ := p
    unfold valueAt at ih ⊢
    rw [List.find?_cons, List.lookup_cons]
    by_cases h : a = k
    · subst h; simp
    · have h1 : (k == a) = false := by simpa using Ne.symm h
      have h2 : decide (a = k) = false := by simpa using h
      simp only [h1, h2]; exact ih
theorem seqIdx {j m : Nat} (h : j < m) : seqIndex? (j : Int) m = some j := by
  have h0 : ¬ ((j : Int) < 0) := by omega
  simp [seqIndex?, h0]; omega
-- subscripts
def sub (C : Cx) (n : Nat) (env : Env) (value slice : Expr) (a i : V) (st : ST) (Q : V → ST → Prop) : Prop := ∀ fz va vi, RepV C fz a va → RepV C fz i vi → aw C n (RepV C) fz env (subscriptTail value slice va vi) st Q
theorem ev_Subscript {value slice : Expr} {pos : Pos} {Q : V → ST → Prop} (h : ev C n env value st fun a st1 => ev C n env slice st1 fun i st2 => sub C n env value slice a i st2 Q) : ev C n env (.Subscript value slice pos) st Q := fun fz A hA kp s r => by
  refine Subscript_ (wpAny_mono (h fz A hA kp s r) ?_ fun _ _ x => x)
  rintro v s1 ⟨fz1, av, st1, le1, rv, r1, h1⟩
  refine wpAny_mono (h1 fz1 A hA kp s1 r1) ?_ fun _ _ x => x
  rintro u s2 ⟨fz2, au, st2, le2, ru, r2, h2⟩
  exact wpAny_frame (h2 fz2 v u (rv.mono le2) ru) hA r2 (le1.trans le2) fun _ _ x => x

theorem isTup_of {fz kp : OH} {s : Shared} {a : Addr} {xs : Array Value} {m : Nat} (r : Rp C fz kp env st s) (h : fz a = some (tupO xs m)) : PyProof.Rows.IsTup s.heap a xs := ⟨_, r.fzs _ _ h, rfl, m, rfl⟩
theorem isLst_of {fz kp : OH} {s : Shared} {a : Addr} {xs : Array Value} {m : Nat} (r : Rp C fz kp env st s) (h : fz a = some (lstO xs m)) : s.heap.IsList a xs := ⟨_, r.fzs _ _ h, rfl, m, rfl⟩
theorem isLst_mu {fz kp : OH} {s : Shared} {a : Addr} {l : List V} (r : Rp C fz kp env st s) (h : st.mu a = some (.lst l)) : ∃ xs m, s.heap.get? a = some (lstO xs m) ∧ RepL C fz l xs.toList := by
  obtain ⟨ob, h1, h2⟩ := r.mus _ _ h
  cases h2 with
  | lst h3 => exact ⟨_, _, h1, h3⟩
theorem isDct_mu {fz kp : OH} {s : Shared} {a : Addr} {l : List (Str × V)} (r : Rp C fz kp env st s) (h : st.mu a = some (.dct l)) : ∃ kvs, s.heap.DictOf (strKind C.prog C.w) a kvs ∧ RepD C fz l kvs ∧ (a == sysModules) = false := by
  obtain ⟨ob, h1, h2⟩ := r.mus _ _ h
  cases h2 with
  | dct h3 h4 => exact ⟨_, Heap.dictOf_iff.mpr ⟨_, h1, h3⟩, h4, by have := r.mlow _ _ h; exact beq_eq_false_iff_ne.mpr (fun e => by rw [e] at this; exact absurd this (by decide))⟩
theorem isDct_fz {fz kp : OH} {s : Shared} {a : Addr} {o : Obj} {kvs : List (Str × Value)} (r : Rp C fz kp env st s) (h : fz a = some o) (hd : o.IsDictOf (strKind C.prog C.w) kvs) : s.heap.DictOf (strKind C.prog C.w) a kvs := Heap.dictOf_iff.mpr ⟨_, r.fzs _ _ h, hd⟩

theorem sub_tup {value slice : Expr} {l : List V} {k : Int} {j : Nat} {x : V} {Q : V → ST → Prop} (hs : ∀ o i, subscripted slice false o i = operate [o, i] (getItem o i)) (hk : k = (j : Int)) (hj : j < 1000) (hx : l[j]? = some x) (h : Q x st) : sub C n env value slice (.tup l) (.int k) st Q := fun fz va vi ra ri A hA kp s r => by
  obtain ⟨a, xs, m, rfl, h1, h2⟩ := ra.inv
  (first | obtain ⟨_, rfl⟩ := ri.inv | obtain rfl := ri.inv)
  subst hk
  obtain ⟨v, e1, e2⟩ := h2.get hx
  have hlen : j < xs.toList.length := (List.getElem?_eq_some_iff.mp e1).1
  exact item_tupleT (l := xs.toList) (j := j) (isTup_of r h1) (by omega) (by omega) (seqIdx hlen) e1 ⟨fz, x, st, Le.refl _, e2, r, h⟩ (hs _ _)
theorem sub_lstF {value slice : Expr} {l : List V} {k : Int} {j : Nat} {x : V} {Q : V → ST → Prop} (hs : ∀ o i, subscripted slice false o i = operate [o, i] (getItem o i)) (hk : k = (j : Int)) (hj : j < 1000) (hx : l[j]? = some x) (h : Q x st) : sub C n env value slice (.lst l) (.int k) st Q := fun fz va vi ra ri A hA kp s r => by
  obtain ⟨a, xs, m, rfl, h1, h2⟩ := ra.inv
  (first | obtain ⟨_, rfl⟩ := ri.inv | obtain rfl := ri.inv)
  subst hk
  obtain ⟨v, e1, e2⟩ := h2.get hx
  have hl := isLst_of r h1
  exact tail_any hl.typeIs PySem.slot_list_getitem.lookup (wpAny_getItem_list hl (by omega) (by omega) (by simpa using e1) ⟨fz, x, st, Le.refl _, e2, r, h⟩) (hs _ _)
theorem sub_lstM {value slice : Expr} {a : Addr} {l : List V} {k : Int} {j : Nat} {x : V} {Q : V → ST → Prop} (hs : ∀ o i, subscripted slice false o i = operate [o, i] (getItem o i)) (hm : st.mu a = some (.lst l)) (hk : k = (j : Int)) (hj : j < 1000) (hx : l[j]? = some x) (h : Q x st) : sub C n env value slice (.val (.ref a)) (.int k) st Q := fun fz va vi ra ri A hA kp s r => by
  (first | obtain ⟨_, rfl⟩ := ra.inv | obtain rfl := ra.inv)
  (first | obtain ⟨_, rfl⟩ := ri.inv | obtain rfl := ri.inv)
  subst hk
  obtain ⟨xs, m, h1, h2⟩ := isLst_mu r hm
  obtain ⟨v, e1, e2⟩ := h2.get hx
  have hl : s.heap.IsList a xs := ⟨_, h1, rfl, m, rfl⟩
  exact tail_any hl.typeIs PySem.slot_list_getitem.lookup (wpAny_getItem_list hl (by omega) (by omega) (by simpa using e1) ⟨fz, x, st, Le.refl _, e2, r, h⟩) (hs _ _)
theorem sub_str {value slice : Expr} {x : Str} {k : Int} {j c : Nat} {Q : V → ST → Prop} (hs : ∀ o i, subscripted slice false o i = operate [o, i] (getItem o i)) (hk : k = (j : Int)) (hj : j < 1000) (hx : x.cps[j]? = some c) (h : Q (.str ⟨#[c]⟩) st) : sub C n env value slice (.str x) (.int k) st Q := fun fz va vi ra ri A hA kp s r => by
  (first | obtain ⟨_, rfl⟩ := ra.inv | obtain rfl := ra.inv)
  (first | obtain ⟨_, rfl⟩ := ri.inv | obtain rfl := ri.inv)
  subst hk
  have hlen : j < x.cps.size := (Array.getElem?_eq_some_iff.mp hx).1
  refine tail_any (T := "str") (id := "str.__getitem__") rfl PySem.F.slot_str_getitem.lookup (P.getItem_str (c := c) ?_ ?_ ⟨fz, _, st, Le.refl _, .str _ _, r.toks _, h⟩) (hs _ _)
  · simp; omega
  · have : seqIndex? (j : Int) x.length = some j := by unfold seqIndex?; unfold Str.length; simp; omega
    rw [this]; exact hx
theorem sub_dctM {value slice : Expr} {a : Addr} {l : List (Str × V)} {k : Str} {x : V} {Q : V → ST → Prop} (hs : ∀ o i, subscripted slice false o i = operate [o, i] (getItem o i)) (hm : st.mu a = some (.dct l)) (hx : l.lookup k = some x) (h : Q x st) : sub C n env value slice (.val (.ref a)) (.str k) st Q := fun fz va vi ra ri A hA kp s r => by
  (first | obtain ⟨_, rfl⟩ := ra.inv | obtain rfl := ra.inv)
  (first | obtain ⟨_, rfl⟩ := ri.inv | obtain rfl := ri.inv)
  obtain ⟨kvs, h1, h2, h3⟩ := isDct_mu r hm
  obtain ⟨v, e1, e2⟩ := h2.look hx
  exact tail_any h1.typeIs PySem.slot_dict_getitem.lookup (wpAny_getItem_of (strKind_is _ _ _ _) h1.mapOf (by rw [← e1]; exact valueAt_lookup ..) ⟨fz, x, st, Le.refl _, e2, r.toks _, h⟩) (hs _ _)
theorem sub_dctF {value slice : Expr} {l : List (Str × V)} {k : Str} {x : V} {Q : V → ST → Prop} (hs : ∀ o i, subscripted slice false o i = operate [o, i] (getItem o i)) (hx : l.lookup k = some x) (h : Q x st) : sub C n env value slice (.dct l) (.str k) st Q := fun fz va vi ra ri A hA kp s r => by
  obtain ⟨a, o, kvs, rfl, h1, h2, h3, h4⟩ := ra.inv
  (first | obtain ⟨_, rfl⟩ := ri.inv | obtain rfl := ri.inv)
  obtain ⟨v, e1, e2⟩ := h4.look hx
  have hd := isDct_fz r h1 h2
  exact tail_any hd.typeIs PySem.slot_dict_getitem.lookup (wpAny_getItem_of (strKind_is _ _ _ _) hd.mapOf (by rw [← e1]; exact valueAt_lookup ..) ⟨fz, x, st, Le.refl _, e2, r.toks _, h⟩) (hs _ _)
end
end Mine
end

section
open PySem PySem.Calls PySem.W PyProof.Rows
set_option maxRecDepth 100000
set_option Elab.async false
set_option linter.unusedVariables false
namespace Mine

section
variable {C : Cx} {n : Nat} {env : Env} {st : ST}

theorem RepL.size {C : Cx} {g : OH} {l : List V} {xs : Array Value} (h : RepL C g l xs.toList) : xs.size = l.length := by rw [← Array.length_toList]; exact h.length.symm
theorem setItem_lstO {prog : Program} {w : World} {A : Around} {E : Value → Shared → Prop} {s : Shared} {l : Addr} {items : Array Value} {m j : Nat} {k : Int} {t : Tok} {v : Value} {Q : Unit → Shared → Prop} (ho : s.heap.get? l = some (lstO items m))
    (h0 : 0 ≤ k) (hfit : k < 2 ^ 63) (hk : k = (j : Int)) (hj : j < items.size) (hQ : ∀ h', h'.get? l = some (lstO (items.setIfInBounds j v) m) → Heap.SameBut l s.heap h' → Q () { s with heap := h' }) :
    wpAny (model prog w) A (setItem (.ref l) (.int k t) v) Q E s := by
  have hl : s.heap.IsList l items := ⟨_, ho, rfl, m, rfl⟩
  unfold setItem
  try with_reducible refine wpAny_holding ?_
  first | refine wpAny_bind (wpAny_pure ?_) | skip
  refine wpAny_bind (wpAny_sequenceKey hl.typeIs (by decide) ?_)
  refine wpAny_bind (wpAny_callSpecial?_slot (name := Str.ofString "__setitem__") hl.typeIs slot_list_setitem
    (wpAny_call_entry slot_list_setitem hl.typeIs entry_list_setitem ?_ (args_list_setitem _ _ _)))
  show wpAny _ _ (Builtin.List.listSubscript? (.int k t) >>= _) _ _ s
  refine wpAny_bind (wpAny_listSubscript_int (fitsIndex_of h0 hfit) ?_)
  clear hfit
  subst hk
  have hx' : items[j]? = some items[j] := Array.getElem?_eq_getElem hj
  show wpAny _ _ ((seqItemAt l j >>= fun r => pure (r.map (j, ·))) >>= _) _ _ s
  refine wpAny_bind (wpAny_bind (wpAny_seqItemAt ho rfl (wpAny_pure ?_)))
  rw [hx']
  show wpAny _ _ (setSeqItemAt l j v >>= _) _ _ s
  have hfin : (s.heap.update l (Obj.mapSeq (·.setIfInBounds j v))).get? l = some (lstO (items.setIfInBounds j v) m) := by
    rw [Heap.get?_update_self _ ho (by simp [Obj.mapSeq, Obj.isFreed])]
    simp [Obj.mapSeq]
  refine wpAny_bind (wpAny_setSeqItemAt ho rfl ?_)
  first
    | exact wpAny_bind (wpAny_pure (wpAny_pure ⟨.none, rfl, wpAny_pure (hQ _ hfin (Heap.SameBut.update ..))⟩))
    | exact wpAny_pure ⟨.none, rfl, wpAny_pure (hQ _ hfin (Heap.SameBut.update ..))⟩
-- storing an item
def setI (C : Cx) (n : Nat) (env : Env) (o i a : V) (st : ST) (Q : ST → Prop) : Prop := ∀ fz vo vi va, RepV C fz o vo → RepV C fz i vi → RepV C fz a va → aw C n RepU fz env (setItem vo vi va) st fun _ st' => Q st'
theorem asg_Sub {o i : Expr} {pos : Pos} {a : V} {Q : ST → Prop} (h : ev C n env o st fun ov st1 => ev C n env i st1 fun iv st2 => setI C n env ov iv a st2 Q) : asg C n env (.Subscript o i pos) a st Q := fun fz va ra => by
  rw [arm_assign_Subscript]
  refine aw_seq (aw_holding ((h fz).mono fun ov st1 h1 fz1 vo le1 ro => ?_))
  refine aw_seq (aw_holding ((h1 fz1).mono fun iv st2 h2 fz2 vi le2 ri => ?_))
  refine aw_at (aw_seq (aw_holding ((h2 fz2 vo vi va (ro.mono le2) ri (ra.mono (le1.trans le2))).mono fun _ st3 h3 fz3 _ le3 _ => ?_)))
  intro A hA kp s r
  exact wpAny_release' ⟨fz3, (), st3, Le.refl _, trivial, r, h3⟩

def setAt {α : Type} (l : List α) (j : Nat) (x : α) : List α := l.set j x
theorem RepL.setAt {g : OH} : ∀ {l : List V} {vs : List Value} {j : Nat} {x : V} {v : Value}, RepL C g l vs → RepV C g x v → RepL C g (l.set j x) (vs.set j v)
  | _, _, _, _, _, .nil, _ => .nil
  | _, _, 0, _, _, .cons a b, r => .cons r b
  | _, _, j + 1, _, _, .cons a b, r => .cons a (RepL.setAt b r)
theorem setI_lst {a : Addr} {l : List V} {k : Int} {j : Nat} {x : V} {Q : ST → Prop} (hm : st.mu a = some (.lst l)) (hk : k = (j : Int)) (hj : j < l.length) (hz : l.length < 1000) (h : Q ⟨st.loc, insM st.mu a (.lst (l.set j x))⟩) : setI C n env (.val (.ref a)) (.int k) x st Q := fun fz vo vi va ro ri ra A hA kp s r => by
  (first | obtain ⟨_, rfl⟩ := ro.inv | obtain rfl := ro.inv); (first | obtain ⟨_, rfl⟩ := ri.inv | obtain rfl := ri.inv)
  subst hk
  obtain ⟨xs, m, h1, h2⟩ := isLst_mu r hm
  have hlen := h2.size
  refine setItem_lstO h1 (by omega) (by omega) rfl (by omega) fun h' hh' hs' => ?_
  refine ⟨fz, (), _, Le.refl _, trivial, r.upd s.toks hm (fun b x hb e => (hs'.2 b hb).trans e) hh' (.lst ?_), h⟩
  rw [Array.toList_setIfInBounds]
  exact h2.setAt ra
/-- a dict's abstract store -/
def stoD (l : List (Str × V)) (k : Str) (x : V) : List (Str × V) := if l.any (fun kv => kv.1 = k) then l.map (fun kv => if kv.1 = k then (kv.1, x) else kv) else l ++ [(k, x)]
theorem RepD.any {g : OH} : ∀ {l : List (Str × V)} {vs : List (Str × Value)}, RepD C g l vs → ∀ k, l.any (fun kv => kv.1 = k) = vs.any (fun kv => kv.1 = k)
  | _, _, .nil, k => rfl
  | _, _, .cons a b, k => by simp only [List.any_cons, RepD.any b k]
theorem RepD.store {g : OH} {l : List (Str × V)} {vs : List (Str × Value)} {k : Str} {x : V} {v : Value} (h : RepD C g l vs) (r : RepV C g x v) : RepD C g (stoD l k x) (stored vs k v) := by
  unfold stoD stored
  rw [RepD.any h k]
  split
  · rename_i hany
    clear hany
    induction vs generalizing l with
    | nil => cases h; exact .nil
    | cons p vs ih =>
      cases h with
      | @cons k' y v' l' _ a b =>
        simp only [List.map_cons]
        by_cases q : k' = k
        · subst q; simp only [if_true]; exact .cons r (ih b)
        · simp only [q, if_false]; exact .cons a (ih b)
  · exact RepD.append h (.cons r .nil)
theorem setI_dct {a : Addr} {l : List (Str × V)} {k : Str} {x : V} {Q : ST → Prop} (hm : st.mu a = some (.dct l)) (hz : l.length < 1000) (h : Q ⟨st.loc, insM st.mu a (.dct (stoD l k x))⟩) : setI C n env (.val (.ref a)) (.str k) x st Q := fun fz vo vi va ro ri ra A hA kp s r => by
  (first | obtain ⟨_, rfl⟩ := ro.inv | obtain rfl := ro.inv); (first | obtain ⟨_, rfl⟩ := ri.inv | obtain rfl := ri.inv)
  obtain ⟨kvs, h1, h2, h3⟩ := isDct_mu r hm
  have hlen : kvs.length < 1000 := by have := congrArg List.length h2.keys; simp at this; omega
  refine wpAny_setItem_pairs (strKind_is _ _ _ _) h1 (fun h' hm' hs' => ?_) (by rw [sizeLine_eq]; omega)
  obtain ⟨o, ho, hd⟩ := Heap.dictOf_iff.mp hm'
  exact ⟨fz, (), _, Le.refl _, trivial, r.upd _ hm (fun b x hb e => (hs'.2 b hb).trans e) ho (.dct hd (h2.store ra)), h⟩

-- in
theorem strsAre {g : OH} : ∀ {ys : List Str} {vs : List Value}, RepL C g (ys.map V.str) vs → StrsAre vs ys
  | [], _, .nil => .nil
  | y :: ys, _, .cons a b => by cases a; exact .cons _ _ (strsAre b)
theorem in_tup {x : Str} {ys : List Str} {Q : V → ST → Prop} (h : Q (.bool (ys.any (· == x))) st) : op2 C n env (compareOp .In) (.str x) (.tup (ys.map V.str)) st Q := fun fz va vb ra rb A hA kp s r => by
  (first | obtain ⟨_, rfl⟩ := ra.inv | obtain rfl := ra.inv)
  obtain ⟨_, _, _, rfl, h1, h2⟩ := rb.inv
  exact in_tuple_strs (isTup_of r h1) (strsAre h2) ⟨fz, _, st, Le.refl _, .bool _, r, h⟩
theorem in_lst {x : Str} {ys : List Str} {Q : V → ST → Prop} (h : Q (.bool (ys.any (· == x))) st) : op2 C n env (compareOp .In) (.str x) (.lst (ys.map V.str)) st Q := fun fz va vb ra rb A hA kp s r => by
  (first | obtain ⟨_, rfl⟩ := ra.inv | obtain rfl := ra.inv)
  obtain ⟨_, _, _, rfl, h1, h2⟩ := rb.inv
  exact in_list_strs (isLst_of r h1) (strsAre h2) ⟨fz, _, st, Le.refl _, .bool _, r, h⟩
theorem in_dctM {x : Str} {a : Addr} {l : List (Str × V)} {Q : V → ST → Prop} (hm : st.mu a = some (.dct l)) (h : Q (.bool (l.lookup x).isSome) st) : op2 C n env (compareOp .In) (.str x) (.val (.ref a)) st Q := fun fz va vb ra rb A hA kp s r => by
  (first | obtain ⟨_, rfl⟩ := ra.inv | obtain rfl := ra.inv)
  (first | obtain ⟨_, rfl⟩ := rb.inv | obtain rfl := rb.inv)
  obtain ⟨kvs, h1, h2, h3⟩ := isDct_mu r hm
  have e : (kvs.lookup x).isSome = (l.lookup x).isSome := by
    cases q : l.lookup x with
    | none => rw [h2.none q]; rfl
    | some y => obtain ⟨v, e1, _⟩ := h2.look q; rw [e1]; rfl
  exact wpAny_in_of (strKind_is _ _ _ _) h3 h1.mapOf ⟨fz, _, st, Le.refl _, .bool _, r.toks _, by rw [valueAt_lookup, e]; exact h⟩
theorem in_dctF {x : Str} {l : List (Str × V)} {Q : V → ST → Prop} (h : Q (.bool (l.lookup x).isSome) st) : op2 C n env (compareOp .In) (.str x) (.dct l) st Q := fun fz va vb ra rb A hA kp s r => by
  (first | obtain ⟨_, rfl⟩ := ra.inv | obtain rfl := ra.inv)
  obtain ⟨a, o, kvs, rfl, k1, k2, k3, h2⟩ := rb.inv
  have e : (kvs.lookup x).isSome = (l.lookup x).isSome := by
    cases q : l.lookup x with
    | none => rw [h2.none q]; rfl
    | some y => obtain ⟨v, e1, _⟩ := h2.look q; rw [e1]; rfl
  exact wpAny_in_of (strKind_is _ _ _ _) k3 (isDct_fz r k1 k2).mapOf ⟨fz, _, st, Le.refl _, .bool _, r.toks _, by rw [valueAt_lookup, e]; exact h⟩

-- list methods
theorem cl_append {a : Addr} {l : List V} {x : V} {Q : V → ST → Prop} (hm : st.mu a = some (.lst l)) (hz : l.length < 1000) (h : Q .none ⟨st.loc, insM st.mu a (.lst (l ++ [x]))⟩) : cl C n env (.val (.builtin "list.append")) [.val (.ref a), x] st Q := fun fz vf vs rf rs A hA kp s r => by
  (first | obtain ⟨_, rfl⟩ := rf.inv | obtain rfl := rf.inv)
  obtain ⟨_, _, rfl, r1, rs⟩ := rs.inv
  obtain ⟨_, _, rfl, r2, rs⟩ := rs.inv
  (first | obtain ⟨_, rfl⟩ := rs.inv | obtain rfl := rs.inv); (first | obtain ⟨_, rfl⟩ := r1.inv | obtain rfl := r1.inv)
  obtain ⟨xs, m, h1, h2⟩ := isLst_mu r hm
  have hlen := h2.size
  refine append_at h1 (fun h' hs' hh' => ?_) (by rw [sizeLine_eq]; omega)
  exact ⟨fz, _, _, Le.refl _, .none, r.upd s.toks hm (fun b x hb e => (hs'.2 b hb).trans e) hh' (.lst (by rw [Array.toList_push]; exact h2.append (.cons r2 .nil))), h⟩
theorem RepL.dropLast {g : OH} {l : List V} {x : V} {vs : List Value} (h : RepL C g (l ++ [x]) vs) : ∃ us v, vs = us ++ [v] ∧ RepL C g l us ∧ RepV C g x v := by
  induction l generalizing vs with
  | nil => cases h with
    | cons a b => cases b; exact ⟨[], _, rfl, .nil, a⟩
  | cons y l ih => cases h with
    | cons a b => obtain ⟨us, v, e, r1, r2⟩ := ih b; exact ⟨_ :: us, v, by rw [e]; rfl, .cons a r1, r2⟩
theorem cl_pop {a : Addr} {l : List V} {x : V} {Q : V → ST → Prop} (hm : st.mu a = some (.lst (l ++ [x]))) (hz : l.length < 1000) (h : Q x ⟨st.loc, insM st.mu a (.lst l)⟩) : cl C n env (.val (.builtin "list.pop")) [.val (.ref a)] st Q := fun fz vf vs rf rs A hA kp s r => by
  (first | obtain ⟨_, rfl⟩ := rf.inv | obtain rfl := rf.inv)
  obtain ⟨_, _, rfl, r1, rs⟩ := rs.inv
  (first | obtain ⟨_, rfl⟩ := rs.inv | obtain rfl := rs.inv); (first | obtain ⟨_, rfl⟩ := r1.inv | obtain rfl := r1.inv)
  obtain ⟨xs, m, h1, h2⟩ := isLst_mu r hm
  obtain ⟨us, v, e, k1, k2⟩ := h2.dropLast
  have hlen := k1.length
  have hsz : xs.size = us.length + 1 := by rw [← Array.length_toList, e]; simp
  obtain ⟨xl⟩ := xs
  dsimp only at e
  subst e
  refine call_meets PySem.F.slot_list_pop ⟨_, h1, rfl⟩ PySem.F.entry_list_pop (PySem.F.args_list_pop_1 _) (PySem.MeetsSeq.list_pop_last a _ m v (by simp) (by rw [sizeLine_eq]; omega)) ⟨h1, ?_⟩
  have hfin := Heap.get?_update_self (h := s.heap) (Obj.mapSeq fun xs => xs.eraseIdxIfInBounds ((us ++ [v]).toArray.size - 1)) h1 (by simp [Obj.mapSeq, Obj.isFreed])
  have e2 : (Obj.mapSeq (fun xs => xs.eraseIdxIfInBounds ((us ++ [v]).toArray.size - 1)) (lstO (us ++ [v]).toArray m)) = lstO us.toArray (m + 1) := by
    simp [Obj.mapSeq, List.eraseIdx_append_of_length_le]
  rw [e2] at hfin
  exact ⟨fz, x, _, Le.refl _, k2, r.upd s.toks hm (fun b x hb e => (Heap.get?_update_other _ _ (Ne.symm hb)).trans e) hfin (.lst (by simpa using k1)), h⟩
theorem cl_extendL {a : Addr} {l l' : List V} {Q : V → ST → Prop} (hm : st.mu a = some (.lst l)) (hz : l.length + l'.length < 1000) (h : Q .none ⟨st.loc, insM st.mu a (.lst (l ++ l'))⟩) : cl C n env (.val (.builtin "list.extend")) [.val (.ref a), .lst l'] st Q := fun fz vf vs rf rs A hA kp s r => by
  (first | obtain ⟨_, rfl⟩ := rf.inv | obtain rfl := rf.inv)
  obtain ⟨_, _, rfl, r1, rs⟩ := rs.inv
  obtain ⟨_, _, rfl, r2, rs⟩ := rs.inv
  (first | obtain ⟨_, rfl⟩ := rs.inv | obtain rfl := rs.inv); (first | obtain ⟨_, rfl⟩ := r1.inv | obtain rfl := r1.inv)
  obtain ⟨b, ys, m', rfl, k1, k2⟩ := r2.inv
  obtain ⟨xs, m, h1, h2⟩ := isLst_mu r hm
  have hlen := h2.size
  have hlen' := k2.size
  refine call_meets PySem.F.slot_list_extend ⟨_, h1, rfl⟩ PySem.F.entry_list_extend (PySem.F.args_list_extend_2 _ _) (PySem.AutoSeq1.list_extend_list_list_0 a xs m b ys m' ?_ (by rw [sizeLine_eq]; omega) (by rw [sizeLine_eq]; omega)) ⟨h1, r.fzs _ _ k1, ?_⟩
  · simp [Builtin.List.listTooLong]; intro _; rw [sizeLine_eq]; omega
  have hfin := Heap.get?_update_self (h := s.heap) (Obj.mapSeq fun x => x ++ ys) h1 (by simp [Obj.mapSeq, Obj.isFreed])
  obtain ⟨m2, e2⟩ : ∃ m2, (Obj.mapSeq (fun x => x ++ ys) (lstO xs m)) = lstO (xs ++ ys) m2 := ⟨_, rfl⟩
  rw [e2] at hfin
  exact ⟨fz, _, _, Le.refl _, .none, r.upd s.toks hm (fun b x hb e => (Heap.get?_update_other _ _ (Ne.symm hb)).trans e) hfin (.lst (by rw [Array.toList_append]; exact h2.append k2)), h⟩
-- dict.get
theorem cl_get2F {l : List (Str × V)} {k : Str} {d : V} {Q : V → ST → Prop} (h : Q ((l.lookup k).getD d) st) : cl C n env (.val (.builtin "dict.get")) [.dct l, .str k, d] st Q := fun fz vf vs rf rs A hA kp s r => by
  (first | obtain ⟨_, rfl⟩ := rf.inv | obtain rfl := rf.inv)
  obtain ⟨_, _, rfl, r1, rs⟩ := rs.inv
  obtain ⟨_, _, rfl, r2, rs⟩ := rs.inv
  obtain ⟨_, _, rfl, r3, rs⟩ := rs.inv
  (first | obtain ⟨_, rfl⟩ := rs.inv | obtain rfl := rs.inv); (first | obtain ⟨_, rfl⟩ := r2.inv | obtain rfl := r2.inv)
  obtain ⟨a, o, kvs, rfl, k1, k2, k3, h2⟩ := r1.inv
  have hd := isDct_fz r k1 k2
  refine call_meetsIn PySem.F.slot_dict_get hd.typeIs PySem.F.entry_dict_get (PySem.F.args_dict_get_3 _ _ _) (meets_dict_get_default (strKind C.prog C.w) a (strKind_is _ _ _ _) k3 _) ⟨_, hd.mapOf, ?_⟩
  refine ⟨fz, _, st, Le.refl _, ?_, r.toks _, h⟩
  rw [valueAt_lookup]
  cases q : l.lookup k with
  | none => rw [h2.none q]; exact r3
  | some y => obtain ⟨v, e1, e2⟩ := h2.look q; rw [e1]; exact e2
theorem cl_get1F {l : List (Str × V)} {k : Str} {Q : V → ST → Prop} (h : Q ((l.lookup k).getD .none) st) : cl C n env (.val (.builtin "dict.get")) [.dct l, .str k] st Q := fun fz vf vs rf rs A hA kp s r => by
  (first | obtain ⟨_, rfl⟩ := rf.inv | obtain rfl := rf.inv)
  obtain ⟨_, _, rfl, r1, rs⟩ := rs.inv
  obtain ⟨_, _, rfl, r2, rs⟩ := rs.inv
  (first | obtain ⟨_, rfl⟩ := rs.inv | obtain rfl := rs.inv); (first | obtain ⟨_, rfl⟩ := r2.inv | obtain rfl := r2.inv)
  obtain ⟨a, o, kvs, rfl, k1, k2, k3, h2⟩ := r1.inv
  have hd := isDct_fz r k1 k2
  refine call_meetsIn PySem.F.slot_dict_get hd.typeIs PySem.F.entry_dict_get (PySem.F.args_dict_get_2 _ _) (meets_dict_get (strKind C.prog C.w) a (strKind_is _ _ _ _) k3) ⟨_, hd.mapOf, ?_⟩
  refine ⟨fz, _, st, Le.refl _, ?_, r.toks _, h⟩
  rw [valueAt_lookup]
  cases q : l.lookup k with
  | none => rw [h2.none q]; exact .none
  | some y => obtain ⟨v, e1, e2⟩ := h2.look q; rw [e1]; exact e2
-- len, int, max, tuple, list
theorem cl_len_str {x : Str} {Q : V → ST → Prop} (hz : x.length < 1000) (h : Q (.int x.length) st) : cl C n env (.val (.builtin "len")) [.str x] st Q := fun fz vf vs rf rs A hA kp s r => by
  (first | obtain ⟨_, rfl⟩ := rf.inv | obtain rfl := rf.inv)
  obtain ⟨_, _, rfl, r1, rs⟩ := rs.inv
  (first | obtain ⟨_, rfl⟩ := rs.inv | obtain rfl := rs.inv); (first | obtain ⟨_, rfl⟩ := r1.inv | obtain rfl := r1.inv); exact P.len_str (by omega) ⟨fz, _, st, Le.refl _, .int _ _, r.toks _, h⟩
theorem cl_len_lstM {a : Addr} {l : List V} {Q : V → ST → Prop} (hm : st.mu a = some (.lst l)) (hz : l.length < 1000) (h : Q (.int l.length) st) : cl C n env (.val (.builtin "len")) [.val (.ref a)] st Q := fun fz vf vs rf rs A hA kp s r => by
  (first | obtain ⟨_, rfl⟩ := rf.inv | obtain rfl := rf.inv)
  obtain ⟨_, _, rfl, r1, rs⟩ := rs.inv
  (first | obtain ⟨_, rfl⟩ := rs.inv | obtain rfl := rs.inv); (first | obtain ⟨_, rfl⟩ := r1.inv | obtain rfl := r1.inv)
  obtain ⟨xs, m, h1, h2⟩ := isLst_mu r hm
  have hlen := h2.size
  exact call_len_list ⟨_, h1, rfl, m, rfl⟩ (by omega) ⟨fz, _, st, Le.refl _, .int _ _, r.toks _, by rw [hlen]; exact h⟩
theorem cl_len_lstF {l : List V} {Q : V → ST → Prop} (hz : l.length < 1000) (h : Q (.int l.length) st) : cl C n env (.val (.builtin "len")) [.lst l] st Q := fun fz vf vs rf rs A hA kp s r => by
  (first | obtain ⟨_, rfl⟩ := rf.inv | obtain rfl := rf.inv)
  obtain ⟨_, _, rfl, r1, rs⟩ := rs.inv
  (first | obtain ⟨_, rfl⟩ := rs.inv | obtain rfl := rs.inv)
  obtain ⟨a, xs, m, rfl, h1, h2⟩ := r1.inv
  have hlen := h2.size
  exact call_len_list (isLst_of r h1) (by omega) ⟨fz, _, st, Le.refl _, .int _ _, r.toks _, by rw [hlen]; exact h⟩
theorem cl_int {i : Int} {Q : V → ST → Prop} (h : Q (.int i) st) : cl C n env (.val (.type "int")) [.int i] st Q := fun fz vf vs rf rs A hA kp s r => by
  (first | obtain ⟨_, rfl⟩ := rf.inv | obtain rfl := rf.inv)
  obtain ⟨_, _, rfl, r1, rs⟩ := rs.inv
  (first | obtain ⟨_, rfl⟩ := rs.inv | obtain rfl := rs.inv); (first | obtain ⟨_, rfl⟩ := r1.inv | obtain rfl := r1.inv); exact PySem.call_int_int ⟨fz, _, st, Le.refl _, .int _ _, r, h⟩
theorem cl_intb {b : Bool} {Q : V → ST → Prop} (h : Q (.int (if b then 1 else 0)) st) : cl C n env (.val (.type "int")) [.bool b] st Q := fun fz vf vs rf rs A hA kp s r => by
  (first | obtain ⟨_, rfl⟩ := rf.inv | obtain rfl := rf.inv)
  obtain ⟨_, _, rfl, r1, rs⟩ := rs.inv
  (first | obtain ⟨_, rfl⟩ := rs.inv | obtain rfl := rs.inv); (first | obtain ⟨_, rfl⟩ := r1.inv | obtain rfl := r1.inv); exact PySem.call_int_bool ⟨fz, _, st, Le.refl _, .int _ _, r.toks _, h⟩
theorem cl_tuple_lst {l : List V} {Q : V → ST → Prop} (hz : l.length < 1000) (h : Q (.tup l) st) : cl C n env (.val (.type "tuple")) [.lst l] st Q := fun fz vf vs rf rs A hA kp s r => by
  (first | obtain ⟨_, rfl⟩ := rf.inv | obtain rfl := rf.inv)
  obtain ⟨_, _, rfl, r1, rs⟩ := rs.inv
  (first | obtain ⟨_, rfl⟩ := rs.inv | obtain rfl := rs.inv)
  obtain ⟨a, xs, m, rfl, h1, h2⟩ := r1.inv
  have hlen := h2.size
  refine call_tuple_list (isLst_of r h1) (fun h' hk => ?_) (by rw [sizeLine_eq]; omega)
  obtain ⟨le, r'⟩ := (r.ext (h' := h') s.toks hk).pushF { cls := .type "tuple", data := .seq xs } rfl s.toks
  exact ⟨_, _, st, le, .tup (insH_self ..) (h2.mono le), r', h⟩
theorem cl_tuple_tup {l : List V} {Q : V → ST → Prop} (h : Q (.tup l) st) : cl C n env (.val (.type "tuple")) [.tup l] st Q := fun fz vf vs rf rs A hA kp s r => by
  (first | obtain ⟨_, rfl⟩ := rf.inv | obtain rfl := rf.inv)
  obtain ⟨_, _, rfl, r1, rs⟩ := rs.inv
  (first | obtain ⟨_, rfl⟩ := rs.inv | obtain rfl := rs.inv)
  obtain ⟨a, xs, m, rfl, h1, h2⟩ := r1.inv
  exact call_tuple_same ⟨_, r.fzs _ _ h1, rfl, m, rfl⟩ ⟨fz, _, st, Le.refl _, .tup h1 h2, r, h⟩
theorem cl_list_tup {l : List V} {Q : V → ST → Prop} (hz : l.length < 1000) (h : Q (.lst l) st) : cl C n env (.val (.type "list")) [.tup l] st Q := fun fz vf vs rf rs A hA kp s r => by
  (first | obtain ⟨_, rfl⟩ := rf.inv | obtain rfl := rf.inv)
  obtain ⟨_, _, rfl, r1, rs⟩ := rs.inv
  (first | obtain ⟨_, rfl⟩ := rs.inv | obtain rfl := rs.inv)
  obtain ⟨a, xs, m, rfl, h1, h2⟩ := r1.inv
  have hlen := h2.size
  refine call_list_seq a (.inr rfl) (r.fzs _ _ h1) rfl rfl (fun h' c' hk hh => ?_) (by rw [sizeLine_eq]; omega)
  obtain ⟨le, r'⟩ := r.newF s.toks hk (Nat.le_refl _) hh
  exact ⟨_, _, st, le, .lst (insH_self ..) (h2.mono le), r', h⟩
end
end Mine
end

section
open PySem PySem.Calls PySem.W PyProof.Rows
set_option maxRecDepth 100000
set_option Elab.async false
set_option linter.unusedVariables false
namespace Mine

def kpW (kp : OH) (wr : List Addr) (g : OH) : OH := fun b => if b ∈ wr then g b else kp b
theorem kpW_in {kp g : OH} {wr : List Addr} {b : Addr} (h : b ∈ wr) : kpW kp wr g b = g b := by simp [kpW, h]
theorem kpW_out {kp g : OH} {wr : List Addr} {b : Addr} (h : b ∉ wr) : kpW kp wr g b = kp b := by simp [kpW, h]

/-- an address that nobody owns -/
structure Free (fz kp : OH) (env : Env) (mu : Mu) (b : Addr) : Prop where
  f : fz b = none
  k : kp b = none
  m : mu b = none
  l : b ≠ env.locals

namespace Rp
variable {C : Cx} {fz kp : OH} {env : Env} {st : ST} {s : Shared}

theorem fresh (r : Rp C fz kp env st s) {a : Addr} (h : s.heap.objs.size ≤ a) : Free fz kp env st.mu a := ⟨r.fz_none h, r.kp_none h, r.mu_none h, r.loc_ne h⟩

theorem off (r : Rp C fz kp env st s) {wr : List Addr} {h' : Heap} (tk : Nat) (hw : ∀ b ∈ wr, Free fz kp env st.mu b) (hk : ∀ b o, b ∉ wr → s.heap.get? b = some o → h'.get? b = some o) : Rp C fz kp env st { s with heap := h', toks := tk } := by
  obtain ⟨m, hm, hr⟩ := r.ns
  refine ⟨r.base, fun b o e => hk b o (fun q => by rw [(hw b q).f] at e; cases e) (r.fzs _ _ e), fun b o e => hk b o (fun q => by rw [(hw b q).k] at e; cases e) (r.kps _ _ e), r.fk, r.fm, r.fl, r.km, r.kl, r.ml,
    ⟨m, ?_, hr⟩, fun a o e => ?_, r.gens, r.os, r.mlow⟩
  · obtain ⟨oo, es, ep, e1, rr⟩ := hm
    exact ⟨oo, es, ep, hk _ _ (fun q => (hw _ q).l rfl) e1, rr⟩
  · obtain ⟨ob, e1, e2⟩ := r.mus a o e
    exact ⟨ob, hk _ _ (fun q => by rw [(hw a q).m] at e; cases e) e1, e2⟩

theorem park (r : Rp C fz kp env st s) {wr : List Addr} (hw : ∀ b ∈ wr, Free fz kp env st.mu b) : Rp C fz (kpW kp wr s.heap.get?) env st s := by
  refine ⟨r.base, r.fzs, fun b o e => ?_, fun a o e => ?_, r.fm, r.fl, fun a o e => ?_, ?_, r.ml, r.ns, r.mus, r.gens, r.os, r.mlow⟩
  · by_cases q : b ∈ wr
    · rw [kpW_in q] at e; exact e
    · rw [kpW_out q] at e; exact r.kps _ _ e
  · rw [kpW_out (fun q => by rw [(hw a q).f] at e; cases e)]; exact r.fk _ _ e
  · by_cases q : a ∈ wr
    · exact (hw a q).m
    · rw [kpW_out q] at e; exact r.km _ _ e
  · rw [kpW_out (fun q => (hw _ q).l rfl)]; exact r.kl

theorem unpark {wr : List Addr} {g : OH} (r : Rp C fz (kpW kp wr g) env st s) (hg : ∀ b ∈ wr, ∃ o, g b = some o) (hk : ∀ b ∈ wr, kp b = none) : Rp C fz kp env st s ∧ ∀ b ∈ wr, Free fz kp env st.mu b := by
  have sub : ∀ b o, kp b = some o → kpW kp wr g b = some o := fun b o e => by
    rw [kpW_out (fun q => by rw [hk b q] at e; cases e)]; exact e
  have nn : ∀ (b : Addr), kpW kp wr g b = none → kp b = none := fun b e => by
    cases q : kp b with
    | none => rfl
    | some o => rw [sub _ _ q] at e; cases e
  refine ⟨⟨r.base, r.fzs, fun b o e => r.kps _ _ (sub _ _ e), fun a o e => nn _ (r.fk _ _ e), r.fm, r.fl, fun a o e => r.km _ _ (sub _ _ e), nn _ r.kl, r.ml, r.ns, r.mus, r.gens, r.os, r.mlow⟩, fun b hb => ?_⟩
  obtain ⟨o, ho⟩ := hg b hb
  have hp : kpW kp wr g b = some o := by rw [kpW_in hb]; exact ho
  refine ⟨?_, hk b hb, r.km _ _ hp, fun q => ?_⟩
  · cases q : fz b with
    | none => rfl
    | some o' => have := r.fk _ _ q; rw [hp] at this; cases this
  · have := r.kl; rw [← q, hp] at this; cases this
end Rp

/-- a new object that an iterator may have made -/
abbrev Nw := Option (Addr × Obj)
def NwOk (h h' : Heap) (wr : List Addr) : Nw → Prop
  | none => True
  | some (a, o) => h.objs.size ≤ a ∧ h'.get? a = some o ∧ a ∉ wr
def addN (fz : OH) : Nw → OH
  | none => fz
  | some (a, o) => insH fz a o
theorem addN_mono {f g : OH} (h : Le f g) {nw : Nw} : Le (addN f nw) (addN g nw) := by
  cases nw with
  | none => exact h
  | some p =>
    obtain ⟨a, o⟩ := p
    intro b o' e
    by_cases q : b = a
    · subst q; simp only [addN, insH_self] at e ⊢; exact e
    · simp only [addN, insH_other _ _ q] at e ⊢; exact h _ _ e
theorem Rp.addNw {C : Cx} {fz kp : OH} {env : Env} {st : ST} {s : Shared} {h : Heap} {wr : List Addr} {nw : Nw} (r : Rp C fz kp env st s) (h1 : NwOk h s.heap wr nw) (hf : ∀ a, h.objs.size ≤ a → Free fz kp env st.mu a) : Le fz (addN fz nw) ∧ Rp C (addN fz nw) kp env st s := by
  cases nw with
  | none => exact ⟨Le.refl _, r⟩
  | some p =>
    obtain ⟨a, o⟩ := p
    obtain ⟨k1, k2, k3⟩ := h1
    have f := hf a k1
    exact ⟨Le.ins _ f.f, r.addF k2 f.f f.k f.m f.l⟩

/-- an iterator's walk -/
structure Wk (C : Cx) (fz : OH) (I : Addr) (wr : List Addr) (xs : List V) (tgt : Expr) (St : Nat → Heap → Prop) : Prop where
  live : ∀ i h, St i h → ∀ b ∈ wr, ∃ o, h.get? b = some o
  frame : ∀ i h h', St i h → Le fz h'.get? → (∀ b ∈ wr, ∀ o, h.get? b = some o → h'.get? b = some o) → St i h'
  item : ∀ A : Around, A.handled = none → ∀ i x, xs[i]? = some x → ∀ (s : Shared) (Q : Option Value → Shared → Prop) (E : Value → Shared → Prop), St i s.heap → Le fz s.heap.get? →
    (∀ v h1 tk, (∀ b o, b ∉ wr → s.heap.get? b = some o → h1.get? b = some o) →
      (∀ (Q' : Unit → Shared → Prop) (E' : Value → Shared → Prop), (∀ h2 nw, (∀ b o, b ∉ wr → h1.get? b = some o → h2.get? b = some o) → St (i + 1) h2 → NwOk s.heap h2 wr nw → RepV C (addN fz nw) x v → Q' () { s with heap := h2, toks := tk }) →
        wpAny C.M A (letOwnedTupleGo tgt (.ref I) v) Q' E' { s with heap := h1, toks := tk }) → Q (some v) { s with heap := h1, toks := tk }) → wpAny C.M A (pyNext (.ref I)) Q E s
  done : ∀ A : Around, A.handled = none → ∀ (s : Shared) (Q : Option Value → Shared → Prop) (E : Value → Shared → Prop), St xs.length s.heap → Le fz s.heap.get? →
    (∀ h1 tk, (∀ b o, b ∉ wr → s.heap.get? b = some o → h1.get? b = some o) → Q none { s with heap := h1, toks := tk }) → wpAny C.M A (pyNext (.ref I)) Q E s
  self : ∀ A : Around, A.handled = none → ∀ i (s : Shared) (Q : Value → Shared → Prop) (E : Value → Shared → Prop), St i s.heap → Q (.ref I) s → wpAny C.M A (pyIter (.ref I)) Q E s

section
variable {C : Cx} {n : Nat} {env : Env} {st : ST}

inductive Pit (C : Cx) (fz kp : OH) (env : Env) (tgt : Expr) (Q : List V → ST → Prop) (it : Value) (s2 : Shared) : Prop
  | mk (fz' : OH) (I : Addr) (wr : List Addr) (xs : List V) (St : Nat → Heap → Prop) (st1 : ST) (e : it = .ref I) (W : Wk C fz' I wr xs tgt St) (le : Le fz fz') (fr : ∀ b ∈ wr, Free fz' kp env st1.mu b) (h0 : St 0 s2.heap) (rp : Rp C fz' kp env st1 s2) (hz : xs.length ≤ 1000) (q : Q xs st1) : Pit C fz kp env tgt Q it s2
/-- an expression that is walked through -/
def itr (C : Cx) (n : Nat) (env : Env) (iter : Expr) (tgt : Expr) (st : ST) (Q : List V → ST → Prop) : Prop := ∀ fz A, Ok n A → ∀ kp s, Rp C fz kp env st s →
  wpAny C.M A (eval iter env) (fun xv s1 => wpAny C.M A (pyIter xv) (Pit C fz kp env tgt Q)
    (fun _ _ => False) s1) (fun _ _ => False) s

theorem go_name {I : Addr} {x : Str} {pos : Pos} {A : Around} {v : Value} {Q : Unit → Shared → Prop} {E : Value → Shared → Prop} {s : Shared} (h : Q () s) : wpAny C.M A (letOwnedTupleGo (.Name x pos) (.ref I) v) Q E s := wpAny_pure h

theorem go_plain {tgt : Expr} {I : Addr} {o : Obj} {ty : String} {A : Around} {v : Value} {Q : Unit → Shared → Prop} {E : Value → Shared → Prop} {s : Shared} (ho : s.heap.get? I = some o) (hc : o.cls = .type ty)
    (hn : ["enumerate", "zip", "dict_itemiterator", "dict_reverseitemiterator", "odict_iterator", "itertools.zip_longest", "itertools.pairwise"].contains ty = false) (h : Q () s) : wpAny C.M A (letOwnedTupleGo tgt (.ref I) v) Q E s := by
  unfold letOwnedTupleGo
  cases tgt <;> first
    | exact wpAny_pure h
    | (cases v <;> first
        | exact wpAny_pure h
        | (refine wpAny_bind (wpAny_load ho ?_)
           obtain ⟨oc, od, odt, osl⟩ := o
           dsimp only at hc ⊢
           subst hc
           cases odt <;> first
             | exact wpAny_pure h
             | (simp only [hn, Bool.false_and, Bool.false_eq_true, if_false]; exact wpAny_pure h)))

theorem Le.at {fz : OH} {h : Heap} (hf : Le fz h.get?) {a : Addr} {xs : Array Value} {m : Nat} (e : fz a = some (tupO xs m)) : h.IsTuple a xs := ⟨_, hf _ _ e, rfl, m, rfl⟩
theorem Le.atL {fz : OH} {h : Heap} (hf : Le fz h.get?) {a : Addr} {xs : Array Value} {m : Nat} (e : fz a = some (lstO xs m)) : h.IsList a xs := ⟨_, hf _ _ e, rfl, m, rfl⟩

theorem wk_tup {fz : OH} {I ax : Addr} {items : Array Value} {m : Nat} {xs : List V} {tgt : Expr} (hne : ax ≠ I) (hf : fz ax = some (tupO items m)) (hr : RepL C fz xs items.toList) : Wk C fz I [I] xs tgt (fun i h => h.IsTupleIter I ax i) where
  live := fun i h ⟨o, ho, _⟩ b hb => by rw [List.mem_singleton] at hb; subst hb; exact ⟨o, ho⟩
  frame := fun i h h' ⟨o, ho, r⟩ _ hk => ⟨o, hk I (List.mem_singleton.mpr rfl) _ ho, r⟩
  item := fun A hA i x hx s Q E hs hl k => by
    obtain ⟨v, e1, e2⟩ := hr.get hx
    refine wpAny_pyNext_tuple_item hs (hl.at hf) (x := v) (by simpa using e1) fun h' hit' hs' => ?_
    refine k v h' s.toks (fun b o hb e => hs'.extBut b o (fun q => hb (by simp [q])) e) fun Q' E' hq => ?_
    obtain ⟨o, ho, hc, hd⟩ := id hit'
    exact go_plain ho hc (by decide) (hq h' none (fun _ _ _ e => e) hit' trivial e2)
  done := fun A hA s Q E hs hl k => wpAny_pyNext_tuple_end hA hs (hl.at hf) (by have := hr.length; simp at this; simp [this]) fun h' he' => k h' s.toks fun b o hb e => he' b o (fun h => hb (by simp [h])) e
  self := fun A hA i s Q E hs k => wpAny_pyIter_tupleiter hs k
theorem wk_lst {fz : OH} {I ax : Addr} {items : Array Value} {m : Nat} {xs : List V} {tgt : Expr} (hne : ax ≠ I) (hf : fz ax = some (lstO items m)) (hr : RepL C fz xs items.toList) : Wk C fz I [I] xs tgt (fun i h => h.IsListIter I ax i) where
  live := fun i h ⟨o, ho, _⟩ b hb => by rw [List.mem_singleton] at hb; subst hb; exact ⟨o, ho⟩
  frame := fun i h h' ⟨o, ho, r⟩ _ hk => ⟨o, hk I (List.mem_singleton.mpr rfl) _ ho, r⟩
  item := fun A hA i x hx s Q E hs hl k => by
    obtain ⟨v, e1, e2⟩ := hr.get hx
    refine wpAny_pyNext_list_item hs (hl.atL hf) (x := v) (by simpa using e1) fun h' hit' hs' => ?_
    refine k v h' s.toks (fun b o hb e => hs'.extBut b o (fun q => hb (by simp [q])) e) fun Q' E' hq => ?_
    obtain ⟨o, ho, hc, hd⟩ := id hit'
    exact go_plain ho hc (by decide) (hq h' none (fun _ _ _ e => e) hit' trivial e2)
  done := fun A hA s Q E hs hl k => wpAny_pyNext_list_end hA hs (hl.atL hf) (by have := hr.length; simp at this; simp [this]) fun h' he' => k h' s.toks fun b o hb e => he' b o (fun h => hb (by simp [h])) e
  self := fun A hA i s Q E hs k => wpAny_pyIter_listiter hs k
def chs (x : Str) : List V := x.cps.toList.map fun c => .str ⟨#[c]⟩
theorem chs_len (x : Str) : (chs x).length = x.cps.size := by simp [chs]
theorem wk_str {fz : OH} {I : Addr} {x : Str} {t : Tok} {tgt : Expr} : Wk C fz I [I] (chs x) tgt (fun i h => h.IsStrIter I "str_ascii_iterator" x t i) where
  live := fun i h ⟨o, ho, _⟩ b hb => by rw [List.mem_singleton] at hb; subst hb; exact ⟨o, ho⟩
  frame := fun i h h' ⟨o, ho, r⟩ _ hk => ⟨o, hk I (List.mem_singleton.mpr rfl) _ ho, r⟩
  item := fun A hA i v hx s Q E hs hl k => by
    obtain ⟨c, hc, rfl⟩ : ∃ c, x.cps[i]? = some c ∧ v = .str ⟨#[c]⟩ := by
      simp only [chs, List.getElem?_map, Option.map_eq_some_iff] at hx
      obtain ⟨c, e1, e2⟩ := hx
      exact ⟨c, by simpa using e1, e2.symm⟩
    refine wpAny_pyNext_ascii_item hs hc fun h' hit' hs' => ?_
    refine k _ h' (s.toks + 1) (fun b o hb e => hs'.extBut b o (fun q => hb (by simp [q])) e) fun Q' E' hq => ?_
    obtain ⟨o, ho, hc, hd⟩ := id hit'
    exact go_plain ho hc (by decide) (hq h' none (fun _ _ _ e => e) hit' trivial (.str _ _))
  done := fun A hA s Q E hs hl k => wpAny_pyNext_ascii_end hA hs (by rw [chs_len]; simp) fun h' he' => k h' s.toks fun b o hb e => he' b o (fun h => hb (by simp [h])) e
  self := fun A hA i s Q E hs k => wpAny_pyIter_striter_ascii hs k
def intsV (m : Nat) : List V := (List.range m).map fun (i : Nat) => V.int (i : Int)
theorem wk_range {fz : OH} {I : Addr} {m : Nat} {tgt : Expr} : Wk C fz I [I] (intsV m) tgt (fun i h => IsRangeIter h I (0 + (i : Nat) * 1) ((m : Int) - (i : Nat)) 1) where
  live := fun i h ho b hb => by rw [List.mem_singleton] at hb; subst hb; exact ⟨_, ho⟩
  frame := fun i h h' ho _ hk => hk I (List.mem_singleton.mpr rfl) _ ho
  item := fun A hA i v hx s Q E hs hl k => by
    have hi : i < m ∧ v = .int i := by
      simp only [intsV, List.getElem?_map, Option.map_eq_some_iff] at hx
      obtain ⟨c, e1, e2⟩ := hx
      obtain ⟨h1, h2⟩ := List.getElem?_eq_some_iff.mp e1
      simp at h1 h2
      subst h2
      exact ⟨h1, e2.symm⟩
    obtain ⟨hi, rfl⟩ := hi
    refine (Walks.range (prog := C.prog) (w := C.w) hA I 0 1 m).item i s Q E hi hs fun v h' tk hP hs' hk' => ?_
    refine k _ h' tk hk' fun Q' E' hq => ?_
    refine go_plain hs' rfl (by decide) (hq h' none (fun _ _ _ e => e) hs' trivial ?_)
    obtain ⟨t, rfl⟩ := hP
    have e : (0 + (i : Int) * 1) = i := by omega
    rw [e]; exact .int _ _
  done := fun A hA s Q E hs hl k => (Walks.range (prog := C.prog) (w := C.w) hA I 0 1 m).done s Q E (by
    have e : (intsV m).length = m := by simp [intsV]
    rw [e] at hs
    exact hs) k
  self := fun A hA i s Q E hs k => wpAny_pyIter_rangeiter hs k

-- what may be walked through
def walkable : V → List V → Prop
  | .tup l, xs => xs = l
  | .lst l, xs => xs = l
  | .str x, xs => x.cps.all (· < 128) = true ∧ xs = chs x
  | _, _ => False
theorem itr_ev {iter tgt : Expr} {Q : List V → ST → Prop} (h : ev C n env iter st fun v st1 => ∃ xs, walkable v xs ∧ xs.length ≤ 1000 ∧ Q xs st1) : itr C n env iter tgt st Q := fun fz A hA kp s r => by
  refine wpAny_mono (h fz A hA kp s r) ?_ fun _ _ x => x
  rintro v s1 ⟨fz1, av, st1, le1, rv, r1, xs, hw, hz, hq⟩
  have fr := r1.fresh (Nat.le_refl _)
  have go : ∀ (o : Obj) (St : Nat → Heap → Prop), Wk C fz1 s1.heap.objs.size [s1.heap.objs.size] xs tgt St → St 0 (s1.heap.push o) → Pit C fz kp env tgt Q (.ref s1.heap.objs.size) { s1 with heap := s1.heap.push o } := fun o St W h0 =>
    ⟨fz1, _, _, xs, St, st1, rfl, W, le1, fun b hb => by rw [List.mem_singleton] at hb; subst hb; exact fr, h0, r1.ext s1.toks fun b x e => Heap.get?_push_of_some _ e, hz, hq⟩
  cases av with
  | tup l =>
    obtain ⟨a, items, m, rfl, h1, h2⟩ := rv.inv
    simp only [walkable] at hw
    subst hw
    refine wpAny_pyIter_tuple (items := items) (r1.fzs.at h1) (go _ _ (wk_tup (fun q => absurd (r1.lt_fz h1) (by rw [q]; exact Nat.lt_irrefl _)) h1 h2) ⟨_, Heap.get?_push_size _ rfl, rfl, rfl⟩)
  | lst l =>
    obtain ⟨a, items, m, rfl, h1, h2⟩ := rv.inv
    simp only [walkable] at hw
    subst hw
    refine wpAny_pyIter_list (items := items) (r1.fzs.atL h1) (go _ _ (wk_lst (fun q => absurd (r1.lt_fz h1) (by rw [q]; exact Nat.lt_irrefl _)) h1 h2) ⟨_, Heap.get?_push_size _ rfl, rfl, rfl⟩)
  | str x =>
    (first | obtain ⟨_, rfl⟩ := rv.inv | obtain rfl := rv.inv)
    obtain ⟨ha, rfl⟩ := hw
    refine wpAny_pyIter_ascii ha (go _ _ wk_str ⟨_, Heap.get?_push_size _ rfl, rfl, rfl⟩)
  | _ => exact absurd hw (by simp [walkable])

/-- a turn of a walk -/
theorem wk_turn {fz : OH} {I : Addr} {wr : List Addr} {xs : List V} {tgt : Expr} {St : Nat → Heap → Prop} {fz0 kp : OH} {g : OH} {A : Around} {s : Shared} {i : Nat} {Q : Option Value → Shared → Prop} (W : Wk C fz0 I wr xs tgt St) (le : Le fz0 fz) (hA : A.handled = none)
    (r : Rp C fz (kpW kp wr g) env st s) (hg : ∀ b ∈ wr, ∃ o, g b = some o) (hk : ∀ b ∈ wr, kp b = none) (hs : St i s.heap) (hi : i ≤ xs.length)
    (hdone : ∀ s', i = xs.length → Rp C fz kp env st s' → Q none s')
    (hitem : ∀ x v s1, xs[i]? = some x →
      (∀ (Q' : Unit → Shared → Prop) (E' : Value → Shared → Prop), (∀ fz' s2, Le fz fz' → RepV C fz' x v → Rp C fz' (kpW kp wr s2.heap.get?) env st s2 → (∀ b ∈ wr, ∃ o, s2.heap.get? b = some o) → St (i + 1) s2.heap → Q' () s2) →
        wpAny C.M A (letOwnedTupleGo tgt (.ref I) v) Q' E' s1) → Q (some v) s1) {E : Value → Shared → Prop} : wpAny C.M A (pyNext (.ref I)) Q E s := by
  obtain ⟨r1, hfree⟩ := r.unpark hg hk
  by_cases hlt : i < xs.length
  · refine W.item A hA i xs[i] (List.getElem?_eq_getElem hlt) s Q E hs (le.trans r.fzs) fun v h1 tk hk1 hgo => ?_
    refine hitem xs[i] v _ (List.getElem?_eq_getElem hlt) fun Q' E' hq => ?_
    refine hgo Q' E' fun h2 nw hk2 hst hnw hrep => ?_
    have r2 : Rp C fz kp env st { s with heap := h2, toks := tk } := r1.off tk hfree fun b o hb e => hk2 b o hb (hk1 b o hb e)
    obtain ⟨le3, r3⟩ := r2.addNw (h := s.heap) hnw fun a ha => r1.fresh ha
    have live := W.live _ _ hst
    have fr3 : ∀ b ∈ wr, Free (addN fz nw) kp env st.mu b := fun b hb => by
      refine ⟨?_, (hfree b hb).k, (hfree b hb).m, (hfree b hb).l⟩
      cases nw with
      | none => exact (hfree b hb).f
      | some p =>
        obtain ⟨a, o⟩ := p
        have : b ≠ a := fun q => hnw.2.2 (q ▸ hb)
        simp only [addN, insH_other _ _ this]; exact (hfree b hb).f
    exact hq _ { s with heap := h2, toks := tk } le3 (hrep.mono (addN_mono le)) (r3.park fr3) live hst
  · have e : i = xs.length := by omega
    subst e
    refine W.done A hA s Q E hs (le.trans r.fzs) fun h1 tk hk1 => ?_
    exact hdone _ rfl (r1.off tk hfree hk1)

theorem False_noted {A : Around} {E : Value → Shared → Prop} : ∀ (e : Value) (s' : Shared), False → E e s' := fun _ _ h => h.elim

abbrev Inv (J : List V → Nat → ST → Prop) (xs : List V) (i : Nat) (st : ST) : Prop := J xs i st
abbrev Inv0 (J : List V → Nat → ST → Prop) (xs : List V) (st : ST) : Prop := J xs 0 st
abbrev forQ (J : List V → Nat → ST → Prop) (Q : AF → ST → Prop) (xs : List V) (i : Nat) (f : AF) (st4 : ST) : Prop := match f with | .next => J xs (i + 1) st4 | .cont => J xs (i + 1) st4 | .brk => Q .next st4 | .ret v => Q (.ret v) st4
abbrev whlQ (J : Nat → ST → Prop) (Q : AF → ST → Prop) (i : Nat) (f : AF) (st4 : ST) : Prop := match f with | .next => ∃ j, j < i ∧ J j st4 | .cont => ∃ j, j < i ∧ J j st4 | .brk => Q .next st4 | .ret v => Q (.ret v) st4
abbrev InvW (J : Nat → ST → Prop) (i : Nat) (st : ST) : Prop := J i st
inductive ForI (C : Cx) (fz1 : OH) (wr : List Addr) (kp : OH) (env : Env) (xs : List V) (St : Nat → Heap → Prop) (J : List V → Nat → ST → Prop) (k : Nat) (s' : Shared) : Prop
  | mk (i : Nat) (fz2 g : OH) (st2 : ST) (e : k = xs.length + 1 - i) (hi : i ≤ xs.length) (le : Le fz1 fz2) (hg : ∀ b ∈ wr, ∃ o, g b = some o) (rp : Rp C fz2 (kpW kp wr g) env st2 s') (hs : St i s'.heap) (hj : J xs i st2) : ForI C fz1 wr kp env xs St J k s'
theorem ex1_For {tgt iter : Expr} {body : List Stmt} {pos : Pos} {Q : AF → ST → Prop} (J : List V → Nat → ST → Prop) (hs : ∀ x, foldedSetIterable iter env x = pure x) (h : itr C n env iter tgt st (Inv0 J))
    (turn : ∀ xs i x st2, xs[i]? = some x → Inv J xs i st2 → asg C n env tgt x st2 fun st3 => ex C n env body st3 (forQ J Q xs i))
    (hend : ∀ xs st2, Inv J xs xs.length st2 → Q .next st2) : ex1 C n env (.For tgt iter body [] pos) st Q := fun fz A hA kp s r => by
  refine wpAny_For (wpAny_mono (h fz A hA kp s r) (fun xv s1 h1 => wpAny_mono h1 ?_ fun _ _ x => x.elim) fun _ _ x => x.elim) hs
  rintro it s2 ⟨fz1, I, wr, xs, St, st1, rfl, W, le1, hfr, hst, r1, hz, hJ⟩
  refine codeAny_forLoop_any (ForI C fz1 wr kp env xs St J) ?_ (xs.length + 1)
    ⟨0, fz1, s2.heap.get?, st1, rfl, Nat.zero_le _, Le.refl _, W.live _ _ hst, r1.park hfr, hst, hJ⟩
  rintro k s' ⟨i, fz2, g, st2, rfl, hi, le2, hg, r2, hst2, hJ2⟩
  refine wk_turn W le2 hA.1 r2 hg (fun b hb => (hfr b hb).k) hst2 hi (fun s3 e r3 => ?_) fun x v s3 hx hgo => ?_
  · subst e
    exact wpAny_execs_nil ⟨fz2, .next, st2, le1.trans le2, .next, r3, hend _ _ hJ2⟩
  · refine hgo _ _ fun fz4 s4 le4 rx r4 hg4 hst4 => ?_
    refine wpAny_mono (turn xs i x st2 hx hJ2 fz4 v rx A hA _ s4 r4) ?_ fun _ _ x => x.elim
    rintro u s5 ⟨fz5, _, st5, le5, _, r5, h5⟩
    refine wpAny_mono (h5 fz5 A hA _ s5 r5) ?_ fun _ _ x => x.elim
    rintro f s6 ⟨fz6, af, st6, le6, rf, r6, h6⟩
    have lef : Le fz1 fz6 := ((le2.trans le4).trans le5).trans le6
    have fin : ∃ k, k < xs.length + 1 - i ∧ (J xs (i + 1) st6 → ForI C fz1 wr kp env xs St J k s6) :=
      ⟨xs.length + 1 - (i + 1), by omega, fun hj => ⟨i + 1, fz6, s4.heap.get?, st6, rfl, (List.getElem?_eq_some_iff.mp hx).1, lef, hg4, r6, W.frame _ _ _ hst4 (lef.trans r6.fzs) (fun b hb o e => r6.kps _ _ (by rw [kpW_in hb]; exact e)), hj⟩⟩
    obtain ⟨k, hk, hj⟩ := fin
    cases rf with
    | next => exact ⟨k, hk, hj h6⟩
    | cont => exact ⟨k, hk, hj h6⟩
    | brk => exact ⟨fz6, .next, st6, le1.trans lef, .next, (r6.unpark hg4 fun b hb => (hfr b hb).k).1, h6⟩
    | ret y => exact ⟨fz6, _, st6, le1.trans lef, .ret y, (r6.unpark hg4 fun b hb => (hfr b hb).k).1, h6⟩

theorem ex1_While {test : Expr} {body : List Stmt} {pos : Pos} {Q : AF → ST → Prop} (J : Nat → ST → Prop) (m : Nat) (h : InvW J m st)
    (turn : ∀ i st2, InvW J i st2 → tr C n env test st2 fun b st3 => if b then ex C n env body st3 (whlQ J Q i) else Q .next st3) :
    ex1 C n env (.While test body [] pos) st Q := fun fz A hA kp s r => by
  refine wpAny_While (codeAny_whileLoop (fun k s' => ∃ fz2 st2, Le fz fz2 ∧ Rp C fz2 kp env st2 s' ∧ J k st2) ?_ m ⟨fz, st, Le.refl _, r, h⟩)
  rintro k s' ⟨fz2, st2, le2, r2, hJ⟩
  refine wpAny_mono (turn k st2 hJ fz2 A hA kp s' r2) ?_ fun _ _ x => x.elim
  rintro b s3 ⟨fz3, b', st3, le3, rb, r3, h3⟩
  subst rb
  cases b with
  | false => exact wpAny_execs_nil ⟨fz3, .next, st3, le2.trans le3, .next, r3, h3⟩
  | true =>
    refine wpAny_mono (h3 fz3 A hA kp s3 r3) ?_ fun _ _ x => x.elim
    rintro f s4 ⟨fz4, af, st4, le4, rf, r4, h4⟩
    have lef := (le2.trans le3).trans le4
    cases rf with
    | next => obtain ⟨j, hj, h5⟩ := h4; exact ⟨j, hj, fz4, st4, lef, r4, h5⟩
    | cont => obtain ⟨j, hj, h5⟩ := h4; exact ⟨j, hj, fz4, st4, lef, r4, h5⟩
    | brk => exact ⟨fz4, .next, st4, lef, .next, r4, h4⟩
    | ret y => exact ⟨fz4, _, st4, lef, .ret y, r4, h4⟩
end
end Mine
end

section
open PySem PySem.Calls PySem.W PyProof.Rows
set_option maxRecDepth 100000
set_option Elab.async false
set_option linter.unusedVariables false
namespace Mine

section
variable {C : Cx} {n : Nat} {env cenv : Env} {st : ST} {D : Addr}

/-- the state while a list D is being filled -/
def Fill (C : Cx) (cenv : Env) (D : Addr) (fz kp : OH) (ys : List V) (st : ST) (s : Shared) : Prop := Rp C fz kp cenv st s ∧ Free fz kp cenv st.mu D ∧ ∃ xs m, s.heap.get? D = some (lstO xs m) ∧ RepL C fz ys xs.toList
inductive Pac (C : Cx) (cenv : Env) (D : Addr) (fz kp : OH) (Q : List V → ST → Prop) (s' : Shared) : Prop
  | mk (fz' : OH) (ys' : List V) (st' : ST) (le : Le fz fz') (f : Fill C cenv D fz' kp ys' st' s') (q : Q ys' st') : Pac C cenv D fz kp Q s'
def accj (C : Cx) (n : Nat) (cenv : Env) (D : Addr) (k : Sem Unit) (ys : List V) (st : ST) (Q : List V → ST → Prop) : Prop := ∀ fz A, Ok n A → ∀ kp s, Fill C cenv D fz kp ys st s →
  wpAny C.M A k (fun _ s' => Pac C cenv D fz kp Q s') (fun _ _ => False) s

theorem aw_past {α β : Type} {R : OH → β → α → Prop} {t : Sem α} {Q : β → ST → Prop} {fz kp : OH} {A : Around} {s : Shared} {o : Obj} (hA : Ok n A) (h : aw C n R fz cenv t st Q) (r : Rp C fz kp cenv st s) (hf : Free fz kp cenv st.mu D) (ho : s.heap.get? D = some o) :
    wpAny C.M A t (fun v s' => ∃ fz' b st', Le fz fz' ∧ R fz' b v ∧ Rp C fz' kp cenv st' s' ∧ Free fz' kp cenv st'.mu D ∧ s'.heap.get? D = some o ∧ Q b st') (fun _ _ => False) s := by
  have r1 := r.park (wr := [D]) fun b hb => by rw [List.mem_singleton] at hb; subst hb; exact hf
  refine wpAny_mono (h A hA _ s r1) ?_ fun _ _ x => x
  rintro v s1 ⟨fz1, b, st1, le1, rv, r2, hq⟩
  obtain ⟨r3, hf3⟩ := r2.unpark (fun b hb => by rw [List.mem_singleton] at hb; subst hb; exact ⟨o, ho⟩) fun b hb => by rw [List.mem_singleton] at hb; subst hb; exact hf.k
  exact ⟨fz1, b, st1, le1, rv, r3, hf3 D (List.mem_singleton.mpr rfl), r2.kps _ _ (by rw [kpW_in (List.mem_singleton.mpr rfl)]; exact ho), hq⟩

theorem accj_emit {elt : Expr} {ys : List V} {Q : List V → ST → Prop} (hz : ys.length < 1000) (h : ev C n cenv elt st fun y st1 => Q (ys ++ [y]) st1) :
    accj C n cenv D (do let _ ← call (.builtin "list.append") [.ref D, ← eval elt cenv]) ys st Q := fun fz A hA kp s ⟨r, hf, xs, m, ho, hr⟩ => by
  refine wpAny_bind (wpAny_mono (aw_past hA (h fz) r hf ho) ?_ fun _ _ x => x)
  rintro v s1 ⟨fz1, y, st1, le1, rv, r1, hf1, ho1, hq⟩
  have hlen := hr.length
  refine wpAny_bind (append_at ho1 (fun h' hs' hh' => wpAny_pure ?_) (by rw [sizeLine_eq]; simp at hlen; omega))
  refine ⟨fz1, _, st1, le1, ⟨r1.off (wr := [D]) s1.toks (fun b hb => by rw [List.mem_singleton] at hb; subst hb; exact hf1) fun b o hb e => (hs'.2 b (fun q => hb (by simp [q]))).trans e, hf1, _, _, hh', ?_⟩, hq⟩
  rw [Array.toList_push]
  exact (hr.mono le1).append (.cons rv .nil)

/-- a comprehension's tests -/
def trs (C : Cx) (n : Nat) (env : Env) (ifs : List Expr) (st : ST) (Q : Bool → ST → Prop) : Prop := ∀ fz, aw C n RepB fz env (forIn ifs true fun c r => if r = true then do let ok ← isTrue c env (eval c env); pure (ForInStep.yield ok) else pure (ForInStep.yield r)) st Q
theorem trs_nil {Q : Bool → ST → Prop} (h : Q true st) : trs C n env [] st Q := fun fz A hA kp s r => wpAny_tests_nil ⟨fz, _, st, Le.refl _, rfl, r, h⟩
theorem trs_one {e : Expr} {Q : Bool → ST → Prop} (h : tr C n env e st Q) : trs C n env [e] st Q := fun fz A hA kp s r => wpAny_tests_one (h fz A hA kp s r)

def AccPost (C : Cx) (cenv : Env) (D : Addr) (fz kp : OH) (Q : List V → ST → Prop) (r : Result) (s' : Shared) : Prop := r = .ok .next ∧ ∃ fz' ys' st', Le fz fz' ∧ Fill C cenv D fz' kp ys' st' s' ∧ Q ys' st'

inductive LoopI (C : Cx) (cenv : Env) (D : Addr) (fz : OH) (wr : List Addr) (kp : OH) (m : Nat) (St : Nat → Heap → Prop) (J : Nat → List V → ST → Prop) (k : Nat) (s' : Shared) : Prop
  | mk (i : Nat) (fz2 g : OH) (ys2 : List V) (st2 : ST) (e : k = m + 1 - i) (hi : i ≤ m) (le : Le fz fz2) (hg : ∀ b ∈ wr, ∃ o, g b = some o) (f : Fill C cenv D fz2 (kpW kp wr g) ys2 st2 s') (hs : St i s'.heap) (hj : J i ys2 st2) : LoopI C cenv D fz wr kp m St J k s'
theorem accc_loop {elt tgt : Expr} {ifs : List Expr} {gens : List Comprehension} {scope : Scope} {pos ipos : Pos} {d : Nat} {k : Sem Unit} {I : Addr} {wr : List Addr} {xs : List V} {St : Nat → Heap → Prop}
    (ht : compTurn (.ListComp elt gens scope pos) d (.ref I) (.ref D) cenv = (do
      standAt ipos
      match ← pyNext (.ref I) with
      | none => pure (.done .next)
      | some v =>
        letOwnedTupleGo tgt (.ref I) v
        assign tgt cenv v
        let mut ok := true
        for c in ifs do
          if ok then ok ← isTrue c cenv (eval c cenv)
        if ok then k
        again (.compLoop (.ListComp elt gens scope pos) d (.ref I) (.ref D) cenv)))
    (J : Nat → List V → ST → Prop)
    (turn : ∀ i x ys st2, xs[i]? = some x → J i ys st2 → asg C n cenv tgt x st2 fun st3 => trs C n cenv ifs st3 fun ok st4 => if ok then accj C n cenv D k ys st4 (fun ys' st5 => J (i + 1) ys' st5) else J (i + 1) ys st4)
    {fz0 fz kp : OH} {A : Around} {s : Shared} {ys : List V} (hA : Ok n A) (W : Wk C fz0 I wr xs tgt St) (le0 : Le fz0 fz) (hF : Fill C cenv D fz kp ys st s) (hD : D ∉ wr) (hfr : ∀ b ∈ wr, Free fz kp cenv st.mu b) (hst : St 0 s.heap) (hJ : J 0 ys st) :
    codeAny C.M A (.compLoop (.ListComp elt gens scope pos) d (.ref I) (.ref D) cenv) (AccPost C cenv D fz kp (fun ys' st' => J xs.length ys' st')) s := by
  obtain ⟨r, hf, xs0, m0, ho, hr⟩ := hF
  have hDk : ∀ g, kpW kp wr g D = none := fun g => by rw [kpW_out hD]; exact hf.k
  refine codeAny_loop rfl (LoopI C cenv D fz wr kp xs.length St J) (fun kk s' hI => ?_) (xs.length + 1)
    ⟨0, fz, s.heap.get?, ys, st, rfl, Nat.zero_le _, Le.refl _, W.live _ _ hst, ⟨r.park hfr, ⟨hf.f, hDk _, hf.m, hf.l⟩, xs0, m0, ho, hr⟩, hst, hJ⟩
  obtain ⟨i, fz2, g, ys2, st2, rfl, hi, le2, hg, ⟨r2, hf2, xs2, m2, ho2, hr2⟩, hst2, hJ2⟩ := hI
  show wpAny _ _ ((compTurn (.ListComp elt gens scope pos) d (.ref I) (.ref D) cenv).onRaise (fun x => do noteFrame x cenv; theTreesLotGoes x)) _ _ s'
  refine wpAny_noted ?_
  rw [ht]
  have r2p := r2.park (wr := [D]) fun b hb => by rw [List.mem_singleton] at hb; subst hb; exact hf2
  have hDg : ∀ b ∈ [D], ∃ o, s'.heap.get? b = some o := fun b hb => by rw [List.mem_singleton] at hb; subst hb; exact ⟨_, ho2⟩
  -- the iterator turns while D is parked below it
  have swap : ∀ {fz : OH} {st : ST} {s : Shared} {g1 g2 : OH}, Rp C fz (kpW (kpW kp [D] g2) wr g1) cenv st s → (∀ b ∈ wr, ∃ o, g1 b = some o) → g2 D = some (lstO xs2 m2) → Rp C fz (kpW kp wr g1) cenv st s ∧ Free fz (kpW kp wr g1) cenv st.mu D ∧ s.heap.get? D = some (lstO xs2 m2) := fun {fz st s g1 g2} rr h1 h2 => by
    have e : kpW (kpW kp [D] g2) wr g1 = kpW (kpW kp wr g1) [D] g2 := by
      funext b
      by_cases q : b ∈ wr
      · have : b ∉ [D] := fun q' => hD (by rw [List.mem_singleton] at q'; rw [← q']; exact q)
        rw [kpW_in q, kpW_out this, kpW_in q]
      · by_cases q' : b ∈ [D]
        · rw [kpW_out q, kpW_in q', kpW_in q']
        · rw [kpW_out q, kpW_out q', kpW_out q', kpW_out q]
    rw [e] at rr
    obtain ⟨r3, f3⟩ := rr.unpark (fun b hb => by rw [List.mem_singleton] at hb; subst hb; exact ⟨_, h2⟩) fun b hb => by rw [List.mem_singleton] at hb; subst hb; exact hDk _
    exact ⟨r3, f3 D (List.mem_singleton.mpr rfl), rr.kps _ _ (by rw [kpW_in (List.mem_singleton.mpr rfl)]; exact h2)⟩
  have r2q : Rp C fz2 (kpW (kpW kp [D] s'.heap.get?) wr g) cenv st2 s' := by
    have e : kpW (kpW kp wr g) [D] s'.heap.get? = kpW (kpW kp [D] s'.heap.get?) wr g := by
      funext b
      by_cases q : b ∈ wr
      · have : b ∉ [D] := fun q' => hD (by rw [List.mem_singleton] at q'; rw [← q']; exact q)
        rw [kpW_in q, kpW_out this, kpW_in q]
      · by_cases q' : b ∈ [D]
        · rw [kpW_out q, kpW_in q', kpW_in q']
        · rw [kpW_out q, kpW_out q', kpW_out q', kpW_out q]
    rw [← e]; exact r2p
  have hkw : ∀ b ∈ wr, kpW kp [D] s'.heap.get? b = none := fun b hb => by
    rw [kpW_out (fun q' => hD (by rw [List.mem_singleton] at q'; rw [← q']; exact hb))]; exact (hfr b hb).k
  refine wpAny_bind (wpAny_standAt (wpAny_bind (wk_turn W (le0.trans le2) hA.1 r2q hg hkw hst2 hi (fun s3 e r3 => ?_) fun x v s3 hx hgo => ?_)))
  · subst e
    refine wpAny_pure ⟨rfl, fz2, ys2, st2, le2, ⟨(r3.unpark hDg fun b hb => by rw [List.mem_singleton] at hb; subst hb; exact hf.k).1, ?_, xs2, m2, r3.kps _ _ (by rw [kpW_in (List.mem_singleton.mpr rfl)]; exact ho2), hr2⟩, hJ2⟩
    exact (r3.unpark hDg fun b hb => by rw [List.mem_singleton] at hb; subst hb; exact hf.k).2 D (List.mem_singleton.mpr rfl)
  · refine wpAny_bind (hgo _ _ fun fz4 s4 le4 rx r4 hg4 hst4 => ?_)
    obtain ⟨r5, f5, o5⟩ := swap r4 hg4 ho2
    refine wpAny_bind (wpAny_mono (aw_past hA (turn i x ys2 st2 hx hJ2 fz4 v rx) r5 f5 o5) ?_ fun _ _ x => x.elim)
    rintro u s6 ⟨fz6, _, st6, le6, _, r6, f6, o6, h6⟩
    refine wpAny_bind (wpAny_mono (aw_past hA (h6 fz6) r6 f6 o6) ?_ fun _ _ x => x.elim)
    rintro ok s7 ⟨fz7, ok', st7, le7, rok, r7, f7, o7, h7⟩
    subst rok
    have lef : Le fz fz7 := ((le2.trans le4).trans le6).trans le7
    have fin : ∀ fz8 ys8 st8 s8, Le fz7 fz8 → Fill C cenv D fz8 (kpW kp wr s4.heap.get?) ys8 st8 s8 → J (i + 1) ys8 st8 → ∃ m, m < xs.length + 1 - i ∧ LoopI C cenv D fz wr kp xs.length St J m s8 :=
      fun fz8 ys8 st8 s8 le8 F8 hj => ⟨xs.length + 1 - (i + 1), by omega, i + 1, fz8, s4.heap.get?, ys8, st8, rfl, (List.getElem?_eq_some_iff.mp hx).1, lef.trans le8, hg4, F8,
        W.frame _ _ _ hst4 ((le0.trans (lef.trans le8)).trans F8.1.fzs) (fun b hb o e => F8.1.kps _ _ (by rw [kpW_in hb]; exact e)), hj⟩
    cases ok with
    | false => exact wpAny_pure ⟨rfl, fin _ _ _ _ (Le.refl _) ⟨r7, f7, xs2, m2, o7, hr2.mono ((le4.trans le6).trans le7)⟩ h7⟩
    | true =>
      refine wpAny_bind (wpAny_mono (h7 fz7 A hA _ s7 ⟨r7, f7, xs2, m2, o7, hr2.mono ((le4.trans le6).trans le7)⟩) ?_ fun _ _ x => x.elim)
      rintro _ s8 ⟨fz8, ys8, st8, le8, F8, h8⟩
      exact wpAny_pure ⟨rfl, fin _ _ _ _ le8 F8 h8⟩
end
end Mine
end

section
open PySem PySem.Calls PySem.W PyProof.Rows
set_option maxRecDepth 100000
set_option Elab.async false
set_option linter.unusedVariables false
namespace Mine

theorem lookup_relabel_kind {scope : Scope} {env : Env} {x : Str} {k : NameKind} (h : (relabel scope env).names.lookup x = some k) {cl : List (Str × Addr)} {L : Addr} : (compEnvC scope cl L env).kindOf x = some k := h

section
variable {C : Cx} {n : Nat} {env : Env} {st : ST}

/-- the heap after the list and the frame are made -/
theorem comp_core {elt tgt iter : Expr} {ifs : List Expr} {rest : List Comprehension} {scope : Scope} {pos ipos : Pos} {cl : List (Str × Addr)} {use : Option (Value → Sem Unit)} {k : Addr → Addr → Sem Unit}
    (hs : ∀ x, foldedSetIterable iter env x = pure x) (hclos : closureFor scope env = pure cl) (hkind : scope.kind = .function) (hcell : ∀ y ∈ scope.names, y.2 ≠ .cell)
    (hnames : ∀ x ∈ scope.names, x.2 = .local → scope.names.lookup x.1 = some .local)
    (ht : ∀ I D L, compTurn (.ListComp elt (⟨tgt, iter, ifs, 0⟩ :: rest) scope pos) 0 (.ref I) (.ref D) (compEnvC scope cl L env) = (do
      standAt iter.pos
      match ← pyNext (.ref I) with
      | none => pure (.done .next)
      | some v =>
        letOwnedTupleGo tgt (.ref I) v
        assign tgt (compEnvC scope cl L env) v
        let mut ok := true
        for c in ifs do
          if ok then ok ← isTrue c (compEnvC scope cl L env) (eval c (compEnvC scope cl L env))
        if ok then k D L
        again (.compLoop (.ListComp elt (⟨tgt, iter, ifs, 0⟩ :: rest) scope pos) 0 (.ref I) (.ref D) (compEnvC scope cl L env))))
    (J : List V → Nat → List V → ST → Prop) {P : List V → ST → Prop}
    (h : itr C n env iter tgt st fun xs st1 => J xs 0 [] ⟨[], st1.mu⟩ ∧ ∀ ys st2, J xs xs.length ys st2 → ∃ mu1, LeM mu1 st2.mu ∧ P ys ⟨st1.loc, mu1⟩)
    (turn : ∀ L D xs i x ys st2, xs[i]? = some x → J xs i ys st2 → asg C n (compEnvC scope cl L env) tgt x st2 fun st3 => trs C n (compEnvC scope cl L env) ifs st3 fun ok st4 => if ok then accj C n (compEnvC scope cl L env) D (k D L) ys st4 (fun ys' st5 => J xs (i + 1) ys' st5) else J xs (i + 1) ys st4)
    {fz kp : OH} {A : Around} {s : Shared} {Q : Value → Shared → Prop} (hA : Ok n A) (r : Rp C fz kp env st s)
    (hend : ∀ fz' ys st' Dd Cc s' m, Le fz fz' → RepV C fz' (.lst ys) (.ref Dd) → Rp C fz' kp env st' s' → Free fz' kp env st'.mu Cc → s'.heap.Ns Cc m → P ys st' → compPost C.M A (fun _ _ => False) use Q (.ref Dd) Cc (.ok .next) s') :
    wpAny C.M A (comprehension (.ListComp elt (⟨tgt, iter, ifs, 0⟩ :: rest) scope pos) scope env ipos (newList []) false (eval iter env) use) Q (fun _ _ => False) s := by
  refine wpAny_comprehension_free rfl hs hclos hkind hnames (wpAny_mono (h fz A hA kp s r) (fun xv s1 h1 => wpAny_mono h1 ?_ fun _ _ x => x.elim) fun _ _ x => x.elim)
  rintro it s2 ⟨fz1, I, wr, xs, St, st1, rfl, W, le1, hfr, hst, r1, hz, hJ0, hfin⟩
  refine wpAny_newObj_type (wpAny_newFunctionEnv hcell (by intro y hy; simp at hy) (fun h₁ hns₁ hsb₁ => ?_) hkind)
  dsimp only at hns₁ hsb₁ ⊢
  generalize hH2 : s2.heap.push { cls := .type "list", dict := none, data := .seq ([] : List Value).toArray } = H2 at hns₁ hsb₁ ⊢
  have hC : H2.objs.size = s2.heap.objs.size + 1 := by rw [← hH2, Heap.size_push]
  have below : ∀ b, b < s2.heap.objs.size → b ≠ H2.objs.size ∧ b ≠ s2.heap.objs.size := fun b hb => ⟨by rw [hC]; exact Nat.ne_of_lt (Nat.lt_succ_of_lt hb), Nat.ne_of_lt hb⟩
  have old : ∀ b o, s2.heap.get? b = some o → h₁.get? b = some o := fun b o e => hsb₁.extBut b o (below b (Heap.lt_size e)).1 (Heap.get?_push_of_some _ (hH2 ▸ Heap.get?_push_of_some _ e))
  have hDC : s2.heap.objs.size ≠ H2.objs.size := by rw [hC]; exact Nat.ne_of_lt (Nat.lt_succ_self _)
  have hCle : s2.heap.objs.size ≤ H2.objs.size := by rw [hC]; exact Nat.le_succ _
  have hacc : h₁.get? s2.heap.objs.size = some (lstO #[] 0) := hsb₁.extBut _ _ hDC (Heap.get?_push_of_some _ (hH2 ▸ Heap.get?_push_size _ rfl))
  obtain ⟨oL, hL⟩ : ∃ oL, s2.heap.get? env.locals = some oL := let ⟨_, ⟨o, _, _, e, _⟩, _⟩ := r1.ns; ⟨o, e⟩
  generalize hce : compEnvC scope cl H2.objs.size env = cenv
  have hcl : cenv.locals = H2.objs.size := by rw [← hce]; rfl
  have key : codeAny C.M A (.compLoop (.ListComp elt (⟨tgt, iter, ifs, 0⟩ :: rest) scope pos) 0 (.ref I) (.ref s2.heap.objs.size) cenv)
      (compPost C.M A (fun _ _ => False) use Q (.ref s2.heap.objs.size) H2.objs.size) { s2 with heap := h₁, toks := s2.toks + ([] : List (Str × Value)).length } := by
    have r2 : Rp C fz1 (insH kp env.locals oL) cenv ⟨[], st1.mu⟩ { s2 with heap := h₁, toks := s2.toks + ([] : List (Str × Value)).length } :=
      r1.enter hL _ old (by rw [hcl]; exact hns₁) (by rw [hcl]; exact hCle) (fun x av e => by cases e) (fun a o e => .inl e)
    have fD : Free fz1 (insH kp env.locals oL) cenv st1.mu s2.heap.objs.size := by
      have f := r1.fresh (Nat.le_refl _)
      exact ⟨f.f, by rw [insH_other _ _ f.l]; exact f.k, f.m, by rw [hcl]; exact hDC⟩
    have lw : ∀ b ∈ wr, b < s2.heap.objs.size := fun b hb => let ⟨_, e⟩ := W.live _ _ hst b hb; Heap.lt_size e
    refine codeAny_mono (accc_loop (k := k s2.heap.objs.size H2.objs.size) (by rw [← hce]; exact ht I _ _) (J xs) (fun i x ys st2 hx hj => by rw [← hce]; exact turn _ _ xs i x ys st2 hx hj) hA W (Le.refl _) ⟨r2, fD, #[], 0, hacc, .nil⟩ (fun hb => absurd (lw _ hb) (Nat.lt_irrefl _))
      (fun b hb => ?_) (W.frame _ _ _ hst (r1.fzs.trans old) fun b _ o e => old b o e) hJ0) ?_
    · have f := hfr b hb
      exact ⟨f.f, by rw [insH_other _ _ f.l]; exact f.k, f.m, by rw [hcl]; exact fun q => (below b (lw b hb)).1 q⟩
    · rintro rr s' ⟨rfl, fz3, ys, st3, le3, ⟨r3, f3, ys', m3, ho3, hr3⟩, hj3⟩
      obtain ⟨mu1, hm1, hp⟩ := hfin ys st3 hj3
      have none_of : ∀ a, st3.mu a = none → mu1 a = none := fun a e => by
        cases q : mu1 a with
        | none => rfl
        | some o => rw [hm1 _ _ q] at e; cases e
      have kk : ∀ a, insH kp env.locals oL a = none → kp a = none ∧ a ≠ env.locals := fun a e => by
        have hne : a ≠ env.locals := fun q => by rw [q, insH_self] at e; cases e
        rw [insH_other _ _ hne] at e
        exact ⟨e, hne⟩
      have r4 : Rp C fz3 kp env ⟨st1.loc, mu1⟩ s' := r1.leave hL le3 r3 hm1
      have fD4 := kk _ f3.k
      have r5 := r4.addF ho3 f3.f fD4.1 (none_of _ f3.m) fD4.2
      have fC := kk _ r3.kl
      rw [hcl] at fC
      obtain ⟨m, hm, _⟩ := r3.ns
      rw [hcl] at hm
      refine hend _ ys ⟨st1.loc, mu1⟩ _ _ s' m ((le1.trans le3).trans (Le.ins _ f3.f)) (.lst (insH_self ..) (hr3.mono (Le.ins _ f3.f))) r5 ⟨?_, fC.1, none_of _ (by rw [← hcl]; exact r3.ml), fC.2⟩ hm hp
      rw [insH_other _ _ (Ne.symm hDC), ← hcl]; exact r3.fl
  subst hce
  refine codeAny_compStart_list key ?_
  refine W.self A hA.1 0 _ _ _ (W.frame _ _ _ hst (r1.fzs.trans old) fun b _ o e => old b o e) key

abbrev InvC (J : List V → Nat → List V → ST → Prop) (xs : List V) (i : Nat) (ys : List V) (st : ST) : Prop := J xs i ys st
abbrev compQ (J : List V → Nat → List V → ST → Prop) (Q : V → ST → Prop) (xs : List V) (st1 : ST) : Prop := J xs 0 [] ⟨[], st1.mu⟩ ∧ ∀ ys st2, J xs xs.length ys st2 → ∃ mu1, LeM mu1 st2.mu ∧ Q (.lst ys) ⟨st1.loc, mu1⟩
abbrev compA (J : List V → Nat → List V → ST → Prop) (C : Cx) (n : Nat) (env : Env) (t : Expr) (Q : AF → ST → Prop) (xs : List V) (st1 : ST) : Prop := J xs 0 [] ⟨[], st1.mu⟩ ∧ ∀ ys st2, J xs xs.length ys st2 → ∃ mu1, LeM mu1 st2.mu ∧ asg C n env t (.lst ys) ⟨st1.loc, mu1⟩ fun st3 => Q .next st3
abbrev accQ (J : List V → Nat → List V → ST → Prop) (Q : List V → ST → Prop) (ys : List V) (xs : List V) (st1 : ST) : Prop := J xs 0 ys st1 ∧ ∀ ys st2, J xs xs.length ys st2 → Q ys st2
theorem ev_ListComp {elt tgt iter : Expr} {ifs : List Expr} {rest : List Comprehension} {scope : Scope} {pos : Pos} {cl : List (Str × Addr)} {k : Addr → Addr → Sem Unit} {Q : V → ST → Prop}
    (hs : ∀ x, foldedSetIterable iter env x = pure x) (hclos : closureFor scope env = pure cl) (hkind : scope.kind = .function) (hcell : ∀ y ∈ scope.names, y.2 ≠ .cell)
    (hnames : ∀ x ∈ scope.names, x.2 = .local → scope.names.lookup x.1 = some .local)
    (ht : ∀ I D L, compTurn (.ListComp elt (⟨tgt, iter, ifs, 0⟩ :: rest) scope pos) 0 (.ref I) (.ref D) (compEnvC scope cl L env) = (do
      standAt iter.pos
      match ← pyNext (.ref I) with
      | none => pure (.done .next)
      | some v =>
        letOwnedTupleGo tgt (.ref I) v
        assign tgt (compEnvC scope cl L env) v
        let mut ok := true
        for c in ifs do
          if ok then ok ← isTrue c (compEnvC scope cl L env) (eval c (compEnvC scope cl L env))
        if ok then k D L
        again (.compLoop (.ListComp elt (⟨tgt, iter, ifs, 0⟩ :: rest) scope pos) 0 (.ref I) (.ref D) (compEnvC scope cl L env))))
    (J : List V → Nat → List V → ST → Prop)
    (h : itr C n env iter tgt st (compQ J Q))
    (turn : ∀ L D xs i x ys st2, xs[i]? = some x → InvC J xs i ys st2 → asg C n (compEnvC scope cl L env) tgt x st2 fun st3 => trs C n (compEnvC scope cl L env) ifs st3 fun ok st4 => if ok then accj C n (compEnvC scope cl L env) D (k D L) ys st4 (InvC J xs (i + 1)) else InvC J xs (i + 1) ys st4) :
    ev C n env (.ListComp elt (⟨tgt, iter, ifs, 0⟩ :: rest) scope pos) st Q := fun fz A hA kp s r => by
  rw [eval_ListComp]
  refine comp_core (use := none) (P := fun ys st1 => Q (.lst ys) st1) hs hclos hkind hcell hnames ht J h turn hA r fun fz' ys st' Dd Cc s' m le rv r' fC hm hq => ?_
  refine ⟨m, hm, fun h' hs' => ?_⟩
  exact ⟨fz', _, st', le, rv, r'.off (wr := [Cc]) s'.toks (fun b hb => by rw [List.mem_singleton] at hb; subst hb; exact fC) (fun b o hb e => (hs'.2 b (fun q => hb (by simp [q]))).trans e), hq⟩

theorem ex1_AssignComp {t elt tgt iter : Expr} {ifs : List Expr} {rest : List Comprehension} {scope : Scope} {pos apos : Pos} {cl : List (Str × Addr)} {k : Addr → Addr → Sem Unit} {Q : AF → ST → Prop}
    (hsw : swapsWithSole [t] (.ListComp elt (⟨tgt, iter, ifs, 0⟩ :: rest) scope pos) apos.line env = pure true) (hae : assignEach [t] env = [(false, assign t env)])
    (hs : ∀ x, foldedSetIterable iter env x = pure x) (hclos : closureFor scope env = pure cl) (hkind : scope.kind = .function) (hcell : ∀ y ∈ scope.names, y.2 ≠ .cell)
    (hnames : ∀ x ∈ scope.names, x.2 = .local → scope.names.lookup x.1 = some .local)
    (ht : ∀ I D L, compTurn (.ListComp elt (⟨tgt, iter, ifs, 0⟩ :: rest) scope pos) 0 (.ref I) (.ref D) (compEnvC scope cl L env) = (do
      standAt iter.pos
      match ← pyNext (.ref I) with
      | none => pure (.done .next)
      | some v =>
        letOwnedTupleGo tgt (.ref I) v
        assign tgt (compEnvC scope cl L env) v
        let mut ok := true
        for c in ifs do
          if ok then ok ← isTrue c (compEnvC scope cl L env) (eval c (compEnvC scope cl L env))
        if ok then k D L
        again (.compLoop (.ListComp elt (⟨tgt, iter, ifs, 0⟩ :: rest) scope pos) 0 (.ref I) (.ref D) (compEnvC scope cl L env))))
    (J : List V → Nat → List V → ST → Prop)
    (h : itr C n env iter tgt st (compA J C n env t Q))
    (turn : ∀ L D xs i x ys st2, xs[i]? = some x → InvC J xs i ys st2 → asg C n (compEnvC scope cl L env) tgt x st2 fun st3 => trs C n (compEnvC scope cl L env) ifs st3 fun ok st4 => if ok then accj C n (compEnvC scope cl L env) D (k D L) ys st4 (InvC J xs (i + 1)) else InvC J xs (i + 1) ys st4) :
    ex1 C n env (.Assign [t] (.ListComp elt (⟨tgt, iter, ifs, 0⟩ :: rest) scope pos) apos) st Q := fun fz A hA kp s r => by
  rw [arm_exec_Assign, hsw]
  refine wpAny_bind (wpAny_standAt (wpAny_bind (wpAny_pure ?_)))
  show wpAny _ _ (evalThenUse _ env (fun v => assignAll v ((assignEach [t] env).map (·.2))) >>= fun _ => pure Flow.next) _ _ _
  rw [hae]
  refine wpAny_bind ?_
  show wpAny _ _ (comprehension _ scope env _ (newList []) false (eval iter env) (some _) >>= fun _ => pure ()) _ _ _
  refine wpAny_bind ?_
  refine comp_core (use := some fun v => assign t env v) (P := fun ys st1 => asg C n env t (.lst ys) st1 fun st3 => Q .next st3) hs hclos hkind hcell hnames ht J h turn hA r fun fz' ys st' Dd Cc s' m le rv r' fC hm hq => ?_
  obtain ⟨oC, hoC⟩ : ∃ oC, s'.heap.get? Cc = some oC := let ⟨o, _, _, e, _⟩ := hm; ⟨o, e⟩
  refine wpAny_mono (aw_past hA (hq fz' _ rv) r' fC hoC) ?_ fun _ _ x => x
  rintro u s3 ⟨fz3, _, st3, le3, _, r3, f3, ho3, h3⟩
  refine ⟨m, ?_, fun h' hs' => wpAny_pure (wpAny_pure ?_)⟩
  · obtain ⟨o, es, ep, e1, rr⟩ := hm
    rw [hoC] at e1; cases e1
    exact ⟨_, es, ep, ho3, rr⟩
  · exact ⟨fz3, _, st3, le.trans le3, .next, r3.off (wr := [Cc]) s3.toks (fun b hb => by rw [List.mem_singleton] at hb; subst hb; exact f3) (fun b o hb e => (hs'.2 b (fun q => hb (by simp [q]))).trans e), h3⟩

/-- a clause inside a clause -/
theorem codeAny_compStart_in {A : Around} {R : Result → Shared → Prop} {s : Shared} {elt : Expr} {g1 g2 : Comprehension} {gens : List Comprehension} {scope : Scope} {pos : Pos} {it acc : Value} {cenv : Env} (hg : g2.is_async = 0)
    (h0 : codeAny C.M A (.compLoop (.ListComp elt (g1 :: g2 :: gens) scope pos) 1 it acc cenv) R s)
    (h : wpAny C.M A (pyIter it) (fun it' s' => codeAny C.M A (.compLoop (.ListComp elt (g1 :: g2 :: gens) scope pos) 1 it' acc cenv) R s') (notedBy C.M A cenv fun x s' => R (.error x) s') s) :
    codeAny C.M A (.compStart (.ListComp elt (g1 :: g2 :: gens) scope pos) 1 it acc cenv) R s := by
  obtain ⟨t2, i2, f2, a2⟩ := g2
  dsimp only at hg
  subst hg
  refine codeAny_of_tree ?_
  show wpAny _ _ ((compStart (.ListComp elt (g1 :: ⟨t2, i2, f2, 0⟩ :: gens) scope pos) 1 it acc cenv).onRaise (fun x => do noteFrame x cenv; standAt theWindowsPlace)) _ _ s
  refine wpAny_notedAt ?_
  unfold compStart
  show wpAny _ _ (ask >>= _) _ _ s
  refine wpAny_bind (wpAny_askSetting (wpAny_ite ?_))
  split
  · first
      | exact wpAny_bind (wpAny_pure (wpAny_pure (And.intro rfl h0)))
      | exact wpAny_pure (And.intro rfl h0)
  · refine wpAny_bind (wpAny_rule ?_)
    show wpAny _ _ (standAt i2.pos >>= _) _ _ s
    exact wpAny_bind (wpAny_standAt (wpAny_bind (wpAny_mono h (fun it' s' h' => wpAny_pure (And.intro rfl h')) fun _ _ x => x)))

theorem accj_in {elt tgt iter : Expr} {ifs : List Expr} {g1 : Comprehension} {scope : Scope} {pos : Pos} {cenv : Env} {D : Addr} {ys : List V} {Q : List V → ST → Prop}
    (hs : ∀ x, foldedSetIterable iter cenv x = pure x)
    (ht : ∀ I, compTurn (.ListComp elt [g1, ⟨tgt, iter, ifs, 0⟩] scope pos) 1 (.ref I) (.ref D) cenv = (do
      standAt iter.pos
      match ← pyNext (.ref I) with
      | none => pure (.done .next)
      | some v =>
        letOwnedTupleGo tgt (.ref I) v
        assign tgt cenv v
        let mut ok := true
        for c in ifs do
          if ok then ok ← isTrue c cenv (eval c cenv)
        if ok then (do let _ ← call (.builtin "list.append") [.ref D, ← eval elt cenv])
        again (.compLoop (.ListComp elt [g1, ⟨tgt, iter, ifs, 0⟩] scope pos) 1 (.ref I) (.ref D) cenv)))
    (J : List V → Nat → List V → ST → Prop)
    (h : itr C n cenv iter tgt st (accQ J Q ys))
    (turn : ∀ xs i x ys st2, xs[i]? = some x → InvC J xs i ys st2 → asg C n cenv tgt x st2 fun st3 => trs C n cenv ifs st3 fun ok st4 => if ok then accj C n cenv D (do let _ ← call (.builtin "list.append") [.ref D, ← eval elt cenv]) ys st4 (InvC J xs (i + 1)) else InvC J xs (i + 1) ys st4) :
    accj C n cenv D (do
      let x ← eval iter cenv
      standAt iter.pos
      let x ← foldedSetIterable iter cenv x
      let _ ← runOwn (.compStart (.ListComp elt [g1, ⟨tgt, iter, ifs, 0⟩] scope pos) 1 (← holding [x] (pyIter x)) (.ref D) cenv) cenv) ys st Q := fun fz A hA kp s ⟨r, hf, xs0, m0, ho, hr⟩ => by
  have rp := r.park (wr := [D]) fun b hb => by rw [List.mem_singleton] at hb; subst hb; exact hf
  refine wpAny_bind (wpAny_mono (h fz A hA _ s rp) (fun xv s1 h1 => ?_) fun _ _ x => x)
  refine wpAny_bind (wpAny_standAt (wpAny_bind (wpAny_of_eq (hs xv) (wpAny_bind (wpAny_holding (wpAny_mono h1 ?_ fun _ _ x => x))))))
  rintro it s2 ⟨fz1, I, wr, xs, St, st1, rfl, W, le1, hfr, hst, r1, hz, hJ0, hfin⟩
  have hDw : D ∉ wr := fun hb => by have := (hfr D hb).k; rw [kpW_in (List.mem_singleton.mpr rfl), ho] at this; cases this
  obtain ⟨r2, f2⟩ := r1.unpark (fun b hb => by rw [List.mem_singleton] at hb; subst hb; exact ⟨_, ho⟩) fun b hb => by rw [List.mem_singleton] at hb; subst hb; exact hf.k
  have ho2 : s2.heap.get? D = some (lstO xs0 m0) := r1.kps _ _ (by rw [kpW_in (List.mem_singleton.mpr rfl)]; exact ho)
  have key : codeAny C.M A (.compLoop (.ListComp elt [g1, ⟨tgt, iter, ifs, 0⟩] scope pos) 1 (.ref I) (.ref D) cenv) (AccPost C cenv D fz1 kp (fun ys' st' => J xs xs.length ys' st')) s2 :=
    accc_loop (ht I) (J xs) (fun i x ys st2 hx hj => turn xs i x ys st2 hx hj) hA W (Le.refl _) ⟨r2, f2 D (List.mem_singleton.mpr rfl), xs0, m0, ho2, hr.mono le1⟩ hDw
      (fun b hb => ⟨(hfr b hb).f, by have := (hfr b hb).k; rwa [kpW_out (fun q => hDw (by rw [List.mem_singleton] at q; rw [← q]; exact hb))] at this, (hfr b hb).m, (hfr b hb).l⟩) hst hJ0
  refine wpAny_bind (wpAny_runOwn (codeAny_compStart_in rfl ?_ (W.self A hA.1 0 _ _ _ hst ?_)))
  all_goals
    refine codeAny_mono key ?_
    rintro rr s' ⟨rfl, fz3, ys3, st3, le3, F3, hj3⟩
    exact wpAny_pure ⟨fz3, ys3, st3, le1.trans le3, F3, hfin _ _ hj3⟩
end
end Mine
end

section
open PySem PySem.Calls PySem.W PyProof.Rows
set_option maxRecDepth 100000
set_option Elab.async false
set_option linter.unusedVariables false
namespace Mine

section
variable {C : Cx} {n : Nat} {env : Env} {st : ST}

/-- an iterator that a zip draws from -/
structure Nx (C : Cx) (fz : OH) (I : Addr) (xs : List V) (S : Nat → Heap → Prop) : Prop where
  live : ∀ i h, S i h → ∃ o, h.get? I = some o
  frame : ∀ i h h', S i h → (∀ o, h.get? I = some o → h'.get? I = some o) → S i h'
  item : ∀ (A : Around) i x, xs[i]? = some x → ∀ (s : Shared) (Q : Value → Shared → Prop) (E : Value → Shared → Prop), S i s.heap → Le fz s.heap.get? →
    (∀ v h' tk, Heap.SameBut I s.heap h' → S (i + 1) h' → RepV C fz x v → Q v { s with heap := h', toks := tk }) → wpAny C.M A (Builtin.SmallTypes.nextOf (.ref I)) Q E s
  stop : ∀ A : Around, A.handled = none → ∀ (s : Shared) (Q : Value → Shared → Prop) (E : Value → Shared → Prop), S xs.length s.heap → Le fz s.heap.get? →
    (∀ h' e, Heap.ExtBut I s.heap h' → (∃ o, h'.get? e = some o ∧ o.cls = .type "StopIteration") → E (.ref e) { s with heap := h' }) → wpAny C.M A (Builtin.SmallTypes.nextOf (.ref I)) Q E s

theorem nx_lst {fz : OH} {I ax : Addr} {items : Array Value} {m : Nat} {xs : List V} (hf : fz ax = some (lstO items m)) (hr : RepL C fz xs items.toList) : Nx C fz I xs (fun i h => h.IsListIter I ax i) where
  live := fun i h ⟨o, ho, _⟩ => ⟨o, ho⟩
  frame := fun i h h' ⟨o, ho, r⟩ hk => ⟨o, hk _ ho, r⟩
  item := fun A i x hx s Q E hs hl k => by
    obtain ⟨v, e1, e2⟩ := hr.get hx
    exact wpAny_nextOf_list_item hs (hl.atL hf) (x := v) (by simpa using e1) fun h' hit' hs' => k v h' s.toks hs' hit' e2
  stop := fun A hA s Q E hs hl k => wpAny_nextOf_list_end hA hs (hl.atL hf) (by have := hr.length; simp at this; simp [this]) fun h' e he' ho => k h' e he' ho

theorem nextOf_tuple_item {A : Around} {E : Value → Shared → Prop} {s : Shared} {it t : Addr} {i : Nat} {items : Array Value} {x : Value} {Q : Value → Shared → Prop} (hit : s.heap.IsTupleIter it t i)
    (ht : s.heap.IsTuple t items) (hx : items[i]? = some x) (hQ : ∀ h', h'.IsTupleIter it t (i + 1) → Heap.SameBut it s.heap h' → Q x { s with heap := h' }) : wpAny C.M A (Builtin.SmallTypes.nextOf (.ref it)) Q E s := by
  obtain ⟨o, ho, hc, hd⟩ := id hit
  obtain ⟨ol, hol, _, nl, hdl⟩ := ht
  unfold Builtin.SmallTypes.nextOf
  refine wpAny_bind (wpAny_callSpecial?_slot (name := Str.ofString "__next__") hit.typeIs F.slot_tuple_iterator_next (wpAny_call_entry F.slot_tuple_iterator_next hit.typeIs F.entry_tuple_iterator_next ?_ (F.args_tuple_iterator_next_1 _)))
  show wpAny _ _ (field (.ref it) 0 >>= _) _ _ s
  refine wpAny_bind (wpAny_field ho hd (x := .ref t) rfl ?_)
  show wpAny _ _ (if (Value.ref t == Value.none) = true then _ else _) _ _ s
  rw [if_neg (show ¬ ((Value.ref t == Value.none) = true) from Bool.false_ne_true)]
  show wpAny _ _ (field (.ref it) 1 >>= _) _ _ s
  refine wpAny_bind (wpAny_field ho hd (x := .int i 0) rfl ?_)
  show wpAny _ _ (seqItems? (.ref t) >>= _) _ _ s
  refine wpAny_bind (wpAny_seqItems hol hdl ?_)
  simp only [Int.toNat_natCast, hx]
  refine wpAny_bind (wpAny_setField ho hd (by simp) (wpAny_pure ⟨x, rfl, wpAny_pure (hQ _ ?_ (Heap.SameBut.update ..))⟩))
  exact ⟨_, Heap.get?_update_self _ ho (Obj.isFreed_of_fields (Obj.data_mapFields hd _)), (Obj.cls_mapFields ..).trans hc, by
    rw [Obj.data_mapFields hd]; simp [rawInt]⟩
theorem stop_tail {A : Around} {E : Value → Shared → Prop} {s : Shared} {Q : Fin → Shared → Prop} (hh : A.handled = none)
    (hE : ∀ h' e, (∀ b o, s.heap.get? b = some o → h'.get? b = some o) → (∃ o, h'.get? e = some o ∧ o.cls = .type "StopIteration") → E (.ref e) { s with heap := h' }) :
    wpAny C.M A (newExc (.type "StopIteration") [] >>= fun e => raiseNew e) Q E s := by
  refine wpAny_bind ?_
  simp only [newExc, newTuple]
  refine wpAny_bind (wpAny_newObj_type ?_ (by size_fits))
  refine wpAny_bind (m := firstArgMember _ _) (wpAny_of_eq (a := Value.none) (by first | rfl | (simp only [firstArgMember]; rfl)) ?_)
  refine wpAny_newObj_type ?_ (by size_fits)
  simp only [raiseNew]
  refine wpAny_bind (wpAny_handled ?_)
  rw [hh]
  refine wpAny_bind (wpAny_pure (wpAny_throw ?_))
  exact hE _ _ (fun b o e => Heap.get?_push_of_some _ (Heap.get?_push_of_some _ e)) ⟨_, Heap.get?_push_size _ rfl, rfl⟩
theorem nextOf_tuple_end {A : Around} {E : Value → Shared → Prop} {s : Shared} {it t : Addr} {i : Nat} {items : Array Value} {Q : Value → Shared → Prop} (hh : A.handled = none) (hit : s.heap.IsTupleIter it t i)
    (ht : s.heap.IsTuple t items) (hx : items[i]? = none) (hE : ∀ h' e, Heap.ExtBut it s.heap h' → (∃ o, h'.get? e = some o ∧ o.cls = .type "StopIteration") → E (.ref e) { s with heap := h' }) : wpAny C.M A (Builtin.SmallTypes.nextOf (.ref it)) Q E s := by
  obtain ⟨o, ho, hc, hd⟩ := id hit
  obtain ⟨ol, hol, _, nl, hdl⟩ := ht
  unfold Builtin.SmallTypes.nextOf
  refine wpAny_bind (wpAny_callSpecial?_slot (name := Str.ofString "__next__") hit.typeIs F.slot_tuple_iterator_next (wpAny_call_entry F.slot_tuple_iterator_next hit.typeIs F.entry_tuple_iterator_next ?_ (F.args_tuple_iterator_next_1 _)))
  show wpAny _ _ (field (.ref it) 0 >>= _) _ _ s
  refine wpAny_bind (wpAny_field ho hd (x := .ref t) rfl ?_)
  show wpAny _ _ (if (Value.ref t == Value.none) = true then _ else _) _ _ s
  rw [if_neg (show ¬ ((Value.ref t == Value.none) = true) from Bool.false_ne_true)]
  show wpAny _ _ (field (.ref it) 1 >>= _) _ _ s
  refine wpAny_bind (wpAny_field ho hd (x := .int i 0) rfl ?_)
  show wpAny _ _ (seqItems? (.ref t) >>= _) _ _ s
  refine wpAny_bind (wpAny_seqItems hol hdl ?_)
  simp only [Int.toNat_natCast, hx]
  refine wpAny_bind (wpAny_rule (wpAny_bind (wpAny_setField ho hd (by simp) ?_)))
  refine stop_tail hh fun h' e hk he => hE h' e (fun b o hb x => hk b o ((Heap.SameBut.update ..).extBut b o hb x)) he
theorem nx_tup {fz : OH} {I ax : Addr} {items : Array Value} {m : Nat} {xs : List V} (hf : fz ax = some (tupO items m)) (hr : RepL C fz xs items.toList) : Nx C fz I xs (fun i h => h.IsTupleIter I ax i) where
  live := fun i h ⟨o, ho, _⟩ => ⟨o, ho⟩
  frame := fun i h h' ⟨o, ho, r⟩ hk => ⟨o, hk _ ho, r⟩
  item := fun A i x hx s Q E hs hl k => by
    obtain ⟨v, e1, e2⟩ := hr.get hx
    exact nextOf_tuple_item hs (hl.at hf) (x := v) (by simpa using e1) fun h' hit' hs' => k v h' s.toks hs' hit' e2
  stop := fun A hA s Q E hs hl k => nextOf_tuple_end hA hs (hl.at hf) (by have := hr.length; simp at this; simp [this]) fun h' e he' ho => k h' e he' ho

theorem nextOf_ascii_item {A : Around} {E : Value → Shared → Prop} {s : Shared} {it : Addr} {x : Str} {t : Tok} {i c : Nat} {Q : Value → Shared → Prop} (hit : s.heap.IsStrIter it "str_ascii_iterator" x t i) (hx : x.cps[i]? = some c)
    (hQ : ∀ h', h'.IsStrIter it "str_ascii_iterator" x t (i + 1) → Heap.SameBut it s.heap h' → Q (.str ⟨#[c]⟩ s.toks) { s with heap := h', toks := s.toks + 1 }) : wpAny C.M A (Builtin.SmallTypes.nextOf (.ref it)) Q E s := by
  obtain ⟨o, ho, hc, hd⟩ := id hit
  unfold Builtin.SmallTypes.nextOf
  refine wpAny_bind (wpAny_callSpecial?_slot (name := Str.ofString "__next__") hit.typeIs F.slot_str_ascii_iterator_next (wpAny_call_entry F.slot_str_ascii_iterator_next hit.typeIs F.entry_str_ascii_iterator_next ?_ (F.args_str_ascii_iterator_next_1 _)))
  show wpAny _ _ (field (.ref it) 0 >>= _) _ _ s
  refine wpAny_bind (wpAny_field ho hd (x := .str x t) rfl ?_)
  show wpAny _ _ (field (.ref it) 1 >>= _) _ _ s
  refine wpAny_bind (wpAny_field ho hd (x := .int i 0) rfl ?_)
  simp only [Int.toNat_natCast, hx]
  refine wpAny_bind (wpAny_setField ho hd (by simp) (wpAny_bind (wpAny_mkStr (wpAny_pure ⟨_, rfl, wpAny_pure (hQ _ ?_ (Heap.SameBut.update ..))⟩) (by show 1 ≤ sizeLine; decide))))
  exact ⟨_, Heap.get?_update_self _ ho (Obj.isFreed_of_fields (Obj.data_mapFields hd _)), (Obj.cls_mapFields ..).trans hc, by
    rw [Obj.data_mapFields hd]; simp [rawInt]⟩
theorem nextOf_ascii_end {A : Around} {E : Value → Shared → Prop} {s : Shared} {it : Addr} {x : Str} {t : Tok} {i : Nat} {Q : Value → Shared → Prop} (hh : A.handled = none) (hit : s.heap.IsStrIter it "str_ascii_iterator" x t i) (hx : x.cps[i]? = none)
    (hE : ∀ h' e, Heap.ExtBut it s.heap h' → (∃ o, h'.get? e = some o ∧ o.cls = .type "StopIteration") → E (.ref e) { s with heap := h' }) : wpAny C.M A (Builtin.SmallTypes.nextOf (.ref it)) Q E s := by
  obtain ⟨o, ho, hc, hd⟩ := id hit
  unfold Builtin.SmallTypes.nextOf
  refine wpAny_bind (wpAny_callSpecial?_slot (name := Str.ofString "__next__") hit.typeIs F.slot_str_ascii_iterator_next (wpAny_call_entry F.slot_str_ascii_iterator_next hit.typeIs F.entry_str_ascii_iterator_next ?_ (F.args_str_ascii_iterator_next_1 _)))
  show wpAny _ _ (field (.ref it) 0 >>= _) _ _ s
  refine wpAny_bind (wpAny_field ho hd (x := .str x t) rfl ?_)
  show wpAny _ _ (field (.ref it) 1 >>= _) _ _ s
  refine wpAny_bind (wpAny_field ho hd (x := .int i 0) rfl ?_)
  simp only [Int.toNat_natCast, hx]
  refine wpAny_bind (wpAny_rule (wpAny_bind (wpAny_setField ho hd (by simp) (wpAny_bind (wpAny_letGo ?_)))))
  refine stop_tail hh fun h' e hk he => hE h' e (fun b o hb x => hk b o ((Heap.SameBut.update ..).extBut b o hb x)) he
theorem nx_str {fz : OH} {I : Addr} {x : Str} {t : Tok} : Nx C fz I (chs x) (fun i h => h.IsStrIter I "str_ascii_iterator" x t i) where
  live := fun i h ⟨o, ho, _⟩ => ⟨o, ho⟩
  frame := fun i h h' ⟨o, ho, r⟩ hk => ⟨o, hk _ ho, r⟩
  item := fun A i v hx s Q E hs hl k => by
    obtain ⟨c, hc, rfl⟩ : ∃ c, x.cps[i]? = some c ∧ v = .str ⟨#[c]⟩ := by
      simp only [chs, List.getElem?_map, Option.map_eq_some_iff] at hx
      obtain ⟨c, e1, e2⟩ := hx
      exact ⟨c, by simpa using e1, e2.symm⟩
    exact nextOf_ascii_item hs hc fun h' hit' hs' => k _ h' (s.toks + 1) hs' hit' (.str _ _)
  stop := fun A hA s Q E hs hl k => nextOf_ascii_end hA hs (by rw [chs_len]; simp) fun h' e he' ho => k h' e he' ho

end
end Mine
end

section
open PySem PySem.Calls PySem.W PyProof.Rows
set_option maxRecDepth 100000
set_option Elab.async false
set_option linter.unusedVariables false
namespace Mine

abbrev zp1 (h : Heap) (o1 : Obj) : Heap := h.push o1
abbrev zp2 (h : Heap) (o1 o2 : Obj) : Heap := (zp1 h o1).push o2
abbrev zp3 (h : Heap) (o1 o2 : Obj) : Heap := (zp2 h o1 o2).push { cls := .type "tuple", data := .seq #[.ref h.objs.size, .ref (zp1 h o1).objs.size] }
abbrev zp4 (h : Heap) (o1 o2 : Obj) : Heap := (zp3 h o1 o2).push { cls := .type "tuple", data := .seq #[.none, .none] }
abbrev zp5 (h : Heap) (o1 o2 : Obj) : Heap := (zp4 h o1 o2).push { cls := .type "zip", data := .fields #[.none, .bool false, .bool false, .ref (zp2 h o1 o2).objs.size, .ref (zp3 h o1 o2).objs.size] }

theorem meets_zipG (a b : Value) (o1 o2 : Obj) (P1 P2 : Heap → Prop) (h1 : ∀ prog w A E (s : Shared) (Q : Value → Shared → Prop), P1 s.heap → Q (.ref s.heap.objs.size) { s with heap := s.heap.push o1 } → wpAny (model prog w) A (pyIter a) Q E s)
    (h2 : ∀ prog w A E (s : Shared) (Q : Value → Shared → Prop), P2 s.heap → Q (.ref s.heap.objs.size) { s with heap := s.heap.push o2 } → wpAny (model prog w) A (pyIter b) Q E s) (mono : ∀ h o, P2 h → P2 (h.push o)) :
    Meets (Builtin.«zip.__new__» ⟨[.type "zip", a, b], []⟩) (fun _ R s => P1 s.heap ∧ P2 s.heap ∧ R (.ok (.ret (.ref (zp4 s.heap o1 o2).objs.size))) { s with heap := zp5 s.heap o1 o2 }) :=
  .of_wp fun prog w A R s h => by
    obtain ⟨hp, g, d, tk, os⟩ := s; obtain ⟨hl1, hl2, h⟩ := h
    have hsub := sub_zip
    have k1 : ∀ A E (Q : Value → Shared → Prop), Q (.ref hp.objs.size) ⟨hp.push o1, g, d, tk, os⟩ → wpAny (model prog w) A (pyIter a) Q E ⟨hp, g, d, tk, os⟩ := fun A E Q hq => h1 prog w A E ⟨hp, g, d, tk, os⟩ Q hl1 hq
    have k2 : ∀ A E (Q : Value → Shared → Prop), Q (.ref (hp.push o1).objs.size) ⟨(hp.push o1).push o2, g, d, tk, os⟩ → wpAny (model prog w) A (pyIter b) Q E ⟨hp.push o1, g, d, tk, os⟩ := fun A E Q hq => h2 prog w A E ⟨hp.push o1, g, d, tk, os⟩ Q (mono _ _ hl2) hq
    wp_walk using k1, k2
    exact ⟨_, rfl, h⟩

/-- a zip, drawn from or not -/
def IsZ (h : Heap) (z TI TO : Addr) (f0 : Value) (b1 : Bool) : Prop := h.get? z = some { cls := .type "zip", dict := none, data := .fields #[f0, .bool b1, .bool false, .ref TI, .ref TO], slots := #[] }

section
variable {C : Cx} {n : Nat} {env : Env} {st : ST}

theorem call_zipG {A : Around} {E : Value → Shared → Prop} {s : Shared} {a b : Value} {o1 o2 : Obj} {P1 P2 : Heap → Prop} {Q : Value → Shared → Prop} (f1 : o1.isFreed = false) (f2 : o2.isFreed = false)
    (h1 : ∀ prog w A E (s : Shared) (Q : Value → Shared → Prop), P1 s.heap → Q (.ref s.heap.objs.size) { s with heap := s.heap.push o1 } → wpAny (model prog w) A (pyIter a) Q E s)
    (h2 : ∀ prog w A E (s : Shared) (Q : Value → Shared → Prop), P2 s.heap → Q (.ref s.heap.objs.size) { s with heap := s.heap.push o2 } → wpAny (model prog w) A (pyIter b) Q E s) (mono : ∀ h o, P2 h → P2 (h.push o)) (p1 : P1 s.heap) (p2 : P2 s.heap)
    (h : ∀ h', IsZ h' (s.heap.objs.size + 4) (s.heap.objs.size + 2) (s.heap.objs.size + 3) .none false → h'.get? (s.heap.objs.size + 2) = some (tupO #[.ref s.heap.objs.size, .ref (s.heap.objs.size + 1)] 0) →
      h'.get? (s.heap.objs.size + 3) = some (tupO #[.none, .none] 0) → h'.get? s.heap.objs.size = some o1 → h'.get? (s.heap.objs.size + 1) = some o2 → h'.objs.size = s.heap.objs.size + 5 →
      (∀ c o, s.heap.get? c = some o → h'.get? c = some o) → Q (.ref (s.heap.objs.size + 4)) { s with heap := h' }) :
    wpAny C.M A (call (.type "zip") [a, b]) Q E s := by
  refine callType_new F.called_zip (by decide) (F.typeCall_zip_2 _ _) (F.newCall_zip_2 _ _) (fun obj => F.args_object_init_3 obj _ _) F.entry_zip_new
    (meets_zipG a b o1 o2 P1 P2 h1 h2 mono) ⟨p1, p2, ?_⟩
  have z1 : (zp1 s.heap o1).objs.size = s.heap.objs.size + 1 := Heap.size_push ..
  have z2 : (zp2 s.heap o1 o2).objs.size = s.heap.objs.size + 2 := by rw [Heap.size_push, z1]
  have z3 : (zp3 s.heap o1 o2).objs.size = s.heap.objs.size + 3 := by rw [Heap.size_push, z2]
  have z4 : (zp4 s.heap o1 o2).objs.size = s.heap.objs.size + 4 := by rw [Heap.size_push, z3]
  have z5 : (zp5 s.heap o1 o2).objs.size = s.heap.objs.size + 5 := by rw [Heap.size_push, z4]
  have g5 : (zp5 s.heap o1 o2).get? (zp4 s.heap o1 o2).objs.size = some _ := Heap.get?_push_size _ rfl
  have g4 : (zp5 s.heap o1 o2).get? (zp3 s.heap o1 o2).objs.size = some _ := Heap.get?_push_of_some _ (Heap.get?_push_size _ rfl)
  have g3 : (zp5 s.heap o1 o2).get? (zp2 s.heap o1 o2).objs.size = some _ := Heap.get?_push_of_some _ (Heap.get?_push_of_some _ (Heap.get?_push_size _ rfl))
  have g2 : (zp5 s.heap o1 o2).get? (zp1 s.heap o1).objs.size = some _ := Heap.get?_push_of_some _ (Heap.get?_push_of_some _ (Heap.get?_push_of_some _ (Heap.get?_push_size _ f2)))
  have g1 : (zp5 s.heap o1 o2).get? s.heap.objs.size = some _ := Heap.get?_push_of_some _ (Heap.get?_push_of_some _ (Heap.get?_push_of_some _ (Heap.get?_push_of_some _ (Heap.get?_push_size _ f1))))
  show _ ∧ _
  rw [z2, z3, z4] at g5
  rw [z1, z2] at g3
  rw [z3] at g4
  rw [z1] at g2
  rw [z4]
  exact ⟨⟨_, g5, rfl⟩, h _ g5 g3 g4 g1 g2 z5 fun c o x =>
    Heap.get?_push_of_some _ (Heap.get?_push_of_some _ (Heap.get?_push_of_some _ (Heap.get?_push_of_some _ (Heap.get?_push_of_some _ x))))⟩

/-- where a zip's parts lie -/
structure ZAt (C : Cx) (fz : OH) (z TI TO i1 i2 : Addr) : Prop where
  ti : fz TI = some (tupO #[.ref i1, .ref i2] 0)
  fz1 : fz z = none
  fTO : fz TO = none
  f1 : fz i1 = none
  f2 : fz i2 = none
  TOz : TO ≠ z
  i1z : i1 ≠ z
  i2z : i2 ≠ z
  TO1 : TO ≠ i1
  TO2 : TO ≠ i2
  i12 : i1 ≠ i2

theorem LeOff {fz : OH} {h h' : Heap} {a : Addr} (hl : Le fz h.get?) (ha : fz a = none) (hs : Heap.ExtBut a h h') : Le fz h'.get? := fun b o e => hs b o (fun q => by subst q; rw [ha] at e; cases e) (hl b o e)

theorem setField_z {A : Around} {E : Value → Shared → Prop} {s : Shared} {z TI TO : Addr} {f0 x : Value} {b1 : Bool} {Q : Unit → Shared → Prop} (hz : IsZ s.heap z TI TO f0 b1) (hQ : ∀ h', IsZ h' z TI TO x b1 → Heap.SameBut z s.heap h' → Q () { s with heap := h' }) :
    wpAny C.M A (setField (.ref z) 0 x) Q E s := wpAny_setField_rec hz (by simp) fun h₁ hz₁ hs₁ => hQ h₁ hz₁ hs₁
theorem setField_z1 {A : Around} {E : Value → Shared → Prop} {s : Shared} {z TI TO : Addr} {f0 : Value} {b1 x : Bool} {Q : Unit → Shared → Prop} (hz : IsZ s.heap z TI TO f0 b1) (hQ : ∀ h', IsZ h' z TI TO f0 x → Heap.SameBut z s.heap h' → Q () { s with heap := h' }) :
    wpAny C.M A (setField (.ref z) 1 (.bool x)) Q E s := wpAny_setField_rec hz (by simp) fun h₁ hz₁ hs₁ => hQ h₁ hz₁ hs₁

abbrev offZ (z TO i1 i2 : Addr) (h h' : Heap) : Prop := ∀ c o, c ≠ z → c ≠ TO → c ≠ i1 → c ≠ i2 → h.get? c = some o → h'.get? c = some o

theorem zip_item0 {A : Around} {E : Value → Shared → Prop} {s : Shared} {fz : OH} {z TI TO i1 i2 : Addr} {S1 S2 : Nat → Heap → Prop} {xs ys : List V} {k : Nat} {x y : V} {a b : Value} {Q : Value → Shared → Prop} (Z : ZAt C fz z TI TO i1 i2)
    (N1 : Nx C fz i1 xs S1) (N2 : Nx C fz i2 ys S2) (hl : Le fz s.heap.get?) (hz : IsZ s.heap z TI TO .none false) (hTO : IsPair s.heap TO a b) (h1 : S1 k s.heap) (h2 : S2 k s.heap) (hx : xs[k]? = some x) (hy : ys[k]? = some y)
    (hQ : ∀ h' tk u v, IsZ h' z TI TO (rawInt s.heap.objs.size) false → IsPair h' TO u v → S1 (k + 1) h' → S2 (k + 1) h' → h'.get? s.heap.objs.size = some (tupO #[u, v] 0) → RepV C fz x u → RepV C fz y v → offZ z TO i1 i2 s.heap h' → Q (.ref s.heap.objs.size) { s with heap := h', toks := tk }) :
    wpAny C.M A (Builtin.«zip.__next__» ⟨[.ref z], []⟩) (fun fin s' => ∃ v, fin = .done (.ret v) ∧ Q v s') E s := by
  have hTI := hl _ _ Z.ti
  show wpAny _ _ (field (.ref z) 2 >>= _) _ _ _
  refine wpAny_bind (wpAny_field hz rfl (x := .bool false) rfl ?_)
  show wpAny _ _ (field (.ref z) 3 >>= _) _ _ _
  refine wpAny_bind (wpAny_field hz rfl (x := .ref TI) rfl ?_)
  refine wpAny_bind (wpAny_seqItems hTI rfl ?_)
  show wpAny _ _ (Builtin.SmallTypes.ownedTupleIsFree (.ref z) >>= _) _ _ _
  refine wpAny_bind ?_
  unfold Builtin.SmallTypes.ownedTupleIsFree
  refine wpAny_bind (wpAny_field hz rfl (x := .none) rfl (wpAny_pure ?_))
  simp only [if_true]
  refine wpAny_bind (wpAny_rule ?_)
  refine wpAny_bind (wpAny_field hz rfl (x := .ref TO) rfl ?_)
  refine wpAny_bind (setField_z hz fun h₁ hz₁ hs₁ => ?_)
  refine wpAny_bind ?_
  simp only [List.zipIdx_cons, List.zipIdx_nil, List.forIn_cons, List.forIn_nil]
  refine wpAny_bind (wpAny_bind (wpAny_onRaise ?_))
  show wpAny _ _ (Builtin.SmallTypes.nextOf (.ref i1) >>= _) _ _ _
  have hl₁ := LeOff hl Z.fz1 hs₁.extBut
  refine wpAny_bind (N1.item A k x hx _ _ _ (N1.frame _ _ _ h1 fun o e => hs₁.extBut _ _ Z.i1z e) hl₁ fun u h₂ tk₂ hs₂ h1₂ ru => wpAny_pure ?_)
  have hl₂ := LeOff hl₁ Z.f1 hs₂.extBut
  have hTO₂ : IsPair h₂ TO a b := hs₂.extBut _ _ Z.TO1 (hs₁.extBut _ _ Z.TOz hTO)
  refine wpAny_bind (wpAny_seqItems hTO₂ rfl ?_)
  refine wpAny_bind (wpAny_updateSeq_pair hTO₂ fun h₃ hTO₃ hs₃ => ?_)
  replace hTO₃ : IsPair h₃ TO u b := hTO₃
  have hl₃ := LeOff hl₂ Z.fTO hs₃.extBut
  refine wpAny_bind (wpAny_letGo (wpAny_pure ?_))
  refine wpAny_bind (wpAny_bind (wpAny_onRaise ?_))
  show wpAny _ _ (Builtin.SmallTypes.nextOf (.ref i2) >>= _) _ _ _
  refine wpAny_bind (N2.item A k y hy _ _ _ (N2.frame _ _ _ h2 fun o e => hs₃.extBut _ _ Z.TO2.symm (hs₂.extBut _ _ Z.i12.symm (hs₁.extBut _ _ Z.i2z e))) hl₃ fun v h₄ tk₄ hs₄ h2₄ rv => wpAny_pure ?_)
  have hTO₄ : IsPair h₄ TO u b := hs₄.extBut _ _ Z.TO2 hTO₃
  refine wpAny_bind (wpAny_seqItems hTO₄ rfl ?_)
  refine wpAny_bind (wpAny_updateSeq_pair hTO₄ fun h₅ hTO₅ hs₅ => ?_)
  replace hTO₅ : IsPair h₅ TO u v := hTO₅
  refine wpAny_bind (wpAny_letGo (wpAny_pure (wpAny_pure ?_)))
  refine wpAny_bind (wpAny_seqItems hTO₅ rfl ?_)
  refine wpAny_bind (PySem.wpAny_newTuple ?_ (by size_fits))
  have hsz : h₅.objs.size = s.heap.objs.size := by rw [hs₅.1, hs₄.1, hs₃.1, hs₂.1, hs₁.1]
  have hz₅ : IsZ h₅ z TI TO .ellipsis false := hs₅.extBut _ _ Z.TOz.symm (hs₄.extBut _ _ Z.i2z.symm (hs₃.extBut _ _ Z.TOz.symm (hs₂.extBut _ _ Z.i1z.symm hz₁)))
  have hk₅ : offZ z TO i1 i2 s.heap h₅ := fun c o c1 c2 c3 c4 e => hs₅.extBut _ _ c2 (hs₄.extBut _ _ c4 (hs₃.extBut _ _ c2 (hs₂.extBut _ _ c3 (hs₁.extBut _ _ c1 e))))
  have h1₅ : S1 (k + 1) h₅ := N1.frame _ _ _ h1₂ fun o e => hs₅.extBut _ _ Z.TO1.symm (hs₄.extBut _ _ Z.i12 (hs₃.extBut _ _ Z.TO1.symm e))
  have h2₅ : S2 (k + 1) h₅ := N2.frame _ _ _ h2₄ fun o e => hs₅.extBut _ _ Z.TO2.symm e
  have hzlt : z < h₅.objs.size := Heap.lt_size hz₅
  show wpAny _ _ (Builtin.SmallTypes.ownedTupleHandOut (.ref z) (.ref h₅.objs.size) >>= _) _ _ _
  refine wpAny_bind ?_
  unfold Builtin.SmallTypes.ownedTupleHandOut
  have hz₆ : IsZ (h₅.push { cls := .type "tuple", data := .seq #[u, v] }) z TI TO .ellipsis false := Heap.get?_push_of_some _ hz₅
  refine wpAny_bind (setField_z hz₆ fun h₇ hz₇ hs₇ => ?_)
  replace hz₇ : IsZ h₇ z TI TO (rawInt h₅.objs.size) false := hz₇
  refine setField_z1 hz₇ fun h₈ hz₈ hs₈ => ?_
  have up : ∀ c o, c ≠ z → h₅.get? c = some o → h₈.get? c = some o := fun c o c1 e => hs₈.extBut _ _ c1 (hs₇.extBut _ _ c1 (Heap.get?_push_of_some _ e))
  have hT₈ : h₈.get? h₅.objs.size = some (tupO #[u, v] 0) := hs₈.extBut _ _ (Nat.ne_of_gt hzlt) (hs₇.extBut _ _ (Nat.ne_of_gt hzlt) (Heap.get?_push_size _ rfl))
  rw [hsz] at hz₈ hT₈
  refine wpAny_pure ⟨_, rfl, ?_⟩
  show Q (.ref h₅.objs.size) _
  rw [hsz]
  exact hQ h₈ _ u v hz₈ (up _ _ Z.TOz hTO₅) (N1.frame _ _ _ h1₅ fun o e => up _ o Z.i1z e) (N2.frame _ _ _ h2₅ fun o e => up _ o Z.i2z e) hT₈ ru rv fun c o c1 c2 c3 c4 e => up c o c1 (hk₅ c o c1 c2 c3 c4 e)
end
end Mine
end

section
open PySem PySem.Calls PySem.W PyProof.Rows
set_option maxRecDepth 100000
set_option Elab.async false
set_option linter.unusedVariables false
namespace Mine
section
variable {C : Cx} {n : Nat} {env : Env} {st : ST}

theorem wpAny_loadIfAlive {M : Model} {A : Around} {E : Value → Shared → Prop} {s : Shared} {a : Addr} {Q : Option Obj → Shared → Prop} (h : Q (s.heap.get? a) s) : wpAny M A (loadIfAlive a) Q E s := fun Γ p _ => by
  unfold loadIfAlive; rw [Sem.wp_loadIfAlive]; exact h

theorem zip_item1 {A : Around} {E : Value → Shared → Prop} {s : Shared} {fz : OH} {z TI TO i1 i2 T : Addr} {oT : Obj} {b1 : Bool} {S1 S2 : Nat → Heap → Prop} {xs ys : List V} {k : Nat} {x y : V} {Q : Value → Shared → Prop} (Z : ZAt C fz z TI TO i1 i2)
    (N1 : Nx C fz i1 xs S1) (N2 : Nx C fz i2 ys S2) (hl : Le fz s.heap.get?) (hz : IsZ s.heap z TI TO (rawInt T) b1) (hT : s.heap.get? T = some oT) (h1 : S1 k s.heap) (h2 : S2 k s.heap) (hx : xs[k]? = some x) (hy : ys[k]? = some y)
    (hQ : ∀ h' tk u v, IsZ h' z TI TO (rawInt T) true → S1 (k + 1) h' → S2 (k + 1) h' → h'.get? s.heap.objs.size = some (tupO #[u, v] 0) → RepV C fz x u → RepV C fz y v → offZ z TO i1 i2 s.heap h' → Q (.ref s.heap.objs.size) { s with heap := h', toks := tk }) :
    wpAny C.M A (Builtin.«zip.__next__» ⟨[.ref z], []⟩) (fun fin s' => ∃ v, fin = .done (.ret v) ∧ Q v s') E s := by
  have hTI := hl _ _ Z.ti
  show wpAny _ _ (field (.ref z) 2 >>= _) _ _ _
  refine wpAny_bind (wpAny_field hz rfl (x := .bool false) rfl ?_)
  show wpAny _ _ (field (.ref z) 3 >>= _) _ _ _
  refine wpAny_bind (wpAny_field hz rfl (x := .ref TI) rfl ?_)
  refine wpAny_bind (wpAny_seqItems hTI rfl ?_)
  have hfree : ∀ Q' : Bool → Shared → Prop, (∀ h₁, IsZ h₁ z TI TO (rawInt T) true → Heap.SameBut z s.heap h₁ → Q' false { s with heap := h₁ }) → wpAny C.M A (Builtin.SmallTypes.ownedTupleIsFree (.ref z)) Q' E s := fun Q' go => by
    unfold Builtin.SmallTypes.ownedTupleIsFree
    refine wpAny_bind (wpAny_field hz rfl (x := rawInt T) rfl ?_)
    show wpAny _ _ (loadIfAlive (T : Int).toNat >>= _) _ _ _
    rw [Int.toNat_natCast]
    refine wpAny_bind (wpAny_loadIfAlive ?_)
    rw [hT]
    show wpAny _ _ (field (.ref z) 1 >>= _) _ _ _
    refine wpAny_bind (wpAny_field hz rfl (x := .bool b1) rfl ?_)
    cases b1 with
    | true =>
      rw [if_neg (by decide)]
      exact wpAny_pure (go s.heap hz (.refl ..))
    | false =>
      rw [if_pos (by decide)]
      refine wpAny_bind (setField_z1 hz fun h₁ hz₁ hs₁ => ?_)
      exact wpAny_pure (go h₁ hz₁ hs₁)
  show wpAny _ _ (Builtin.SmallTypes.ownedTupleIsFree (.ref z) >>= _) _ _ _
  refine wpAny_bind (hfree _ fun h₁ hz₁ hs₁ => ?_)
  simp only [Bool.false_eq_true, if_false]
  have hl₁ := LeOff hl Z.fz1 hs₁.extBut
  refine wpAny_bind ?_
  rw [← Array.forIn_toList]
  simp only [List.forIn_cons, List.forIn_nil]
  refine wpAny_bind (wpAny_bind (wpAny_holding ?_))
  show wpAny _ _ (Builtin.SmallTypes.nextOf (.ref i1) >>= _) _ _ _
  refine wpAny_bind (N1.item A k x hx _ _ _ (N1.frame _ _ _ h1 fun o e => hs₁.extBut _ _ Z.i1z e) hl₁ fun u h₂ tk₂ hs₂ h1₂ ru => wpAny_pure (wpAny_pure ?_))
  have hl₂ := LeOff hl₁ Z.f1 hs₂.extBut
  refine wpAny_bind (wpAny_bind (wpAny_holding ?_))
  show wpAny _ _ (Builtin.SmallTypes.nextOf (.ref i2) >>= _) _ _ _
  refine wpAny_bind (N2.item A k y hy _ _ _ (N2.frame _ _ _ h2 fun o e => hs₂.extBut _ _ Z.i12.symm (hs₁.extBut _ _ Z.i2z e)) hl₂ fun v h₃ tk₃ hs₃ h2₃ rv => wpAny_pure (wpAny_pure (wpAny_pure ?_)))
  refine wpAny_bind (PySem.wpAny_newTuple ?_ (by show 2 ≤ sizeLine; rw [sizeLine_eq]; decide))
  have hsz : h₃.objs.size = s.heap.objs.size := by rw [hs₃.1, hs₂.1, hs₁.1]
  refine wpAny_pure ⟨_, rfl, ?_⟩
  show Q (.ref h₃.objs.size) _
  have gT : (h₃.push { cls := .type "tuple", data := .seq #[u, v] }).get? h₃.objs.size = some (tupO #[u, v] 0) := Heap.get?_push_size _ rfl
  rw [hsz] at gT ⊢
  exact hQ _ _ u v (Heap.get?_push_of_some _ (hs₃.extBut _ _ Z.i2z.symm (hs₂.extBut _ _ Z.i1z.symm hz₁))) (N1.frame _ _ _ h1₂ fun o e => Heap.get?_push_of_some _ (hs₃.extBut _ _ Z.i12 e))
    (N2.frame _ _ _ h2₃ fun o e => Heap.get?_push_of_some _ e) gT ru rv fun c o c1 c2 c3 c4 e => Heap.get?_push_of_some _ (hs₃.extBut _ _ c4 (hs₂.extBut _ _ c3 (hs₁.extBut _ _ c1 e)))

/-- a zip that may be drawn from -/
def ZSt (h : Heap) (z TI TO : Addr) : Prop := (IsZ h z TI TO .none false ∧ ∃ a b, IsPair h TO a b) ∨ ∃ (T : Addr) (b1 : Bool) (oT : Obj), IsZ h z TI TO (rawInt T) b1 ∧ T ≠ TO ∧ h.get? T = some oT

theorem ended {l1 l2 : List V} {k : Nat} (hk : k = min l1.length l2.length) : k = l1.length ∨ ((∃ x, l1[k]? = some x) ∧ k = l2.length) := by
  by_cases h : k = l1.length
  · exact .inl h
  · have : k < l1.length := by omega
    exact .inr ⟨⟨_, List.getElem?_eq_getElem this⟩, by omega⟩

theorem zip_end0 {A : Around} {E : Value → Shared → Prop} {s : Shared} {fz : OH} {z TI TO i1 i2 : Addr} {S1 S2 : Nat → Heap → Prop} {xs ys : List V} {k : Nat} {a b : Value} {Q : Fin → Shared → Prop} (hh : A.handled = none) (Z : ZAt C fz z TI TO i1 i2)
    (N1 : Nx C fz i1 xs S1) (N2 : Nx C fz i2 ys S2) (hl : Le fz s.heap.get?) (hz : IsZ s.heap z TI TO .none false) (hTO : IsPair s.heap TO a b) (h1 : S1 k s.heap) (h2 : S2 k s.heap) (hk : k = min xs.length ys.length)
    (hE : ∀ h' e tk, offZ z TO i1 i2 s.heap h' → (∃ o, h'.get? e = some o ∧ o.cls = .type "StopIteration") → E (.ref e) { s with heap := h', toks := tk }) :
    wpAny C.M A (Builtin.«zip.__next__» ⟨[.ref z], []⟩) Q E s := by
  have hTI := hl _ _ Z.ti
  show wpAny _ _ (field (.ref z) 2 >>= _) _ _ _
  refine wpAny_bind (wpAny_field hz rfl (x := .bool false) rfl ?_)
  show wpAny _ _ (field (.ref z) 3 >>= _) _ _ _
  refine wpAny_bind (wpAny_field hz rfl (x := .ref TI) rfl ?_)
  refine wpAny_bind (wpAny_seqItems hTI rfl ?_)
  show wpAny _ _ (Builtin.SmallTypes.ownedTupleIsFree (.ref z) >>= _) _ _ _
  refine wpAny_bind ?_
  unfold Builtin.SmallTypes.ownedTupleIsFree
  refine wpAny_bind (wpAny_field hz rfl (x := .none) rfl (wpAny_pure ?_))
  simp only [if_true]
  refine wpAny_bind (wpAny_rule ?_)
  refine wpAny_bind (wpAny_field hz rfl (x := .ref TO) rfl ?_)
  refine wpAny_bind (setField_z hz fun h₁ hz₁ hs₁ => ?_)
  refine wpAny_bind ?_
  simp only [List.zipIdx_cons, List.zipIdx_nil, List.forIn_cons, List.forIn_nil]
  refine wpAny_bind (wpAny_bind (wpAny_onRaise ?_))
  show wpAny _ _ (Builtin.SmallTypes.nextOf (.ref i1) >>= _) _ _ _
  have hl₁ := LeOff hl Z.fz1 hs₁.extBut
  have h1₁ := N1.frame _ _ _ h1 fun o e => hs₁.extBut _ _ Z.i1z e
  rcases ended hk with hend | ⟨⟨x, hx⟩, hend⟩
  · subst hend
    refine wpAny_bind (N1.stop A hh _ _ _ h1₁ hl₁ fun h₂ e hs₂ he => ?_)
    obtain ⟨oe, hoe, hce⟩ := he
    have hz₂ : IsZ h₂ z TI TO .ellipsis false := hs₂ _ _ Z.i1z.symm hz₁
    have hez : e ≠ z := fun x => by subst x; rw [IsZ] at hz₂; rw [hz₂] at hoe; cases hoe; simp at hce
    refine setField_z hz₂ fun h₃ _ hs₃ => hE h₃ e _ (fun c o c1 _ c3 _ x => hs₃.extBut _ _ c1 (hs₂ _ _ c3 (hs₁.extBut _ _ c1 x))) ⟨oe, hs₃.extBut _ _ hez hoe, hce⟩
  · refine wpAny_bind (N1.item A k x hx _ _ _ h1₁ hl₁ fun u h₂ tk₂ hs₂ h1₂ ru => wpAny_pure ?_)
    have hl₂ := LeOff hl₁ Z.f1 hs₂.extBut
    have hTO₂ : IsPair h₂ TO a b := hs₂.extBut _ _ Z.TO1 (hs₁.extBut _ _ Z.TOz hTO)
    refine wpAny_bind (wpAny_seqItems hTO₂ rfl ?_)
    refine wpAny_bind (wpAny_updateSeq_pair hTO₂ fun h₃ hTO₃ hs₃ => ?_)
    have hl₃ := LeOff hl₂ Z.fTO hs₃.extBut
    refine wpAny_bind (wpAny_letGo (wpAny_pure ?_))
    refine wpAny_bind (wpAny_bind (wpAny_onRaise ?_))
    show wpAny _ _ (Builtin.SmallTypes.nextOf (.ref i2) >>= _) _ _ _
    have h2₃ := N2.frame _ _ _ h2 fun o e => hs₃.extBut _ _ Z.TO2.symm (hs₂.extBut _ _ Z.i12.symm (hs₁.extBut _ _ Z.i2z e))
    subst hend
    refine wpAny_bind (N2.stop A hh _ _ _ h2₃ hl₃ fun h₄ e hs₄ he => ?_)
    obtain ⟨oe, hoe, hce⟩ := he
    have hz₄ : IsZ h₄ z TI TO .ellipsis false := hs₄ _ _ Z.i2z.symm (hs₃.extBut _ _ Z.TOz.symm (hs₂.extBut _ _ Z.i1z.symm hz₁))
    have hez : e ≠ z := fun x => by subst x; rw [IsZ] at hz₄; rw [hz₄] at hoe; cases hoe; simp at hce
    refine setField_z hz₄ fun h₅ _ hs₅ => hE h₅ e _ (fun c o c1 c2 c3 c4 x => hs₅.extBut _ _ c1 (hs₄ _ _ c4 (hs₃.extBut _ _ c2 (hs₂.extBut _ _ c3 (hs₁.extBut _ _ c1 x))))) ⟨oe, hs₅.extBut _ _ hez hoe, hce⟩

theorem zip_end1 {A : Around} {E : Value → Shared → Prop} {s : Shared} {fz : OH} {z TI TO i1 i2 T : Addr} {oT : Obj} {b1 : Bool} {S1 S2 : Nat → Heap → Prop} {xs ys : List V} {k : Nat} {Q : Fin → Shared → Prop} (hh : A.handled = none) (Z : ZAt C fz z TI TO i1 i2)
    (N1 : Nx C fz i1 xs S1) (N2 : Nx C fz i2 ys S2) (hl : Le fz s.heap.get?) (hz : IsZ s.heap z TI TO (rawInt T) b1) (hT : s.heap.get? T = some oT) (h1 : S1 k s.heap) (h2 : S2 k s.heap) (hk : k = min xs.length ys.length)
    (hE : ∀ h' e tk, offZ z TO i1 i2 s.heap h' → (∃ o, h'.get? e = some o ∧ o.cls = .type "StopIteration") → E (.ref e) { s with heap := h', toks := tk }) :
    wpAny C.M A (Builtin.«zip.__next__» ⟨[.ref z], []⟩) Q E s := by
  have hTI := hl _ _ Z.ti
  show wpAny _ _ (field (.ref z) 2 >>= _) _ _ _
  refine wpAny_bind (wpAny_field hz rfl (x := .bool false) rfl ?_)
  show wpAny _ _ (field (.ref z) 3 >>= _) _ _ _
  refine wpAny_bind (wpAny_field hz rfl (x := .ref TI) rfl ?_)
  refine wpAny_bind (wpAny_seqItems hTI rfl ?_)
  have hfree : ∀ Q' : Bool → Shared → Prop, (∀ h₁, IsZ h₁ z TI TO (rawInt T) true → Heap.SameBut z s.heap h₁ → Q' false { s with heap := h₁ }) → wpAny C.M A (Builtin.SmallTypes.ownedTupleIsFree (.ref z)) Q' E s := fun Q' go => by
    unfold Builtin.SmallTypes.ownedTupleIsFree
    refine wpAny_bind (wpAny_field hz rfl (x := rawInt T) rfl ?_)
    show wpAny _ _ (loadIfAlive (T : Int).toNat >>= _) _ _ _
    rw [Int.toNat_natCast]
    refine wpAny_bind (wpAny_loadIfAlive ?_)
    rw [hT]
    show wpAny _ _ (field (.ref z) 1 >>= _) _ _ _
    refine wpAny_bind (wpAny_field hz rfl (x := .bool b1) rfl ?_)
    cases b1 with
    | true =>
      rw [if_neg (by decide)]
      exact wpAny_pure (go s.heap hz (.refl ..))
    | false =>
      rw [if_pos (by decide)]
      refine wpAny_bind (setField_z1 hz fun h₁ hz₁ hs₁ => ?_)
      exact wpAny_pure (go h₁ hz₁ hs₁)
  show wpAny _ _ (Builtin.SmallTypes.ownedTupleIsFree (.ref z) >>= _) _ _ _
  refine wpAny_bind (hfree _ fun h₁ hz₁ hs₁ => ?_)
  simp only [Bool.false_eq_true, if_false]
  have hl₁ := LeOff hl Z.fz1 hs₁.extBut
  refine wpAny_bind ?_
  rw [← Array.forIn_toList]
  simp only [List.forIn_cons, List.forIn_nil]
  refine wpAny_bind (wpAny_bind (wpAny_holding ?_))
  show wpAny _ _ (Builtin.SmallTypes.nextOf (.ref i1) >>= _) _ _ _
  have h1₁ := N1.frame _ _ _ h1 fun o e => hs₁.extBut _ _ Z.i1z e
  rcases ended hk with hend | ⟨⟨x, hx⟩, hend⟩
  · subst hend
    exact wpAny_bind (N1.stop A hh _ _ _ h1₁ hl₁ fun h₂ e hs₂ he => hE h₂ e _ (fun c o c1 _ c3 _ x => hs₂ _ _ c3 (hs₁.extBut _ _ c1 x)) he)
  · refine wpAny_bind (N1.item A k x hx _ _ _ h1₁ hl₁ fun u h₂ tk₂ hs₂ h1₂ ru => wpAny_pure (wpAny_pure ?_))
    have hl₂ := LeOff hl₁ Z.f1 hs₂.extBut
    refine wpAny_bind (wpAny_bind (wpAny_holding ?_))
    show wpAny _ _ (Builtin.SmallTypes.nextOf (.ref i2) >>= _) _ _ _
    have h2₃ := N2.frame _ _ _ h2 fun o e => hs₂.extBut _ _ Z.i12.symm (hs₁.extBut _ _ Z.i2z e)
    subst hend
    exact wpAny_bind (N2.stop A hh _ _ _ h2₃ hl₂ fun h₄ e hs₄ he => hE h₄ e _ (fun c o c1 c2 c3 c4 x => hs₄ _ _ c4 (hs₂.extBut _ _ c3 (hs₁.extBut _ _ c1 x))) he)

theorem IsZ.ty {s : Shared} {z TI TO : Addr} {f0 : Value} {b1 : Bool} (hz : IsZ s.heap z TI TO f0 b1) : s.TypeIs (.ref z) "zip" := ⟨_, hz, rfl⟩
theorem ZSt.ty {s : Shared} {z TI TO : Addr} (h : ZSt s.heap z TI TO) : s.TypeIs (.ref z) "zip" := by
  rcases h with ⟨h, _⟩ | ⟨_, _, _, h, _⟩ <;> exact h.ty
theorem pyNext_zip {A : Around} {s : Shared} {z : Addr} {Q : Option Value → Shared → Prop} {E : Value → Shared → Prop} (hT : s.TypeIs (.ref z) "zip")
    (h : wpAny C.M A.in1 (Builtin.«zip.__next__» ⟨[.ref z], []⟩) (fun fin s' => ∃ v, fin = .done (.ret v) ∧ Q (some v) s') (fun e s' => (∃ a o, e = .ref a ∧ s'.heap.get? a = some o ∧ o.cls = .type "StopIteration") ∧ Q none s') s) : wpAny C.M A (pyNext (.ref z)) Q E s := by
  unfold pyNext
  refine wpAny_bind (wpAny_attempt (wpAny_callSpecial?_slot (name := Str.ofString "__next__") hT F.slot_zip_next
    (wpAny_call_entry F.slot_zip_next hT F.entry_zip_next (wpAny_mono h (fun fin s' ⟨v, e, hq⟩ => ⟨v, e, wpAny_pure hq⟩) fun e s' ⟨⟨a, o, ea, ho, hc⟩, hq⟩ => ?_) (F.args_zip_next_1 _))))
  subst ea
  refine wpAny_bind (wpAny_isInstance (T := "StopIteration") (b := true) ⟨o, ho, hc⟩ isSubtype_stop ?_)
  exact wpAny_pure hq
end
end Mine
end

section
open PySem PySem.Calls PySem.W PyProof.Rows
set_option maxRecDepth 100000
set_option Elab.async false
set_option linter.unusedVariables false
namespace Mine

def zipV (l1 l2 : List V) : List V := (l1.zip l2).map fun p => .tup [p.1, p.2]
theorem zipV_len (l1 l2 : List V) : (zipV l1 l2).length = min l1.length l2.length := by simp [zipV]
theorem zipV_get {l1 l2 : List V} {i : Nat} {x : V} (h : (zipV l1 l2)[i]? = some x) : ∃ a b, l1[i]? = some a ∧ l2[i]? = some b ∧ x = .tup [a, b] := by
  simp only [zipV, List.getElem?_map, Option.map_eq_some_iff] at h
  obtain ⟨p, e1, e2⟩ := h
  obtain ⟨a, b⟩ := p
  rw [List.getElem?_zip_eq_some] at e1
  exact ⟨a, b, e1.1, e1.2, e2.symm⟩

section
variable {C : Cx} {n : Nat} {env : Env} {st : ST}

theorem offW {z TO i1 i2 : Addr} {h h' : Heap} (k : offZ z TO i1 i2 h h') : ∀ b o, b ∉ [z, TO, i1, i2] → h.get? b = some o → h'.get? b = some o := fun b o hb e => by
  simp only [List.mem_cons, List.not_mem_nil, or_false, not_or] at hb
  exact k b o hb.1 hb.2.1 hb.2.2.1 hb.2.2.2 e

theorem pyNext_item0 {A : Around} {E : Value → Shared → Prop} {s : Shared} {fz : OH} {z TI TO i1 i2 : Addr} {S1 S2 : Nat → Heap → Prop} {xs ys : List V} {k : Nat} {x y : V} {a b : Value} {Q : Option Value → Shared → Prop} (Z : ZAt C fz z TI TO i1 i2)
    (N1 : Nx C fz i1 xs S1) (N2 : Nx C fz i2 ys S2) (hl : Le fz s.heap.get?) (hz : IsZ s.heap z TI TO .none false) (hTO : IsPair s.heap TO a b) (h1 : S1 k s.heap) (h2 : S2 k s.heap) (hx : xs[k]? = some x) (hy : ys[k]? = some y)
    (hQ : ∀ h' tk u v, IsZ h' z TI TO (rawInt s.heap.objs.size) false → IsPair h' TO u v → S1 (k + 1) h' → S2 (k + 1) h' → h'.get? s.heap.objs.size = some (tupO #[u, v] 0) → RepV C fz x u → RepV C fz y v → offZ z TO i1 i2 s.heap h' → Q (some (.ref s.heap.objs.size)) { s with heap := h', toks := tk }) :
    wpAny C.M A (pyNext (.ref z)) Q E s := pyNext_zip hz.ty (zip_item0 Z N1 N2 hl hz hTO h1 h2 hx hy fun h' tk u v a1 a2 a3 a4 a5 a6 a7 a8 => hQ h' tk u v a1 a2 a3 a4 a5 a6 a7 a8)

/-- one item of a zip, however it stands -/
theorem pyNext_zip_item {A : Around} {E : Value → Shared → Prop} {s : Shared} {fz : OH} {z TI TO i1 i2 : Addr} {S1 S2 : Nat → Heap → Prop} {xs ys : List V} {k : Nat} {x y : V} {Q : Option Value → Shared → Prop} (Z : ZAt C fz z TI TO i1 i2)
    (N1 : Nx C fz i1 xs S1) (N2 : Nx C fz i2 ys S2) (hl : Le fz s.heap.get?) (hz : ZSt s.heap z TI TO) (h1 : S1 k s.heap) (h2 : S2 k s.heap) (hx : xs[k]? = some x) (hy : ys[k]? = some y)
    (hQ : ∀ h' tk u v, ZSt h' z TI TO → S1 (k + 1) h' → S2 (k + 1) h' → h'.get? s.heap.objs.size = some (tupO #[u, v] 0) → RepV C fz x u → RepV C fz y v → offZ z TO i1 i2 s.heap h' → Q (some (.ref s.heap.objs.size)) { s with heap := h', toks := tk }) :
    wpAny C.M A (pyNext (.ref z)) Q E s := by
  rcases hz with ⟨hz, a, b, hTO⟩ | ⟨T, b1, oT, hz, hne, hT⟩
  · exact pyNext_item0 Z N1 N2 hl hz hTO h1 h2 hx hy fun h' tk u v a1 a2 a3 a4 a5 a6 a7 a8 => hQ h' tk u v (.inr ⟨_, _, _, a1, (fun q => absurd (Heap.lt_size hTO) (by rw [← q]; exact Nat.lt_irrefl _)), a5⟩) a3 a4 a5 a6 a7 a8
  · refine pyNext_zip hz.ty (zip_item1 Z N1 N2 hl hz hT h1 h2 hx hy fun h' tk u v a1 a3 a4 a5 a6 a7 a8 => hQ h' tk u v (.inr ⟨T, true, ?_⟩) a3 a4 a5 a6 a7 a8)
    by_cases q : T = z ∨ T = i1 ∨ T = i2
    · rcases q with q | q | q
      · exact ⟨_, a1, hne, by rw [q]; exact a1⟩
      · obtain ⟨o, ho⟩ := N1.live _ _ a3; exact ⟨o, a1, hne, by rw [q]; exact ho⟩
      · obtain ⟨o, ho⟩ := N2.live _ _ a4; exact ⟨o, a1, hne, by rw [q]; exact ho⟩
    · simp only [not_or] at q
      exact ⟨oT, a1, hne, a8 T oT q.1 hne q.2.1 q.2.2 hT⟩
theorem pyNext_zip_end {A : Around} {E : Value → Shared → Prop} {s : Shared} {fz : OH} {z TI TO i1 i2 : Addr} {S1 S2 : Nat → Heap → Prop} {xs ys : List V} {k : Nat} {Q : Option Value → Shared → Prop} (hh : A.handled = none) (Z : ZAt C fz z TI TO i1 i2)
    (N1 : Nx C fz i1 xs S1) (N2 : Nx C fz i2 ys S2) (hl : Le fz s.heap.get?) (hz : ZSt s.heap z TI TO) (h1 : S1 k s.heap) (h2 : S2 k s.heap) (hk : k = min xs.length ys.length)
    (hQ : ∀ h' tk, offZ z TO i1 i2 s.heap h' → Q none { s with heap := h', toks := tk }) : wpAny C.M A (pyNext (.ref z)) Q E s := by
  rcases hz with ⟨hz, a, b, hTO⟩ | ⟨T, b1, oT, hz, hne, hT⟩
  · exact pyNext_zip hz.ty (zip_end0 hh Z N1 N2 hl hz hTO h1 h2 hk fun h' e tk k1 ⟨o, ho, hc⟩ => ⟨⟨e, o, rfl, ho, hc⟩, hQ h' tk k1⟩)
  · exact pyNext_zip hz.ty (zip_end1 hh Z N1 N2 hl hz hT h1 h2 hk fun h' e tk k1 ⟨o, ho, hc⟩ => ⟨⟨e, o, rfl, ho, hc⟩, hQ h' tk k1⟩)

/-- a zip under a loop that takes each pair apart -/
theorem wk_zip {fz : OH} {z TI TO i1 i2 : Addr} {S1 S2 : Nat → Heap → Prop} {xs ys : List V} {elts : List Expr} {kk : Nat} {pos : Pos} (Z : ZAt C fz z TI TO i1 i2) (N1 : Nx C fz i1 xs S1) (N2 : Nx C fz i2 ys S2) :
    Wk C fz z [z, TO, i1, i2] (zipV xs ys) (.Tuple elts kk pos) (fun i h => IsZ h z TI TO .none false ∧ (∃ a b, IsPair h TO a b) ∧ S1 i h ∧ S2 i h) where
  live := fun i h ⟨hz, ⟨a, b, hTO⟩, h1, h2⟩ c hc => by
    simp only [List.mem_cons, List.not_mem_nil, or_false] at hc
    rcases hc with rfl | rfl | rfl | rfl
    · exact ⟨_, hz⟩
    · exact ⟨_, hTO⟩
    · exact N1.live _ _ h1
    · exact N2.live _ _ h2
  frame := fun i h h' ⟨hz, ⟨a, b, hTO⟩, h1, h2⟩ _ hk => ⟨hk z (by simp) _ hz, ⟨a, b, hk TO (by simp) _ hTO⟩, N1.frame _ _ _ h1 (hk i1 (by simp)), N2.frame _ _ _ h2 (hk i2 (by simp))⟩
  item := fun A hA i x hx s Q E ⟨hz, ⟨a, b, hTO⟩, h1, h2⟩ hl k => by
    obtain ⟨p, q, hp, hq, rfl⟩ := zipV_get hx
    refine pyNext_item0 Z N1 N2 hl hz hTO h1 h2 hp hq fun h' tk u v a1 a2 a3 a4 a5 a6 a7 a8 => k _ h' tk (offW a8) fun Q' E' hq => ?_
    have lt : ∀ {c o}, s.heap.get? c = some o → s.heap.objs.size ≠ c := fun e => Nat.ne_of_gt (Heap.lt_size e)
    have hTz := lt hz
    refine wpAny_letOwnedTupleGo_zip a1 fun h2' hz' hs' => ?_
    obtain ⟨o1, ho1⟩ := N1.live _ _ h1
    obtain ⟨o2, ho2⟩ := N2.live _ _ h2
    refine hq h2' (some (s.heap.objs.size, tupO #[u, v] 0)) (fun b o hb e => hs'.extBut b o (fun q => hb (by simp [q])) e) ⟨hz', ⟨_, _, hs'.extBut _ _ Z.TOz a2⟩, N1.frame _ _ _ a3 fun o e => hs'.extBut _ _ Z.i1z e, N2.frame _ _ _ a4 fun o e => hs'.extBut _ _ Z.i2z e⟩
      ⟨Nat.le_refl _, hs'.extBut _ _ hTz a5, ?_⟩ (.tup (insH_self ..) ?_)
    · simp only [List.mem_cons, List.not_mem_nil, or_false, not_or]
      exact ⟨hTz, lt hTO, lt ho1, lt ho2⟩
    · have hn : fz s.heap.objs.size = none := by
        cases e : fz s.heap.objs.size with
        | none => rfl
        | some o => exact absurd (Heap.lt_size (hl _ _ e)) (Nat.lt_irrefl _)
      exact .cons (a6.mono (Le.ins _ hn)) (.cons (a7.mono (Le.ins _ hn)) .nil)
  done := fun A hA s Q E ⟨hz, ⟨a, b, hTO⟩, h1, h2⟩ hl k => pyNext_zip_end hA Z N1 N2 hl (.inl ⟨hz, a, b, hTO⟩) h1 h2 (by rw [zipV_len]) fun h' tk a8 => k h' tk (offW a8)
  self := fun A hA i s Q E ⟨hz, _⟩ k => wpAny_pyIter_zip hz k

/-- what a zip is made of -/
structure Src (C : Cx) (fz : OH) (v : Value) (xs : List V) (o : Obj) (P : Heap → Prop) (S : Addr → Nat → Heap → Prop) : Prop where
  f : o.isFreed = false
  it : ∀ prog w A E (s : Shared) (Q : Value → Shared → Prop), P s.heap → Q (.ref s.heap.objs.size) { s with heap := s.heap.push o } → wpAny (model prog w) A (pyIter v) Q E s
  mono : ∀ h o, P h → P (h.push o)
  of : ∀ h, Le fz h.get? → P h
  nx : ∀ I, Nx C fz I xs (S I)
  st : ∀ I h, h.get? I = some o → S I 0 h
theorem src_of {fz : OH} {v : V} {u : Value} {xs : List V} (hw : walkable v xs) (r : RepV C fz v u) : ∃ o P S, Src C fz u xs o P S := by
  cases v with
  | tup l =>
    obtain ⟨a, items, m, rfl, h1, h2⟩ := r.inv
    simp only [walkable] at hw
    subst hw
    exact ⟨{ cls := .type "tuple_iterator", data := .fields #[.ref a, .int 0 0] }, fun h => h.IsTuple a items, fun I i h => h.IsTupleIter I a i, rfl, fun prog w A E s Q p q => wpAny_pyIter_tuple p q, fun h o ⟨ob, e, x⟩ => ⟨ob, Heap.get?_push_of_some _ e, x⟩, fun h hl => hl.at h1, fun I => nx_tup h1 h2, fun I h e => ⟨_, e, rfl, rfl⟩⟩
  | lst l =>
    obtain ⟨a, items, m, rfl, h1, h2⟩ := r.inv
    simp only [walkable] at hw
    subst hw
    exact ⟨{ cls := .type "list_iterator", data := .fields #[.ref a, .int 0 0] }, fun h => h.IsList a items, fun I i h => h.IsListIter I a i, rfl, fun prog w A E s Q p q => wpAny_pyIter_list p q, fun h o ⟨ob, e, x⟩ => ⟨ob, Heap.get?_push_of_some _ e, x⟩, fun h hl => hl.atL h1, fun I => nx_lst h1 h2, fun I h e => ⟨_, e, rfl, rfl⟩⟩
  | str x =>
    obtain ⟨t, rfl⟩ := r.inv
    obtain ⟨ha, rfl⟩ := hw
    exact ⟨{ cls := .type "str_ascii_iterator", data := .fields #[.str x t, .int 0 0] }, fun _ => True, fun I i h => h.IsStrIter I "str_ascii_iterator" x t i, rfl, fun prog w A E s Q p q => wpAny_pyIter_ascii ha q, fun _ _ h => h, fun _ _ => trivial, fun I => nx_str, fun I h e => ⟨_, e, rfl, rfl⟩⟩
  | _ => exact absurd hw (by simp [walkable])

theorem frozen_new {fz : OH} {h : Heap} (hl : Le fz h.get?) {a : Addr} (ha : h.objs.size ≤ a) : fz a = none := by
  cases e : fz a with
  | none => rfl
  | some o => exact absurd (Heap.lt_size (hl _ _ e)) (Nat.not_lt.mpr ha)

theorem add_ne (n : Nat) {i j : Nat} (h : i ≠ j) : n + i ≠ n + j := by omega
/-- a zip is made -/
theorem make_zip {A : Around} {E : Value → Shared → Prop} {fz kp : OH} {s : Shared} {a b : V} {ua ub : Value} {xs ys : List V} {Q : Value → Shared → Prop} (r : Rp C fz kp env st s) (wa : walkable a xs) (wb : walkable b ys) (ra : RepV C fz a ua) (rb : RepV C fz b ub)
    (h : ∀ fz' h' z TI TO i1 i2 S1 S2, Le fz fz' → Rp C fz' kp env st { s with heap := h' } → ZAt C fz' z TI TO i1 i2 → Nx C fz' i1 xs S1 → Nx C fz' i2 ys S2 → (∀ c ∈ [z, TO, i1, i2], Free fz' kp env st.mu c) → IsZ h' z TI TO .none false → IsPair h' TO .none .none → S1 0 h' → S2 0 h' → Q (.ref z) { s with heap := h' }) :
    wpAny C.M A (call (.type "zip") [ua, ub]) Q E s := by
  obtain ⟨o1, P1, S1, c1⟩ := src_of wa ra
  obtain ⟨o2, P2, S2, c2⟩ := src_of wb rb
  refine call_zipG c1.f c2.f c1.it c2.it c2.mono (c1.of _ r.fzs) (c2.of _ r.fzs) fun h' hz hTI hTO h1 h2 hsz hk => ?_
  have ge : ∀ k, s.heap.objs.size ≤ s.heap.objs.size + k := fun k => Nat.le_add_right _ _
  obtain ⟨le, r'⟩ := r.newF s.toks hk (ge 2) hTI
  obtain ⟨o1', P1', S1', c1'⟩ := src_of wa (ra.mono le)
  have fr : ∀ k, k ≠ 2 → Free (insH fz (s.heap.objs.size + 2) (tupO #[.ref s.heap.objs.size, .ref (s.heap.objs.size + 1)] 0)) kp env st.mu (s.heap.objs.size + k) := fun k hk2 => by
    have f := r.fresh (ge k)
    exact ⟨by rw [insH_other _ _ (add_ne _ hk2)]; exact f.f, f.k, f.m, f.l⟩
  refine h _ h' (s.heap.objs.size + 4) (s.heap.objs.size + 2) (s.heap.objs.size + 3) s.heap.objs.size (s.heap.objs.size + 1) (S1 _) (S2 _) le r' ?_ ?_ ?_ ?_ hz hTO (c1.st _ _ h1) (c2.st _ _ h2)
  · exact ⟨insH_self .., (fr 4 (by decide)).f, (fr 3 (by decide)).f, (fr 0 (by decide)).f, (fr 1 (by decide)).f, add_ne _ (i := 3) (j := 4) (by decide), add_ne _ (i := 0) (j := 4) (by decide), add_ne _ (i := 1) (j := 4) (by decide), add_ne _ (i := 3) (j := 0) (by decide), add_ne _ (i := 3) (j := 1) (by decide), add_ne _ (i := 0) (j := 1) (by decide)⟩
  · have N := c1.nx s.heap.objs.size
    exact ⟨N.live, N.frame, fun A i x hx s Q E hs hl k => N.item A i x hx s Q E hs (le.trans hl) fun v h' tk a b c => k v h' tk a b (c.mono le), fun A hA s Q E hs hl k => N.stop A hA s Q E hs (le.trans hl) k⟩
  · have N := c2.nx (s.heap.objs.size + 1)
    exact ⟨N.live, N.frame, fun A i x hx s Q E hs hl k => N.item A i x hx s Q E hs (le.trans hl) fun v h' tk a b c => k v h' tk a b (c.mono le), fun A hA s Q E hs hl k => N.stop A hA s Q E hs (le.trans hl) k⟩
  · intro c hc
    simp only [List.mem_cons, List.not_mem_nil, or_false] at hc
    rcases hc with rfl | rfl | rfl | rfl
    · exact fr 4 (by decide)
    · exact fr 3 (by decide)
    · exact fr 0 (by decide)
    · exact fr 1 (by decide)
end
end Mine
end

section
open PySem PySem.Calls PySem.W PyProof.Rows
set_option maxRecDepth 100000
set_option Elab.async false
set_option linter.unusedVariables false
namespace Mine

theorem zip_no_len : typeLookup (.type "zip") "__len__" = pure none := by rw [typeLookup_type, builtinLookup_eq_fast]; kernel_rfl
theorem zip_no_hint : typeLookup (.type "zip") "__length_hint__" = pure none := by rw [typeLookup_type, builtinLookup_eq_fast]; kernel_rfl

section
variable {C : Cx} {n : Nat} {env : Env} {st : ST}

/-- a call that is walked through -/
def itc (C : Cx) (n : Nat) (env : Env) (f : Value) (avs : List V) (tgt : Expr) (st : ST) (Q : List V → ST → Prop) : Prop := ∀ fz vs, RepL C fz avs vs → ∀ A, Ok n A → ∀ kp s, Rp C fz kp env st s →
  wpAny C.M A (call f vs) (fun xv s1 => wpAny C.M A (pyIter xv) (Pit C fz kp env tgt Q)
    (fun _ _ => False) s1) (fun _ _ => False) s
theorem itr_CallT {func : Expr} {e : Expr} {rest : List Expr} {pos : Pos} {tgt : Expr} {Q : List V → ST → Prop}
    (he : eval (.Call func (e :: rest) [] pos) env = (do callWith pos (← eval func env) [] (backTo pos (starEach (e :: rest) env)) (backToKw pos (keywordEach [] env))))
    (hs : starEach (e :: rest) env = (false, eval e env) :: starEach rest env) (hp : (backTo pos (starEach rest env)).any (·.1) = false)
    (h : ev C n env func st fun fv st1 => ∃ i, fv = .val (.type i) ∧ evl C n env pos (e :: rest) st1 fun avs st2 => itc C n env (.type i) avs tgt st2 Q) : itr C n env (.Call func (e :: rest) [] pos) tgt st Q := fun fz A hA kp s r => by
  refine Call_ (wpAny_mono (h fz A hA kp s r) ?_ fun _ _ x => x) he
  rintro v s1 ⟨fz1, av, st1, le1, rv, r1, f, rfl, h1⟩
  (first | obtain ⟨_, rfl⟩ := rv.inv | obtain rfl := rv.inv)
  refine PyProof.Rows.callWith_type1 (wpAny_mono (h1 fz1 A hA kp s1 r1) ?_ fun _ _ x => x) hs hp
  rintro vs s2 ⟨fz2, avs, st2, le2, rvs, r2, h2⟩
  refine wpAny_mono (h2 fz2 vs rvs A hA kp s2 r2) (fun xv s3 h3 => wpAny_mono h3 ?_ fun _ _ x => x) fun _ _ x => x
  rintro it s4 ⟨fz', I, wr, xs, St, st', e, W, le, g1, g2, g3, g4, g5⟩
  exact ⟨fz', I, wr, xs, St, st', e, W, (le1.trans le2).trans le, g1, g2, g3, g4, g5⟩

theorem itc_zip {a b : V} {xs ys : List V} {elts : List Expr} {k : Nat} {pos : Pos} {Q : List V → ST → Prop} (wa : walkable a xs) (wb : walkable b ys) (hz : xs.length ≤ 1000) (h : Q (zipV xs ys) st) : itc C n env (.type "zip") [a, b] (.Tuple elts k pos) st Q := fun fz vs rvs A hA kp s r => by
  obtain ⟨_, _, rfl, ra, rvs⟩ := rvs.inv
  obtain ⟨_, _, rfl, rb, rvs⟩ := rvs.inv
  cases rvs
  refine make_zip r wa wb ra rb fun fz' h' z TI TO i1 i2 S1 S2 le r' Z N1 N2 hf hz hTO h1 h2 => ?_
  exact wpAny_pyIter_zip hz ⟨fz', z, _, zipV xs ys, _, st, rfl, wk_zip Z N1 N2, le, hf, ⟨hz, ⟨_, _, hTO⟩, h1, h2⟩, r', by rw [zipV_len]; omega, h⟩
theorem itc_range {m : Nat} {tgt : Expr} {Q : List V → ST → Prop} (hm : m ≤ 1000) (h : Q (intsV m) st) : itc C n env (.type "range") [.int m] tgt st Q := fun fz vs rvs A hA kp s r => by
  obtain ⟨_, _, rfl, ra, rvs⟩ := rvs.inv
  cases rvs
  obtain ⟨t, rfl⟩ := ra.inv
  refine call_range_1 ?_
  have r1 : Rp C fz kp env st { s with heap := s.heap.push { cls := .type "range", data := .fields #[.int 0 s.toks, .int m t, .int 1 (s.toks + 1)] }, toks := s.toks + 1 + 1 } := r.ext _ fun b o e => Heap.get?_push_of_some _ e
  have hsz : Builtin.Range.rangeSize 0 (m : Int) 1 = m := by
    unfold Builtin.Range.rangeSize
    rcases Nat.eq_zero_or_pos m with e | e
    · subst e; rfl
    · simp; omega
  have fits : ∀ i : Int, -1 ≤ i → i ≤ 1001 → Builtin.Range.rangeFitsLong i = true := fun i a b => by
    simp [Builtin.Range.rangeFitsLong]; omega
  refine wpAny_pyIter_range (IsRange.new ..) ?_ ?_
  · unfold Builtin.Range.small
    rw [hsz]
    simp only [fits 0 (by omega) (by omega), fits m (by omega) (by omega), fits 1 (by omega) (by omega), Bool.true_and, Bool.and_self]
    have := fits (m : Int) (by omega) (by omega)
    simp [this]
  · rw [hsz]
    have fr := r1.fresh (Nat.le_refl _)
    refine ⟨fz, _, _, intsV m, _, st, rfl, wk_range (m := m), Le.refl _, fun b hb => by rw [List.mem_singleton] at hb; subst hb; exact fr, ?_, r1.ext _ fun b o e => Heap.get?_push_of_some _ e, by simp [intsV]; exact hm, h⟩
    have := Heap.get?_push_size (s.heap.push { cls := .type "range", data := .fields #[.int 0 s.toks, .int m t, .int 1 (s.toks + 1)] }) (o := { cls := .type "range_iterator", data := .fields #[rawInt 0, rawInt m, rawInt 1] }) rfl
    simpa using this

theorem Free.ins {fz kp : OH} {mu : Mu} {b a : Addr} {o : Obj} (h : Free fz kp env mu b) (hn : b ≠ a) : Free (insH fz a o) kp env mu b := ⟨by rw [insH_other _ _ hn]; exact h.f, h.k, h.m, h.l⟩

theorem drop_get {α : Type} {l : List α} {k : Nat} {x : α} (h : l[k]? = some x) : l.drop k = x :: l.drop (k + 1) := by
  obtain ⟨h1, h2⟩ := List.getElem?_eq_some_iff.mp h
  rw [List.drop_eq_getElem_cons h1, h2]

theorem extend_zip {R : Result → Shared → Prop} {A : Around} {fz0 kp : OH} {z TI TO i1 i2 S : Addr} {S1 S2 : Nat → Heap → Prop} {xs ys : List V} {res : Value} (hh : A.handled = none) (Z : ZAt C fz0 z TI TO i1 i2) (N1 : Nx C fz0 i1 xs S1) (N2 : Nx C fz0 i2 ys S2)
    (hz : xs.length ≤ 1000) (hS : S ∉ [z, TO, i1, i2])
    (hR : ∀ fz s', Le fz0 fz → Rp C fz kp env st s' → Free fz kp env st.mu S → (∃ us c, s'.heap.get? S = some (lstO us c) ∧ RepL C fz (zipV xs ys) us.toList) → R (.ok (.ret res)) s') :
    ∀ (j k : Nat) (fz : OH) (s : Shared) (us : Array Value) (c : Nat), (zipV xs ys).length - k = j → k ≤ (zipV xs ys).length → Le fz0 fz → Rp C fz kp env st s → (∀ b ∈ [z, TO, i1, i2], Free fz kp env st.mu b) → Free fz kp env st.mu S → ZSt s.heap z TI TO → TO < s.heap.objs.size → S1 k s.heap → S2 k s.heap →
      s.heap.get? S = some (lstO us c) → RepL C fz ((zipV xs ys).take k) us.toList →
      codeAny C.M A (.builtin "list.extend.loop" ⟨[.ref S, .ref z, res], []⟩) R s := by
  intro j
  induction j with
  | zero =>
    intro k fz s us c hj hk le r hf fS hzs hTO h1 h2 ho hr
    have hin : k = (zipV xs ys).length := by omega
    refine codeAny_builtin F.entry_extend_loop ?_
    rw [Around.under_plainId F.plain_extend_loop _]
    show wpAny _ A.in1 (pyNext (.ref z) >>= _) _ _ s
    refine wpAny_bind (pyNext_zip_end hh Z N1 N2 (le.trans r.fzs) hzs h1 h2 (by rw [hin, zipV_len]) fun h' tk k8 => wpAny_pure ?_)
    refine hR fz _ le (r.off tk hf (offW k8)) fS ⟨us, c, offW k8 _ _ hS ho, ?_⟩
    rw [hin, List.take_length] at hr; exact hr
  | succ j ih =>
    intro k fz s us c hj hk le r hf fS hzs hTO h1 h2 ho hr
    have hlt : k < (zipV xs ys).length := by omega
    obtain ⟨x, y, hx, hy, hxy⟩ := zipV_get (List.getElem?_eq_getElem hlt)
    refine codeAny_builtin F.entry_extend_loop ?_
    rw [Around.under_plainId F.plain_extend_loop _]
    show wpAny _ A.in1 (pyNext (.ref z) >>= _) _ _ s
    refine wpAny_bind (pyNext_zip_item Z N1 N2 (le.trans r.fzs) hzs h1 h2 hx hy fun h' tk u v a1 a3 a4 a5 a6 a7 a8 => ?_)
    have r1 : Rp C fz kp env st { s with heap := h', toks := tk } := r.off tk hf (offW a8)
    have fn := r.fresh (Nat.le_refl _)
    have lt : ∀ {c o}, s.heap.get? c = some o → c ≠ s.heap.objs.size := fun e => Nat.ne_of_lt (Heap.lt_size e)
    have r2 := r1.addF a5 fn.f fn.k fn.m fn.l
    have le2 : Le fz (insH fz s.heap.objs.size (tupO #[u, v] 0)) := Le.ins _ fn.f
    have ne : ∀ b ∈ [z, TO, i1, i2], b ≠ s.heap.objs.size := fun b hb => by
      simp only [List.mem_cons, List.not_mem_nil, or_false] at hb
      rcases hb with rfl | rfl | rfl | rfl
      · rcases hzs with ⟨q, _⟩ | ⟨_, _, _, q, _⟩ <;> exact lt q
      · exact Nat.ne_of_lt hTO
      · obtain ⟨_, q⟩ := N1.live _ _ h1; exact lt q
      · obtain ⟨_, q⟩ := N2.live _ _ h2; exact lt q
    have ho1 := offW a8 _ _ hS ho
    have hlen := hr.size
    rw [List.length_take] at hlen
    have hzl := zipV_len xs ys
    show wpAny _ A.in1 (updateSeq S (·.push (.ref s.heap.objs.size)) >>= _) _ _ _
    refine wpAny_bind (wpAny_updateSeq ho1 rfl (wpAny_pure ⟨plainId_quiet F.plain_extend_loop _, ?_⟩) (by rw [sizeLine_eq]; omega) (by show (us.push _).size ≤ sizeLine + 1; rw [Array.size_push, sizeLine_eq]; omega))
    have oth : ∀ b o, b ≠ S → h'.get? b = some o → (h'.update S (Obj.mapSeq (·.push (.ref s.heap.objs.size)))).get? b = some o := fun b o hb e => (Heap.get?_update_other _ _ (Ne.symm hb)).trans e
    have hSz : ∀ b ∈ [z, TO, i1, i2], b ≠ S := fun b hb q => hS (q ▸ hb)
    refine ih (k + 1) _ _ (us.push (.ref s.heap.objs.size)) _ (by omega) hlt (le.trans le2) (r2.off (wr := [S]) tk (fun b hb => by rw [List.mem_singleton] at hb; subst hb; exact fS.ins (lt ho)) fun b o hb e => oth b o (fun q => hb (by simp [q])) e)
      (fun b hb => (hf b hb).ins (ne b hb)) (fS.ins (lt ho)) ?_ ?_ (N1.frame _ _ _ a3 fun o e => oth _ _ (hSz i1 (by simp)) e) (N2.frame _ _ _ a4 fun o e => oth _ _ (hSz i2 (by simp)) e) (Heap.get?_update_self (Obj.mapSeq (·.push (.ref s.heap.objs.size))) ho1 rfl) ?_
    · rcases a1 with ⟨q, a, b, q'⟩ | ⟨T, b1, oT, q, q', q''⟩
      · exact .inl ⟨oth _ _ (hSz z (by simp)) q, a, b, oth _ _ (hSz TO (by simp)) q'⟩
      · by_cases e : T = S
        · subst e; exact .inr ⟨T, b1, _, oth _ _ (hSz z (by simp)) q, q', Heap.get?_update_self _ ho1 rfl⟩
        · exact .inr ⟨T, b1, oT, oth _ _ (hSz z (by simp)) q, q', oth _ _ e q''⟩
    · exact Nat.lt_of_lt_of_eq (Nat.lt_trans hTO (Heap.lt_size a5)) (Heap.SameBut.update (h := h') (a := S) ..).1.symm
    · rw [List.take_add_one, List.getElem?_eq_getElem hlt, Array.toList_push, hxy]
      exact (hr.mono le2).append (.cons (.tup (insH_self ..) (.cons (a6.mono (le.trans le2)) (.cons (a7.mono (le.trans le2)) .nil))) .nil)

/-- list(zip(a, b)), evaluated as one -/
theorem list_zip {A : Around} {fz0 kp : OH} {s : Shared} {z TI TO i1 i2 : Addr} {S1 S2 : Nat → Heap → Prop} {xs ys : List V} {Q : Value → Shared → Prop} {E : Value → Shared → Prop} (hh : A.handled = none) (Z : ZAt C fz0 z TI TO i1 i2) (N1 : Nx C fz0 i1 xs S1) (N2 : Nx C fz0 i2 ys S2)
    (hz : xs.length ≤ 1000) (r : Rp C fz0 kp env st s) (hf : ∀ b ∈ [z, TO, i1, i2], Free fz0 kp env st.mu b) (hzs : IsZ s.heap z TI TO .none false) (hTO : IsPair s.heap TO .none .none) (h1 : S1 0 s.heap) (h2 : S2 0 s.heap)
    (hQ : ∀ fz s' v, Le fz0 fz → Rp C fz kp env st s' → RepV C fz (.lst (zipV xs ys)) v → Q v s') : wpAny C.M A (call (.type "list") [.ref z]) Q E s := by
  refine callType_codes (Q₁ := fun obj s₁ => obj = .ref s.heap.objs.size ∧ s₁ = { s with heap := s.heap.push { cls := .type "list", data := .seq #[] } }) F.called_list (F.typeCall_list_1 _) F.entry_list_init
    (code_list_new _ ⟨rfl, rfl⟩) fun obj s₁ h₁ => ?_
  obtain ⟨rfl, rfl⟩ := h₁
  have hS : (s.heap.push { cls := .type "list", data := .seq #[] }).get? s.heap.objs.size = some { cls := .type "list", data := .seq #[] } := Heap.get?_push_size _ rfl
  refine ⟨⟨_, hS, rfl⟩, F.args_list_init_2 _ _, ?_⟩
  have lt : ∀ {c o}, s.heap.get? c = some o → c ≠ s.heap.objs.size := fun e => Nat.ne_of_lt (Heap.lt_size e)
  have ne : ∀ b ∈ [z, TO, i1, i2], b ≠ s.heap.objs.size := fun b hb => by
    simp only [List.mem_cons, List.not_mem_nil, or_false] at hb
    rcases hb with rfl | rfl | rfl | rfl
    · exact lt hzs
    · exact lt hTO
    · obtain ⟨_, q⟩ := N1.live _ _ h1; exact lt q
    · obtain ⟨_, q⟩ := N2.live _ _ h2; exact lt q
  have hSw : s.heap.objs.size ∉ [z, TO, i1, i2] := fun hb => ne _ hb rfl
  have hSz : s.heap.objs.size ≠ z := Ne.symm (ne z (by simp))
  have fS := r.fresh (Nat.le_refl _)
  have up : ∀ b o, s.heap.get? b = some o → (s.heap.push { cls := .type "list", data := .seq #[] }).get? b = some o := fun b o e => Heap.get?_push_of_some _ e
  show wpAny _ A.in1.in1 (do let old ← Builtin.List.listItems (.ref s.heap.objs.size); Builtin.List.listUpdate (.ref s.heap.objs.size) (fun _ => #[]); letGo old.toList.reverse; Builtin.List.listExtendWith (.ref s.heap.objs.size) (.ref z) .none) _ _ _
  refine wpAny_bind ?_
  unfold Builtin.List.listItems
  refine wpAny_bind (wpAny_seqItems hS rfl (wpAny_pure ?_))
  show wpAny _ A.in1.in1 (updateSeq s.heap.objs.size (fun _ => #[]) >>= fun _ => letGo (#[] : Array Value).toList.reverse >>= fun _ => Builtin.List.listExtendWith (.ref s.heap.objs.size) (.ref z) .none) _ _ _
  refine wpAny_bind (wpAny_updateSeq hS rfl ?_)
  have hS₂ := Heap.get?_update_self (Obj.mapSeq (fun _ => (#[] : Array Value))) hS rfl
  refine wpAny_bind (wpAny_letGo ?_)
  unfold Builtin.List.listExtendWith
  generalize hH : (s.heap.push { cls := .type "list", data := .seq #[] }).update s.heap.objs.size (Obj.mapSeq (fun _ => (#[] : Array Value))) = H at hS₂
  have oth : ∀ b o, b ≠ s.heap.objs.size → s.heap.get? b = some o → H.get? b = some o := fun b o hb e => by
    rw [← hH]; exact (Heap.get?_update_other _ _ (Ne.symm hb)).trans (up b o e)
  have hzH : IsZ H z TI TO .none false := oth _ _ (Ne.symm hSz) hzs
  have hT : ∀ (h : Heap), IsZ h z TI TO .none false → ({ s with heap := h } : Shared).TypeIs (.ref z) "zip" := fun h q => ⟨_, q, rfl⟩
  show wpAny _ A.in1.in1 (typeOf (.ref z) >>= _) _ _ { s with heap := H }
  refine wpAny_bind (wpAny_typeOf (hT H hzH) ?_)
  have g1 : Builtin.List.listSameRef (.ref s.heap.objs.size) (.ref z) = false := by simp [Builtin.List.listSameRef, hSz]
  have g2 : (Value.type "zip" == Value.type "list") = false := by decide
  have g3 : (Value.type "zip" == Value.type "tuple") = false := by decide
  simp only [g1, g2, g3, Bool.or_false, Bool.false_eq_true, if_false]
  refine wpAny_bind (wpAny_pyIter_zip hzH ?_)
  refine wpAny_bind (wpAny_holding ?_)
  unfold Builtin.List.listLengthHint
  refine wpAny_bind (wpAny_specialOf (hT H hzH) zip_no_len ?_)
  show wpAny _ A.in1.in1 (specialOf (Value.ref z) (Str.ofString "__length_hint__") >>= _) _ _ _
  refine wpAny_bind (wpAny_specialOf (hT H hzH) zip_no_hint ?_)
  refine wpAny_pure ?_
  show wpAny _ A.in1.in1 (rule "list.extend.makes-room" >>= fun _ => Builtin.List.listTouch (.ref s.heap.objs.size) >>= fun _ =>
    again (.builtin "list.extend.loop" ⟨[.ref s.heap.objs.size, .ref z, .none], []⟩)) _ _ _
  refine wpAny_bind (wpAny_rule ?_)
  refine wpAny_bind ?_
  show wpAny _ A.in1.in1 (updateSeq s.heap.objs.size (·.push .none) >>= fun _ => updateSeq s.heap.objs.size (·.pop)) _ _ _
  refine wpAny_bind (wpAny_updateSeq hS₂ rfl ?_)
  have hS₃ := Heap.get?_update_self (Obj.mapSeq (·.push Value.none)) hS₂ rfl
  refine wpAny_updateSeq (hz := by seq_fits) hS₃ rfl ?_
  have hS₄ := Heap.get?_update_self (Obj.mapSeq (·.pop)) hS₃ rfl
  have oth' : ∀ b o, b ≠ s.heap.objs.size → s.heap.get? b = some o → ((H.update s.heap.objs.size (Obj.mapSeq (·.push Value.none))).update s.heap.objs.size (Obj.mapSeq (·.pop))).get? b = some o := fun b o hb e =>
    (Heap.get?_update_other _ _ (Ne.symm hb)).trans ((Heap.get?_update_other _ _ (Ne.symm hb)).trans (oth b o hb e))
  refine wpAny_pure ⟨plainId_quiet F.plain_extend_loop _, ?_⟩
  refine extend_zip (A := A.in1) (kp := kp) (env := env) (st := st) (S := s.heap.objs.size) hh Z N1 N2 hz hSw (fun fz s' le r' fS' ⟨us, c, ho, hr⟩ => ⟨rfl, hQ _ s' (.ref s.heap.objs.size) (le.trans (Le.ins _ fS'.f)) (r'.addF ho fS'.f fS'.k fS'.m fS'.l) (.lst (insH_self ..) (hr.mono (Le.ins _ fS'.f)))⟩) (zipV xs ys).length 0 fz0 _ #[] _ (by omega) (Nat.zero_le _) (Le.refl _)
    (r.off (wr := [s.heap.objs.size]) s.toks (fun b hb => by rw [List.mem_singleton] at hb; subst hb; exact fS) fun b o hb e => oth' b o (fun q => hb (by simp [q])) e) hf fS (.inl ⟨oth' _ _ (Ne.symm hSz) hzs, _, _, oth' _ _ (ne TO (by simp)) hTO⟩) ?_
    (N1.frame _ _ _ h1 fun o e => oth' _ _ (ne i1 (by simp)) e) (N2.frame _ _ _ h2 fun o e => oth' _ _ (ne i2 (by simp)) e) hS₄ .nil
  exact Heap.lt_size (oth' _ _ (ne TO (by simp)) hTO)

/-- a call whose one argument is a zip -/
theorem ev_OfZip {func zf a b : Expr} {pos zpos : Pos} {T : String} {Q : V → ST → Prop} {res : List V → List V → V} {ok : List V → List V → Prop}
    (he : eval (.Call func [.Call zf [a, b] [] zpos] [] pos) env = (do callWith pos (← eval func env) [] (backTo pos (starEach [.Call zf [a, b] [] zpos] env)) (backToKw pos (keywordEach [] env))))
    (hs : starEach [.Call zf [a, b] [] zpos] env = (false, eval (.Call zf [a, b] [] zpos) env) :: starEach [] env) (hp : (backTo pos (starEach [] env)).any (·.1) = false)
    (he' : eval (.Call zf [a, b] [] zpos) env = (do callWith zpos (← eval zf env) [] (backTo zpos (starEach [a, b] env)) (backToKw zpos (keywordEach [] env))))
    (hs' : starEach [a, b] env = (false, eval a env) :: starEach [b] env) (hp' : (backTo zpos (starEach [b] env)).any (·.1) = false)
    (hT : ∀ {A : Around} {fz0 kp : OH} {s : Shared} {st : ST} {z TI TO i1 i2 : Addr} {S1 S2 : Nat → Heap → Prop} {xs ys : List V} {Q : Value → Shared → Prop}, A.handled = none → ok xs ys → ZAt C fz0 z TI TO i1 i2 → Nx C fz0 i1 xs S1 → Nx C fz0 i2 ys S2 →
      xs.length ≤ 1000 → Rp C fz0 kp env st s → (∀ b ∈ [z, TO, i1, i2], Free fz0 kp env st.mu b) → IsZ s.heap z TI TO .none false → IsPair s.heap TO .none .none → S1 0 s.heap → S2 0 s.heap →
      (∀ fz s' v, Le fz0 fz → Rp C fz kp env st s' → RepV C fz (res xs ys) v → Q v s') → wpAny C.M A (call (.type T) [.ref z]) Q (fun _ _ => False) s)
    (h : ev C n env func st fun fv st1 => fv = .val (.type T) ∧ ev C n env zf st1 fun zv st2 => zv = .val (.type "zip") ∧ evl C n env zpos [a, b] st2 fun avs st3 => ∃ av bv xs ys, avs = [av, bv] ∧ walkable av xs ∧ walkable bv ys ∧ ok xs ys ∧ xs.length ≤ 1000 ∧ Q (res xs ys) st3) :
    ev C n env (.Call func [.Call zf [a, b] [] zpos] [] pos) st Q := fun fz A hA kp s r => by
  refine Call_ (wpAny_mono (h fz A hA kp s r) ?_ fun _ _ x => x) he
  rintro v s1 ⟨fz1, av, st1, le1, rv, r1, rfl, h1⟩
  (first | obtain ⟨_, rfl⟩ := rv.inv | obtain rfl := rv.inv)
  refine PyProof.Rows.callWith_type1 (args_cons (Call_ (wpAny_mono (h1 fz1 A hA kp s1 r1) ?_ fun _ _ x => x) he') hs) hs hp
  rintro zv s2 ⟨fz2, zv', st2, le2, rz, r2, rfl, h2⟩
  cases rz
  refine PyProof.Rows.callWith_type1 (wpAny_mono (h2 fz2 A hA kp s2 r2) ?_ fun _ _ x => x) hs' hp'
  rintro vs s3 ⟨fz3, avs, st3, le3, rvs, r3, xa, xb, xs, ys, rfl, wa, wb, hok, hz, hq⟩
  obtain ⟨_, _, rfl, ra, rvs⟩ := rvs.inv
  obtain ⟨_, _, rfl, rb, rvs⟩ := rvs.inv
  cases rvs
  refine make_zip r3 wa wb ra rb fun fz4 h' z TI TO i1 i2 S1 S2 le4 r4 Z N1 N2 hf hz' hTO h1' h2' => ?_
  refine args_nil ?_
  refine hT hA.1 hok Z N1 N2 hz r4 hf hz' hTO h1' h2' fun fz5 s5 v5 le5 r5 rv5 => ?_
  exact ⟨fz5, _, st3, (((le1.trans le2).trans le3).trans le4).trans le5, rv5, r5, hq⟩
end
end Mine
end

section
open PySem PySem.Calls PySem.W PyProof.Rows
set_option maxRecDepth 100000
set_option Elab.async false
set_option linter.unusedVariables false
namespace Mine
theorem zip_keys : typeLookup (.type "zip") "keys" = pure none := by rw [typeLookup_type, builtinLookup_eq_fast]; kernel_rfl
theorem entry_zip_ga : entryFor table "zip.__getattribute__" = some Builtin.«object.__getattribute__» :=
  entryFor_alias (id' := "object.__getattribute__") (by kernel_rfl) (by first | rfl | decide +kernel) (by decide +kernel) (by kernel_rfl)
theorem zip_no_ga : typeLookup (.type "zip") "__getattr__" = pure none := by rw [typeLookup_type, builtinLookup_eq_fast]; kernel_rfl

theorem meets_keys_zip (a : Addr) (vs : Array Value) (u : Tok) :
    Meets (Builtin.«object.__getattribute__» ⟨[.ref a, .str "keys" u], []⟩) (fun A R s => s.heap.get? a = some { cls := .type "zip", dict := none, data := .fields vs, slots := #[] } ∧ raisesAttr (.ref a) "keys" A R s) :=
  Meets.of_wp fun prog w A R s hs => by
    obtain ⟨hp, g, d, tk, os⟩ := s
    obtain ⟨hx, hs⟩ := hs
    have hT : (⟨hp, g, d, tk, os⟩ : Shared).TypeIs (.ref a) "zip" := ⟨_, hx, rfl⟩
    have f4 := zip_keys
    unfold Builtin.«object.__getattribute__»
    repeat (any_goals (first | assumption | wp_step))
    exact wpAny_raiseAttrError hs.1 hs.2 (by decide +kernel)

theorem getAttr?_keys {prog : Program} {w : World} {A : Around} {E : Value → Shared → Prop} {s : Shared} {a : Addr} {vs : Array Value} {Q : Option Value → Shared → Prop} (hA : A.handled = none)
    (hx : s.heap.get? a = some { cls := .type "zip", dict := none, data := .fields vs, slots := #[] })
    (h : ∀ h' tk, (∀ b o, s.heap.get? b = some o → h'.get? b = some o) → Q none { s with heap := h', toks := tk }) :
    wpAny (model prog w) A (getAttr? (.ref a) "keys") Q E s := by
  obtain ⟨hp, g, d, tk, os⟩ := s
  have hT : ∀ tk', (⟨hp, g, d, tk', os⟩ : Shared).TypeIs (.ref a) "zip" := fun _ => ⟨_, hx, rfl⟩
  have f1 := sub_AttributeError
  have f3 := F.slot_zip_getattribute.lookup
  have f4 := F.slot_zip_getattribute.bind (.ref a)
  have f5 := zip_no_ga
  unfold getAttr? getAttrBy? getAttrBy
  repeat (any_goals (first | assumption | exact hT _ | ((with_reducible show wpAny _ _ (call (Value.builtin "zip.__getattribute__") _ _) _ _ _); refine call_meets F.slot_zip_getattribute (hT _) entry_zip_ga (F.args_zip_getattribute_2 _ _) (meets_keys_zip a vs _) ⟨hx, hA, fun h' tk' e hx' => ?_⟩) | wp_step))
  obtain ⟨t', u', he⟩ := hx'.there
  show wpAny _ _ (getattributeRaised _ _ _ _ _ _ _) _ _ _
  unfold getattributeRaised
  repeat (any_goals (first | assumption | wp_step))
  exact h _ _ hx'.keeps

theorem entry_update_loop : entryFor table "dict.update.loop" = some Builtin.«dict.update.loop» := entryFor_of_fast (by kernel_rfl)
theorem plain_update_loop : plainId "dict.update.loop" = true := by decide +kernel

def dz (xs ys : List V) : List (Str × V) := (xs.zip ys).foldl (fun l p => match p.1 with | .str k => stoD l k p.2 | _ => l) []

section
variable {C : Cx} {n : Nat} {env : Env} {st : ST}

theorem update_zip {R : Result → Shared → Prop} {A : Around} {fz0 kp : OH} {z TI TO i1 i2 D : Addr} {S1 S2 : Nat → Heap → Prop} {xs ys : List V} (hh : A.handled = none) (Z : ZAt C fz0 z TI TO i1 i2) (N1 : Nx C fz0 i1 xs S1) (N2 : Nx C fz0 i2 ys S2)
    (hz : xs.length ≤ 1000) (hstr : ∀ x ∈ xs, ∃ k, x = .str k) (hD : D ∉ [z, TO, i1, i2])
    (hR : ∀ fz s', Le fz0 fz → Rp C fz kp env st s' → Free fz kp env st.mu D → (∃ kvs, s'.heap.DictOf (strKind C.prog C.w) D kvs ∧ RepD C fz (dz xs ys) kvs) → R (.ok (.ret .none)) s') :
    ∀ (j k : Nat) (fz : OH) (s : Shared) (kvs : List (Str × Value)), (zipV xs ys).length - k = j → k ≤ (zipV xs ys).length → Le fz0 fz → Rp C fz kp env st s → (∀ b ∈ [z, TO, i1, i2], Free fz kp env st.mu b) → Free fz kp env st.mu D → ZSt s.heap z TI TO → TO < s.heap.objs.size → S1 k s.heap → S2 k s.heap →
      s.heap.DictOf (strKind C.prog C.w) D kvs → kvs.length ≤ k → RepD C fz (((xs.zip ys).take k).foldl (fun l p => match p.1 with | .str k => stoD l k p.2 | _ => l) []) kvs →
      codeAny C.M A (.builtin "dict.update.loop" ⟨[.ref D, .ref z, rawInt k, .none], []⟩) R s := by
  intro j
  have hzl := zipV_len xs ys
  have hzip : (xs.zip ys).length = min xs.length ys.length := by simp
  induction j with
  | zero =>
    intro k fz s kvs hj hk le r hf fD hzs hTO h1 h2 ho hkl hr
    have hin : k = (zipV xs ys).length := by omega
    refine codeAny_builtin entry_update_loop ?_
    rw [Around.under_plainId plain_update_loop _]
    show wpAny _ A.in1 (pyNext (.ref z) >>= _) _ _ s
    refine wpAny_bind (pyNext_zip_end hh Z N1 N2 (le.trans r.fzs) hzs h1 h2 (by rw [hin, zipV_len]) fun h' tk k8 => ?_)
    show wpAny _ _ (Builtin.Dict.addKeywords D [] >>= _) _ _ _
    refine wpAny_bind (wpAny_pure (wpAny_pure ?_))
    refine hR fz _ le (r.off tk hf (offW k8)) fD ⟨kvs, ?_, ?_⟩
    · obtain ⟨o, ho1, ho2⟩ := Heap.dictOf_iff.mp ho
      exact Heap.dictOf_iff.mpr ⟨o, offW k8 _ _ hD ho1, ho2⟩
    · rw [hin, hzl, ← hzip, List.take_length] at hr; exact hr
  | succ j ih =>
    intro k fz s kvs hj hk le r hf fD hzs hTO h1 h2 ho hkl hr
    have hlt : k < (zipV xs ys).length := by omega
    obtain ⟨x, y, hx, hy, hxy⟩ := zipV_get (List.getElem?_eq_getElem hlt)
    obtain ⟨kx, rfl⟩ := hstr x (List.mem_of_getElem? hx)
    have hxz : (xs.zip ys)[k]? = some (.str kx, y) := List.getElem?_zip_eq_some.mpr ⟨hx, hy⟩
    refine codeAny_builtin entry_update_loop ?_
    rw [Around.under_plainId plain_update_loop _]
    show wpAny _ A.in1 (pyNext (.ref z) >>= _) _ _ s
    refine wpAny_bind (pyNext_zip_item Z N1 N2 (le.trans r.fzs) hzs h1 h2 hx hy fun h' tk u v a1 a3 a4 a5 a6 a7 a8 => ?_)
    have r1 : Rp C fz kp env st { s with heap := h', toks := tk } := r.off tk hf (offW a8)
    have fn := r.fresh (Nat.le_refl _)
    have lt : ∀ {c o}, s.heap.get? c = some o → c ≠ s.heap.objs.size := fun e => Nat.ne_of_lt (Heap.lt_size e)
    have r2 := r1.addF a5 fn.f fn.k fn.m fn.l
    have le2 : Le fz (insH fz s.heap.objs.size (tupO #[u, v] 0)) := Le.ins _ fn.f
    have ne : ∀ b ∈ [z, TO, i1, i2], b ≠ s.heap.objs.size := fun b hb => by
      simp only [List.mem_cons, List.not_mem_nil, or_false] at hb
      rcases hb with rfl | rfl | rfl | rfl
      · rcases hzs with ⟨q, _⟩ | ⟨_, _, _, q, _⟩ <;> exact lt q
      · exact Nat.ne_of_lt hTO
      · obtain ⟨_, q⟩ := N1.live _ _ h1; exact lt q
      · obtain ⟨_, q⟩ := N2.live _ _ h2; exact lt q
    obtain ⟨oD, hoD, hdD⟩ := Heap.dictOf_iff.mp ho
    have ho1 : h'.DictOf (strKind C.prog C.w) D kvs := Heap.dictOf_iff.mpr ⟨oD, offW a8 _ _ hD hoD, hdD⟩
    have hTT : ({ s with heap := h', toks := tk } : Shared).TypeIs (.ref s.heap.objs.size) "tuple" := ⟨_, a5, rfl⟩
    obtain ⟨t, rfl⟩ := a6.inv
    refine wpAny_bind (wpAny_holding (wpAny_bind ?_))
    refine wpAny_tryCatch ?_
    unfold Builtin.Dict.pairItems
    refine wpAny_bind (wpAny_typeOf hTT ?_)
    rw [if_pos (by decide)]
    refine wpAny_bind (wpAny_seqItems a5 rfl (wpAny_pure ?_))
    show wpAny _ _ (holding [.str kx t, v] (dictSet D (.str kx t) v)) _ _ _
    refine wpAny_holding (wpAny_dictSet_pairs (strKind_is _ _ _ _) ho1 (fun h2' hm' hs' => ?_) (by rw [sizeLine_eq]; omega))
    refine wpAny_pure ⟨plainId_quiet plain_update_loop _, ?_⟩
    have oth : ∀ b o, b ≠ D → h'.get? b = some o → h2'.get? b = some o := fun b o hb e => (hs'.2 b hb).trans e
    have hDz : ∀ b ∈ [z, TO, i1, i2], b ≠ D := fun b hb q => hD (q ▸ hb)
    refine ih (k + 1) _ _ (stored kvs kx v) (by omega) hlt (le.trans le2) (r2.off (wr := [D]) _ (fun b hb => by rw [List.mem_singleton] at hb; subst hb; exact fD.ins (lt hoD)) fun b o hb e => oth b o (fun q => hb (by simp [q])) e)
      (fun b hb => (hf b hb).ins (ne b hb)) (fD.ins (lt hoD)) ?_ ?_ (N1.frame _ _ _ a3 fun o e => oth _ _ (hDz i1 (by simp)) e) (N2.frame _ _ _ a4 fun o e => oth _ _ (hDz i2 (by simp)) e) hm' ?_ ?_
    · rcases a1 with ⟨q, a, b, q'⟩ | ⟨T, b1, oT, q, q', q''⟩
      · exact .inl ⟨oth _ _ (hDz z (by simp)) q, a, b, oth _ _ (hDz TO (by simp)) q'⟩
      · by_cases e : T = D
        · subst e
          obtain ⟨o2, ho2, _⟩ := Heap.dictOf_iff.mp hm'
          exact .inr ⟨T, b1, o2, oth _ _ (hDz z (by simp)) q, q', ho2⟩
        · exact .inr ⟨T, b1, oT, oth _ _ (hDz z (by simp)) q, q', oth _ _ e q''⟩
    · exact Nat.lt_of_lt_of_eq (Nat.lt_trans hTO (Heap.lt_size a5)) hs'.1.symm
    · unfold stored; split
      · simp; omega
      · simp; omega
    · rw [List.take_add_one, hxz, List.foldl_append]
      exact (hr.mono le2).store (a7.mono (le.trans le2))
end
end Mine
end

section
open PySem PySem.Calls PySem.W PyProof.Rows
set_option maxRecDepth 100000
set_option Elab.async false
set_option linter.unusedVariables false
namespace Mine
section
variable {C : Cx} {n : Nat} {env : Env} {st : ST}

theorem dict_zip {A : Around} {fz0 kp : OH} {s : Shared} {z TI TO i1 i2 : Addr} {S1 S2 : Nat → Heap → Prop} {xs ys : List V} {Q : Value → Shared → Prop} {E : Value → Shared → Prop} (hh : A.handled = none) (hstr : ∀ x ∈ xs, ∃ k, x = .str k) (Z : ZAt C fz0 z TI TO i1 i2) (N1 : Nx C fz0 i1 xs S1) (N2 : Nx C fz0 i2 ys S2)
    (hz : xs.length ≤ 1000) (r : Rp C fz0 kp env st s) (hf : ∀ b ∈ [z, TO, i1, i2], Free fz0 kp env st.mu b) (hzs : IsZ s.heap z TI TO .none false) (hTO : IsPair s.heap TO .none .none) (h1 : S1 0 s.heap) (h2 : S2 0 s.heap)
    (hQ : ∀ fz s' v, Le fz0 fz → Rp C fz kp env st s' → RepV C fz (.dct (dz xs ys)) v → Q v s') : wpAny C.M A (call (.type "dict") [.ref z]) Q E s := by
  refine callType_codes (Q₁ := fun obj s₁ => obj = .ref s.heap.objs.size ∧ s₁ = { s with heap := s.heap.push { cls := .type "dict", data := .dict #[] } }) F.kt_called_dict (F.kt_typeCall_dict_1 _) F.entry_dict_init
    (kt_code_dict_new _ ⟨rfl, rfl⟩) fun obj s₁ h₁ => ?_
  obtain ⟨rfl, rfl⟩ := h₁
  have hnew : (s.heap.push { cls := .type "dict", data := .dict #[] }).DictOf (strKind C.prog C.w) s.heap.objs.size [] := Heap.DictOf.new s.heap
  have lt : ∀ {c o}, s.heap.get? c = some o → c ≠ s.heap.objs.size := fun e => Nat.ne_of_lt (Heap.lt_size e)
  have ne : ∀ b ∈ [z, TO, i1, i2], b ≠ s.heap.objs.size := fun b hb => by
    simp only [List.mem_cons, List.not_mem_nil, or_false] at hb
    rcases hb with rfl | rfl | rfl | rfl
    · exact lt hzs
    · exact lt hTO
    · obtain ⟨_, q⟩ := N1.live _ _ h1; exact lt q
    · obtain ⟨_, q⟩ := N2.live _ _ h2; exact lt q
  have hSw : s.heap.objs.size ∉ [z, TO, i1, i2] := fun hb => ne _ hb rfl
  have fS := r.fresh (Nat.le_refl _)
  have up : ∀ b o, s.heap.get? b = some o → (s.heap.push { cls := .type "dict", data := .dict #[] }).get? b = some o := fun b o e => Heap.get?_push_of_some _ e
  have hT : ∀ (h : Heap) tk, IsZ h z TI TO .none false → ({ s with heap := h, toks := tk } : Shared).TypeIs (.ref z) "zip" := fun h tk q => ⟨_, q, rfl⟩
  refine ⟨hnew.typeIs, F.args_dict_init_2 _ _, ?_⟩
  unfold Builtin.«dict.__init__»
  refine wpAny_bind ?_
  unfold Builtin.Dict.selfAndRest
  refine wpAny_bind (wpAny_notOrdered_dict hnew.typeIs ?_)
  show wpAny _ _ (pure (s.heap.objs.size, [Value.ref z])) _ _ _
  refine wpAny_pure ?_
  show wpAny _ _ (Builtin.Dict.updateFrom "dict.__init__" s.heap.objs.size (.ref z) [] .none) _ _ _
  unfold Builtin.Dict.updateFrom
  refine wpAny_bind (wpAny_typeOf (hT _ s.toks (up _ _ hzs)) ?_)
  rw [if_pos (by decide)]
  refine wpAny_bind (getAttr?_keys hh (up _ _ hzs) fun h' tk hk => ?_)
  rw [if_pos (show (none : Option Value).isNone = true from rfl)]
  refine wpAny_bind (wpAny_rule (wpAny_bind (wpAny_pyIter_zip (hk _ _ (up _ _ hzs)) ?_)))
  refine wpAny_pure ⟨plainId_quiet plain_update_loop _, ?_⟩
  have hk' : ∀ b o, s.heap.get? b = some o → h'.get? b = some o := fun b o e => hk _ _ (up _ _ e)
  have hnew' : h'.DictOf (strKind C.prog C.w) s.heap.objs.size [] := by
    obtain ⟨o, ho1, ho2⟩ := Heap.dictOf_iff.mp hnew
    exact Heap.dictOf_iff.mpr ⟨o, hk _ _ ho1, ho2⟩
  refine update_zip (A := A.in1) (kp := kp) (env := env) (st := st) (D := s.heap.objs.size) hh Z N1 N2 hz hstr hSw (fun fz s' le r' fS' ⟨kvs, hm, hr⟩ => ⟨rfl, ?_⟩) (zipV xs ys).length 0 fz0 _ [] (by omega) (Nat.zero_le _) (Le.refl _)
    (r.ext tk hk') hf fS (.inl ⟨hk' _ _ hzs, _, _, hk' _ _ hTO⟩) (Heap.lt_size (hk' _ _ hTO)) (N1.frame _ _ _ h1 fun o e => hk' _ _ e) (N2.frame _ _ _ h2 fun o e => hk' _ _ e) hnew' (Nat.le_refl _) .nil
  obtain ⟨o, ho1, ho2⟩ := Heap.dictOf_iff.mp hm
  refine hQ _ s' (.ref s.heap.objs.size) (le.trans (Le.ins _ fS'.f)) (r'.addF ho1 fS'.f fS'.k fS'.m fS'.l) (.dct (insH_self ..) ho2 ?_ (hr.mono (Le.ins _ fS'.f)))
  have := r.big
  exact beq_eq_false_iff_ne.mpr fun e => by rw [e] at this; exact absurd this (by decide)

theorem ev_ListZip {func zf a b : Expr} {pos zpos : Pos} {Q : V → ST → Prop}
    (he : eval (.Call func [.Call zf [a, b] [] zpos] [] pos) env = (do callWith pos (← eval func env) [] (backTo pos (starEach [.Call zf [a, b] [] zpos] env)) (backToKw pos (keywordEach [] env))))
    (hs : starEach [.Call zf [a, b] [] zpos] env = (false, eval (.Call zf [a, b] [] zpos) env) :: starEach [] env) (hp : (backTo pos (starEach [] env)).any (·.1) = false)
    (he' : eval (.Call zf [a, b] [] zpos) env = (do callWith zpos (← eval zf env) [] (backTo zpos (starEach [a, b] env)) (backToKw zpos (keywordEach [] env))))
    (hs' : starEach [a, b] env = (false, eval a env) :: starEach [b] env) (hp' : (backTo zpos (starEach [b] env)).any (·.1) = false)
    (h : ev C n env func st fun fv st1 => fv = .val (.type "list") ∧ ev C n env zf st1 fun zv st2 => zv = .val (.type "zip") ∧ evl C n env zpos [a, b] st2 fun avs st3 => ∃ av bv xs ys, avs = [av, bv] ∧ walkable av xs ∧ walkable bv ys ∧ True ∧ xs.length ≤ 1000 ∧ Q (.lst (zipV xs ys)) st3) :
    ev C n env (.Call func [.Call zf [a, b] [] zpos] [] pos) st Q :=
  ev_OfZip (T := "list") (res := fun xs ys => .lst (zipV xs ys)) (ok := fun _ _ => True) he hs hp he' hs' hp' (fun hh _ Z N1 N2 hz r hf hzs hTO h1 h2 hQ => list_zip hh Z N1 N2 hz r hf hzs hTO h1 h2 hQ) h
theorem ev_DictZip {func zf a b : Expr} {pos zpos : Pos} {Q : V → ST → Prop}
    (he : eval (.Call func [.Call zf [a, b] [] zpos] [] pos) env = (do callWith pos (← eval func env) [] (backTo pos (starEach [.Call zf [a, b] [] zpos] env)) (backToKw pos (keywordEach [] env))))
    (hs : starEach [.Call zf [a, b] [] zpos] env = (false, eval (.Call zf [a, b] [] zpos) env) :: starEach [] env) (hp : (backTo pos (starEach [] env)).any (·.1) = false)
    (he' : eval (.Call zf [a, b] [] zpos) env = (do callWith zpos (← eval zf env) [] (backTo zpos (starEach [a, b] env)) (backToKw zpos (keywordEach [] env))))
    (hs' : starEach [a, b] env = (false, eval a env) :: starEach [b] env) (hp' : (backTo zpos (starEach [b] env)).any (·.1) = false)
    (h : ev C n env func st fun fv st1 => fv = .val (.type "dict") ∧ ev C n env zf st1 fun zv st2 => zv = .val (.type "zip") ∧ evl C n env zpos [a, b] st2 fun avs st3 => ∃ av bv xs ys, avs = [av, bv] ∧ walkable av xs ∧ walkable bv ys ∧ (∀ x ∈ xs, ∃ k, x = .str k) ∧ xs.length ≤ 1000 ∧ Q (.dct (dz xs ys)) st3) :
    ev C n env (.Call func [.Call zf [a, b] [] zpos] [] pos) st Q :=
  ev_OfZip (T := "dict") (res := fun xs ys => .dct (dz xs ys)) (ok := fun xs _ => ∀ x ∈ xs, ∃ k, x = .str k) he hs hp he' hs' hp' (fun hh ho Z N1 N2 hz r hf hzs hTO h1 h2 hQ => dict_zip hh ho Z N1 N2 hz r hf hzs hTO h1 h2 hQ) h
end
end Mine
end

section
open PySem PySem.Calls PySem.W PyProof.Rows
set_option maxRecDepth 100000
set_option Elab.async false
set_option linter.unusedVariables false
namespace Mine

theorem lk_here {α : Type} {x : Str} {v : α} {l : List (Str × α)} : List.lookup x ((x, v) :: l) = some v := by simp
theorem lk_there {α : Type} {x y : Str} {u v : α} {l : List (Str × α)} (h : (x == y) = false) (h' : List.lookup x l = some v) : List.lookup x ((y, u) :: l) = some v := by rw [List.lookup_cons, h]; exact h'

section
variable {C : Cx} {n : Nat} {env : Env} {st : ST}

theorem binds0 {fd : FuncData} (h : bindArgs fd ⟨[], []⟩ = pure []) : Binds C fd [] [] := fun fz vs s r _ => by
  cases r; exact ⟨_, BindsTo.of_eq h, .nil⟩
theorem binds1 {fd : FuncData} {x : Str} {a : V} (h : ∀ u, bindArgs fd ⟨[u], []⟩ = pure [(x, u)]) : Binds C fd [a] [(x, a)] := fun fz vs s r _ => by
  obtain ⟨_, _, rfl, r1, r⟩ := r.inv
  cases r; exact ⟨_, BindsTo.of_eq (h _), .cons r1 .nil⟩
theorem binds2 {fd : FuncData} {x y : Str} {a b : V} (h : ∀ u v, bindArgs fd ⟨[u, v], []⟩ = pure [(x, u), (y, v)]) : Binds C fd [a, b] [(x, a), (y, b)] := fun fz vs s r _ => by
  obtain ⟨_, _, rfl, r1, r⟩ := r.inv
  obtain ⟨_, _, rfl, r2, r⟩ := r.inv
  cases r; exact ⟨_, BindsTo.of_eq (h _ _), .cons r1 (.cons r2 .nil)⟩
theorem binds3 {fd : FuncData} {x y z : Str} {a b c : V} (h : ∀ u v w, bindArgs fd ⟨[u, v, w], []⟩ = pure [(x, u), (y, v), (z, w)]) : Binds C fd [a, b, c] [(x, a), (y, b), (z, c)] := fun fz vs s r _ => by
  obtain ⟨_, _, rfl, r1, r⟩ := r.inv
  obtain ⟨_, _, rfl, r2, r⟩ := r.inv
  obtain ⟨_, _, rfl, r3, r⟩ := r.inv
  cases r; exact ⟨_, BindsTo.of_eq (h _ _ _), .cons r1 (.cons r2 (.cons r3 .nil))⟩
theorem binds4 {fd : FuncData} {x y z p : Str} {a b c d : V} (h : ∀ u v w t, bindArgs fd ⟨[u, v, w, t], []⟩ = pure [(x, u), (y, v), (z, w), (p, t)]) : Binds C fd [a, b, c, d] [(x, a), (y, b), (z, c), (p, d)] := fun fz vs s r _ => by
  obtain ⟨_, _, rfl, r1, r⟩ := r.inv
  obtain ⟨_, _, rfl, r2, r⟩ := r.inv
  obtain ⟨_, _, rfl, r3, r⟩ := r.inv
  obtain ⟨_, _, rfl, r4, r⟩ := r.inv
  cases r; exact ⟨_, BindsTo.of_eq (h _ _ _ _), .cons r1 (.cons r2 (.cons r3 (.cons r4 .nil)))⟩
theorem binds5 {fd : FuncData} {x y z p q : Str} {a b c d e : V} (h : ∀ u v w t i, bindArgs fd ⟨[u, v, w, t, i], []⟩ = pure [(x, u), (y, v), (z, w), (p, t), (q, i)]) : Binds C fd [a, b, c, d, e] [(x, a), (y, b), (z, c), (p, d), (q, e)] := fun fz vs s r _ => by
  obtain ⟨_, _, rfl, r1, r⟩ := r.inv
  obtain ⟨_, _, rfl, r2, r⟩ := r.inv
  obtain ⟨_, _, rfl, r3, r⟩ := r.inv
  obtain ⟨_, _, rfl, r4, r⟩ := r.inv
  obtain ⟨_, _, rfl, r5, r⟩ := r.inv
  cases r; exact ⟨_, BindsTo.of_eq (h _ _ _ _ _), .cons r1 (.cons r2 (.cons r3 (.cons r4 (.cons r5 .nil))))⟩

/-- targets one after the other -/
def asgs (C : Cx) (n : Nat) (env : Env) : List Expr → List V → ST → (ST → Prop) → Prop
  | t :: ts, x :: xs, st, Q => asg C n env t x st fun st1 => asgs C n env ts xs st1 Q
  | _, _, st, Q => Q st
theorem asgs_run {Q : ST → Prop} : ∀ {ts : List Expr} {xs : List V} {st : ST} {fz : OH} {vs : List Value}, ts.length = xs.length → RepL C fz xs vs → asgs C n env ts xs st Q → aw C n RepU fz env (assignInOrder (ts.map fun t => assign t env) vs) st fun (_ : Unit) st' => Q st'
  | [], [], st, fz, _, _, .nil, h => fun A hA kp s r => wpAny_pure ⟨fz, (), st, Le.refl _, trivial, r, h⟩
  | t :: ts, x :: xs, st, fz, _, hl, .cons rx rxs, h => fun A hA kp s r => by
    show wpAny _ _ (holding _ (assign t env _) >>= fun _ => assignInOrder (ts.map fun t => assign t env) _) _ _ _
    refine wpAny_bind (wpAny_holding (wpAny_mono (h fz _ rx A hA kp s r) ?_ fun _ _ x => x))
    rintro _ s1 ⟨fz1, _, st1, le1, _, r1, h1⟩
    refine wpAny_mono (asgs_run (by simpa using hl) (RepL.mono le1 rxs) h1 A hA kp s1 r1) ?_ fun _ _ x => x
    rintro _ s2 ⟨fz2, _, st2, le2, _, r2, h2⟩
    exact ⟨fz2, (), st2, le1.trans le2, trivial, r2, h2⟩
  | [], _ :: _, _, _, _, hl, _, _ => absurd hl (by simp)
  | _ :: _, [], _, _, _, hl, _, _ => absurd hl (by simp)
theorem asg_Tuple {elts : List Expr} {k : Nat} {pos : Pos} {xs : List V} {Q : ST → Prop} (he : assignEach elts env = elts.map fun t => (false, assign t env)) (hl : elts.length = xs.length) (h : asgs C n env elts xs st Q) : asg C n env (.Tuple elts k pos) (.tup xs) st Q := fun fz va ra A hA kp s r => by
  obtain ⟨a, items, m, rfl, h1, h2⟩ := ra.inv
  have hlen := h2.length
  refine wpAny_assign_Tuple hA.1 (r.fzs.at h1) (by rw [he]; simp at hlen ⊢; omega) (by rw [he]; rw [List.findIdx?_eq_none_iff]; intro x hx; obtain ⟨t, _, rfl⟩ := List.mem_map.mp hx; rfl) fun h' hk => ?_
  have r1 : Rp C fz kp env st { s with heap := h' } := r.off (wr := [s.heap.objs.size]) s.toks (fun b hb => by rw [List.mem_singleton] at hb; subst hb; exact r.fresh (Nat.le_refl _)) fun b o hb e => hk b o (fun q => hb (by simp [q])) e
  rw [he, List.map_map]
  exact asgs_run hl h2 h A hA kp _ r1

theorem ex1_Expr {e : Expr} {pos : Pos} {Q : AF → ST → Prop} (hi : interactive env = false) (hs : swapsWith e none pos.line env = pure false) (h : ev C n env e st fun _ st1 => Q .next st1) : ex1 C n env (.Expr e pos) st Q := fun fz A hA kp s r =>
  wpAny_Expr_any (wpAny_mono (h fz A hA kp s r) (fun _ _ ⟨fz', b, st', h1, h2, h3, h4⟩ => ⟨fz', .next, st', h1, .next, h3, h4⟩) fun _ _ x => x) hi hs

/-- two names stored the other way round -/
theorem ex1_Swap2 {t e : Expr} {x y : Str} {pos : Pos} {Q : AF → ST → Prop} (hs : swapsWithSole [t] e pos.line env = pure false) (hw : swappedStores [t] e env = pure (some [x, y]))
    (h : ev C n env e st fun v st1 => ∃ a b, v = .tup [a, b] ∧ sto C n env y b st1 fun st2 => sto C n env x a st2 fun st3 => Q .next st3) : ex1 C n env (.Assign [t] e pos) st Q := fun fz A hA kp s r => by
  rw [arm_exec_Assign, hs, hw]
  refine wpAny_bind (wpAny_standAt (wpAny_bind (wpAny_pure ?_)))
  show wpAny _ _ (eval e env >>= fun v => pure (some [x, y]) >>= fun z => assignStores env v z _) _ _ _
  refine wpAny_bind (wpAny_mono (h fz A hA kp s r) ?_ fun _ _ x => x)
  rintro v s1 ⟨fz1, av, st1, le1, rv, r1, a, b, rfl, h1⟩
  refine wpAny_bind (wpAny_pure ?_)
  obtain ⟨ad, items, m, rfl, k1, k2⟩ := rv.inv
  show wpAny _ _ (rule _ >>= fun _ => unpackItems (.ref ad) 2 none >>= fun its => assignInOrder ([y, x].map fun n => bindName env n) its.reverse >>= fun _ => pure Flow.next) _ _ _
  have hlen : items.size = 2 := by have := k2.length; simp at this; omega
  refine wpAny_bind (wpAny_rule (wpAny_bind ?_))
  rw [← hlen]
  refine wpAny_unpackItems_tuple hA.1 (r1.fzs.at k1) fun h' hk => ?_
  have r2 : Rp C fz1 kp env st1 { s1 with heap := h' } := r1.off (wr := [s1.heap.objs.size]) s1.toks (fun b hb => by rw [List.mem_singleton] at hb; subst hb; exact r1.fresh (Nat.le_refl _)) fun b o hb e => hk b o (fun q => hb (by simp [q])) e
  generalize hv : items.toList = vs at k2
  obtain ⟨_, _, rfl, ra, k2⟩ := k2.inv
  obtain ⟨_, _, rfl, rb, k2⟩ := k2.inv
  cases k2
  refine wpAny_bind ?_
  show wpAny _ _ (holding _ (bindName env y _) >>= fun _ => holding _ (bindName env x _) >>= fun _ => pure ()) _ _ _
  refine wpAny_bind (wpAny_holding (wpAny_bindName (wpAny_mono (h1 fz1 _ rb A hA kp _ r2) ?_ fun _ _ x => x)))
  rintro _ s3 ⟨fz3, _, st3, le3, _, r3, h3⟩
  refine wpAny_bind (wpAny_holding (wpAny_bindName (wpAny_mono (h3 fz3 _ (ra.mono le3) A hA kp s3 r3) ?_ fun _ _ x => x)))
  rintro _ s4 ⟨fz4, _, st4, le4, _, r4, h4⟩
  exact wpAny_pure (wpAny_pure ⟨fz4, .next, st4, (le1.trans le3).trans le4, .next, r4, h4⟩)

-- dict displays
theorem ev_DictM {pos : Pos} {Q : V → ST → Prop} (h : ∀ a, st.mu a = none → Q (.val (.ref a)) ⟨st.loc, insM st.mu a (.dct [])⟩) : ev C n env (.Dict [] [] pos) st Q := fun fz A hA kp s r => by
  refine wpAny_Dict_empty ?_
  obtain ⟨o, ho, hd⟩ := Heap.dictOf_iff.mp (Heap.DictOf.new (knd := strKind C.prog C.w) s.heap)
  rw [Heap.get?_push_size _ rfl] at ho
  cases ho
  obtain ⟨hn, r'⟩ := r.pushM { cls := .type "dict", data := .dict #[] } (o := .dct []) rfl (.dct hd .nil) s.toks
  exact ⟨fz, _, _, Le.refl _, .val _, r', h _ hn⟩
theorem ev_DictF {pos : Pos} {Q : V → ST → Prop} (h : Q (.dct []) st) : ev C n env (.Dict [] [] pos) st Q := fun fz A hA kp s r => by
  refine wpAny_Dict_empty ?_
  obtain ⟨o, ho, hd⟩ := Heap.dictOf_iff.mp (Heap.DictOf.new (knd := strKind C.prog C.w) s.heap)
  rw [Heap.get?_push_size _ rfl] at ho
  cases ho
  obtain ⟨le, r'⟩ := r.pushF { cls := .type "dict", data := .dict #[] } rfl s.toks
  exact ⟨_, _, st, le, .dct (insH_self ..) hd (beq_eq_false_iff_ne.mpr fun e => by have := r.big; rw [e] at this; exact absurd this (by decide)) .nil, r', h⟩
theorem ev_DictT {pos : Pos} {Q : V → ST → Prop} (h : ∀ a, st.mu a = none → Q (.val (.ref a)) ⟨st.loc, insM st.mu a (.tdct [])⟩) : ev C n env (.Dict [] [] pos) st Q := fun fz A hA kp s r => by
  refine wpAny_Dict_empty ?_
  obtain ⟨hn, r'⟩ := r.pushM { cls := .type "dict", data := .dict #[] } (o := .tdct []) rfl (.tdct (by exact ⟨rfl, rfl, rfl⟩) rfl rfl .nil) s.toks
  exact ⟨fz, _, _, Le.refl _, .val _, r', h _ hn⟩
end
end Mine
end

section
open PySem PySem.Calls PySem.W PyProof.Rows PySem.SeqAt
set_option maxRecDepth 100000
set_option Elab.async false
set_option linter.unusedVariables false
namespace Mine

section
variable {C : Cx} {n : Nat} {env : Env} {st : ST}

-- data
mutual
def dataV : V → Option PyData
  | .none => some .none
  | .bool b => some (.bool b)
  | .int i => some (.int i)
  | .str x => some (.str x)
  | .tup l => (dataL l).map .tuple
  | .lst l => (dataL l).map .list
  | _ => Option.none
def dataL : List V → Option (List PyData)
  | [] => some []
  | x :: l => match dataV x, dataL l with
    | some d, some ds => some (d :: ds)
    | _, _ => Option.none
end
mutual
theorem reads_of {g : OH} {h : Heap} (hl : Le g h.get?) : ∀ {x : V} {v : Value} {d : PyData}, RepV C g x v → dataV x = some d → ∃ as, Reads h v d as
  | _, _, d, .none, e => by simp only [dataV, Option.some.injEq] at e; subst e; exact ⟨_, .none⟩
  | _, _, d, .bool b, e => by simp only [dataV, Option.some.injEq] at e; subst e; exact ⟨_, .bool b⟩
  | _, _, d, .int i t, e => by simp only [dataV, Option.some.injEq] at e; subst e; exact ⟨_, .int i t⟩
  | _, _, d, .str x t, e => by simp only [dataV, Option.some.injEq] at e; subst e; exact ⟨_, .str x t⟩
  | _, _, d, .val v, e => by simp [dataV] at e
  | _, _, d, .tup h1 h2, e => by
    simp only [dataV, Option.map_eq_some_iff] at e
    obtain ⟨ds, e1, rfl⟩ := e
    obtain ⟨as, ra⟩ := readsL_of hl h2 e1
    exact ⟨as, .tuple (hl _ _ h1) rfl rfl ra⟩
  | _, _, d, .lst h1 h2, e => by
    simp only [dataV, Option.map_eq_some_iff] at e
    obtain ⟨ds, e1, rfl⟩ := e
    obtain ⟨as, ra⟩ := readsL_of hl h2 e1
    exact ⟨_, .list (hl _ _ h1) rfl rfl ra⟩
  | _, _, d, .dct .., e => by simp [dataV] at e
  | _, _, d, .ins .., e => by simp [dataV] at e
  | _, _, d, .obj .., e => by simp [dataV] at e
theorem readsL_of {g : OH} {h : Heap} (hl : Le g h.get?) : ∀ {l : List V} {vs : List Value} {ds : List PyData}, RepL C g l vs → dataL l = some ds → ∃ as, ReadsAll h vs ds as
  | _, _, ds, .nil, e => by simp only [dataL, Option.some.injEq] at e; subst e; exact ⟨_, .nil⟩
  | _, _, ds, @RepL.cons _ _ x v l vs a b, e => by
    simp only [dataL] at e
    cases h1 : dataV x with
    | none => rw [h1] at e; simp at e
    | some d =>
      cases h2 : dataL l with
      | none => rw [h1, h2] at e; simp at e
      | some ds' =>
        rw [h1, h2] at e
        simp only [Option.some.injEq] at e
        subst e
        obtain ⟨as, ra⟩ := reads_of hl a h1
        obtain ⟨bs, rb⟩ := readsL_of hl b h2
        exact ⟨_, .cons ra rb⟩
end
theorem Ok.u64 {A : Around} (h : Ok n A) : A.units + 64 < cLine := by have := h.units; omega
theorem cmp_deq {a b : V} {da db : PyData} {Q : V → ST → Prop} (ha : dataV a = some da) (hb : dataV b = some db) (sa : shaped da = true) (sb : shaped db = true) (h : Q (.bool (PyData.eqv da db)) st) : op2 C n env (compareOp .Eq) a b st Q := fun fz va vb ra rb A hA kp s r => by
  obtain ⟨as, xa⟩ := reads_of r.fzs ra ha
  obtain ⟨bs, xb⟩ := reads_of r.fzs rb hb
  exact compareEq_shaped xa xb sa sb hA.u64 ⟨fz, _, st, Le.refl _, .bool _, r, h⟩
theorem cmp_dne {a b : V} {da db : PyData} {Q : V → ST → Prop} (ha : dataV a = some da) (hb : dataV b = some db) (sa : shaped da = true) (sb : shaped db = true) (h : Q (.bool (!PyData.eqv da db)) st) : op2 C n env (compareOp .NotEq) a b st Q := fun fz va vb ra rb A hA kp s r => by
  obtain ⟨as, xa⟩ := reads_of r.fzs ra ha
  obtain ⟨bs, xb⟩ := reads_of r.fzs rb hb
  exact compareNe_shaped xa xb sa sb hA.u64 ⟨fz, _, st, Le.refl _, .bool _, r, h⟩

-- sequences
theorem tru_lst {l : List V} {Q : Bool → ST → Prop} (hz : l.length < 1000) (h : Q (!l.isEmpty) st) : tru C n env (.lst l) st Q := fun fz va ra A hA kp s r => by
  obtain ⟨a, xs, m, rfl, h1, h2⟩ := ra.inv
  have hlen := h2.size
  refine wpAny_truthy_list (isLst_of r h1) (by omega) ⟨fz, _, st, Le.refl _, ?_, r.toks _, h⟩
  cases l with
  | nil => simp at hlen; simp [Array.isEmpty, hlen]
  | cons x l => simp at hlen; simp [Array.isEmpty, hlen]
theorem cl_len_tup {l : List V} {Q : V → ST → Prop} (hz : l.length < 1000) (h : Q (.int l.length) st) : cl C n env (.val (.builtin "len")) [.tup l] st Q := fun fz vf vs rf rs A hA kp s r => by
  (first | obtain ⟨_, rfl⟩ := rf.inv | obtain rfl := rf.inv)
  obtain ⟨_, _, rfl, r1, rs⟩ := rs.inv
  (first | obtain ⟨_, rfl⟩ := rs.inv | obtain rfl := rs.inv)
  obtain ⟨a, xs, m, rfl, h1, h2⟩ := r1.inv
  have hlen := h2.size
  exact P.len_tuple (r.fzs _ _ h1) (by omega) ⟨fz, _, st, Le.refl _, .int _ _, r.toks _, by rw [hlen]; exact h⟩
theorem bop_addL {a b : List V} {Q : V → ST → Prop} (hz : a.length + b.length < 1000) (h : Q (.lst (a ++ b)) st) : op2 C n env (binaryOp .Add) (.lst a) (.lst b) st Q := fun fz va vb ra rb A hA kp s r => by
  obtain ⟨x, xs, m, rfl, h1, h2⟩ := ra.inv
  obtain ⟨y, ys, k, rfl, h3, h4⟩ := rb.inv
  have e1 := h2.size
  have e2 := h4.size
  refine P.add_list (r.fzs _ _ h1) (r.fzs _ _ h3) ?_ (by rw [sizeLine_eq]; omega)
  obtain ⟨le, r'⟩ := r.pushF { cls := .type "list", data := .seq (xs ++ ys) } rfl s.toks
  exact ⟨_, _, st, le, .lst (insH_self ..) (by rw [Array.toList_append]; exact (h2.mono le).append (h4.mono le)), r', h⟩
theorem bop_add0T {b : List V} {Q : V → ST → Prop} (h : Q (.tup b) st) : op2 C n env (binaryOp .Add) (.tup []) (.tup b) st Q := fun fz va vb ra rb A hA kp s r => by
  obtain ⟨x, xs, m, rfl, h1, h2⟩ := ra.inv
  obtain ⟨y, ys, k, rfl, h3, h4⟩ := rb.inv
  have e1 := h2.size
  have e0 : xs.isEmpty = true := by unfold Array.isEmpty; simp at e1; simp [e1]
  exact concat_meets ⟨_, r.fzs _ _ h1, rfl⟩ ⟨_, r.fzs _ _ h3, rfl⟩ noFill_tuple_add seq_tuple_add F.slot_tuple_add F.entry_tuple_add (F.args_tuple_add_2 _ _) (AutoSeq1.tuple___add___tuple_tuple_0 _ xs _ _ ys _ e0)
    ⟨r.fzs _ _ h1, r.fzs _ _ h3, ⟨fz, _, st, Le.refl _, .tup h3 h4, r, h⟩⟩
theorem RepL.flat {g : OH} {l : List V} {xs : Array Value} (h : RepL C g l xs.toList) : ∀ k, RepL C g (List.flatten (List.replicate k l)) (List.foldl (fun x1 x2 => x1 ++ x2) #[] (List.replicate k xs)).toList := by
  have : ∀ k (acc : Array Value) (la : List V), RepL C g la acc.toList → RepL C g (la ++ List.flatten (List.replicate k l)) (List.foldl (fun x1 x2 => x1 ++ x2) acc (List.replicate k xs)).toList := by
    intro k
    induction k with
    | zero => intro acc la ha; simpa using ha
    | succ k ih =>
      intro acc la ha
      rw [List.replicate_succ, List.replicate_succ, List.flatten_cons, List.foldl_cons, ← List.append_assoc]
      exact ih _ _ (by rw [Array.toList_append]; exact ha.append h)
  intro k
  have := this k #[] [] .nil
  simpa using this
theorem mul_fit0 {k : Nat} (h : k ≤ 1) : ¬ (!Builtin.List.listFitsIndex (k : Int)) = true := by
  simp [Builtin.List.listFitsIndex]; omega
theorem mul_fit {a k : Nat} (h : a * k ≤ 1000) : ¬ a * (k : Int).toNat > (2 ^ 63 - 1) / 8 := by
  rw [Int.toNat_natCast]
  exact Nat.not_lt.mpr (Nat.le_trans h (by decide))
theorem mul_fit2 {a k : Nat} (h : a * k ≤ 1000) : ¬ Builtin.List.listTooLong (a * (k : Int).toNat) = true := by
  rw [Int.toNat_natCast]
  simp only [Builtin.List.listTooLong, decide_eq_true_eq, sizeLine_eq]
  omega
theorem mul_raw {A : Around} {E : Value → Shared → Prop} {s : Shared} {l : Addr} {items : Array Value} {k : Nat} {x : Int} {u : Tok} {Q : Value → Shared → Prop} (hl : s.heap.get? l = some { cls := .type "list", dict := none, data := .seq items k, slots := #[] })
    (h0 : ¬ (!Builtin.List.listFitsIndex x) = true) (h1 : ¬ items.size * x.toNat > (2 ^ 63 - 1) / 8) (h2 : ¬ Builtin.List.listTooLong (items.size * x.toNat) = true)
    (h : Q (.ref s.heap.objs.size) { s with heap := s.heap.push { cls := .type "list", data := .seq (List.foldl (fun x1 x2 => x1 ++ x2) #[] (List.replicate (if items.isEmpty = true then 0 else x.toNat) items)) } }) :
    wpAny C.M A (binaryOp .Mult (.ref l) (.int x u)) Q E s :=
  wpAny_binaryOp_repeat_ref (T := "list") (U := "int") (by decide) ⟨_, hl, rfl⟩ (fun s' => typeIs_int s' x u) noFill_list_mul F.fills_int_mul F.slot_int_rmul repeat_list F.slot_int_index.lookup
    (call_meets F.slot_int_rmul (typeIs_int s x u) F.entry_int_rmul (F.args_int_rmul_2 _ _) (int___rmul___int_list x u l items k)
      ⟨hl, rfl, ⟨_, hl, rfl⟩, call_meets F.slot_list_mul ⟨_, hl, rfl⟩ F.entry_list_mul (F.args_list_mul_2 _ _) (AutoListH.list___mul___list_int_3 l items k x u h0 h1 h2) ⟨hl, h⟩⟩)
theorem bop_mulL {l : List V} {k : Nat} {Q : V → ST → Prop} (hk : k ≤ 1) (hz : l.length < 1000) (h : Q (.lst (List.flatten (List.replicate k l))) st) : op2 C n env (binaryOp .Mult) (.lst l) (.int k) st Q := fun fz va vb ra rb A hA kp s r => by
  obtain ⟨x, xs, m, rfl, h1, h2⟩ := ra.inv
  obtain ⟨u, rfl⟩ := rb.inv
  have e1 := h2.size
  have h3 : xs.size * k ≤ 1000 := Nat.le_trans (Nat.mul_le_mul_left _ hk) (by omega)
  refine mul_raw (r.fzs _ _ h1) (mul_fit0 hk) (mul_fit h3) (mul_fit2 h3) ?_
  rw [Int.toNat_natCast]
  obtain ⟨le, r'⟩ := r.pushF { cls := .type "list", data := .seq (List.foldl (fun x1 x2 => x1 ++ x2) #[] (List.replicate (if xs.isEmpty = true then 0 else k) xs)) } rfl s.toks
  refine ⟨_, _, st, le, .lst (insH_self ..) ?_, r', h⟩
  by_cases e : xs.isEmpty = true
  · rw [if_pos e]
    have : l = [] := by
      unfold Array.isEmpty at e
      have : xs.size = 0 := by simpa using e
      exact List.length_eq_zero_iff.mp (by omega)
    subst this
    have e2 : List.flatten (List.replicate k ([] : List V)) = [] := by simp
    rw [e2]; exact .nil
  · have h4 := h2.mono le
    rw [if_neg e] at h4 ⊢
    exact h4.flat k

-- the least of some ints
theorem pairs_of {g : OH} : ∀ {is : List Int} {vs : List Value}, RepL C g (is.map V.int) vs → ∃ ps : List (Int × Tok), vs = ps.map (fun p => Value.int p.1 p.2) ∧ ps.map (·.1) = is
  | [], _, .nil => ⟨[], rfl, rfl⟩
  | i :: is, _, .cons a b => by
    obtain ⟨t, rfl⟩ := a.inv
    obtain ⟨ps, e1, e2⟩ := pairs_of b
    exact ⟨(i, t) :: ps, by rw [e1]; rfl, by rw [← e2]; rfl⟩
def isLeast (is : List Int) (i : Int) : Prop := i ∈ is ∧ ∀ j ∈ is, i ≤ j
theorem cl_min {is : List Int} {Q : V → ST → Prop} (hne : is ≠ []) (hz : is.length < 1000) (h : ∀ i, isLeast is i → Q (.int i) st) : cl C n env (.val (.builtin "min")) [.lst (is.map V.int)] st Q := fun fz vf vs rf rs A hA kp s r => by
  (first | obtain ⟨_, rfl⟩ := rf.inv | obtain rfl := rf.inv)
  obtain ⟨_, _, rfl, r1, rs⟩ := rs.inv
  (first | obtain ⟨_, rfl⟩ := rs.inv | obtain rfl := rs.inv)
  obtain ⟨a, xs, m, rfl, h1, h2⟩ := r1.inv
  obtain ⟨ps, e1, e2⟩ := pairs_of h2
  obtain ⟨xl⟩ := xs
  dsimp only at e1
  subst e1
  have hpos : 0 < ps.length := by
    rcases Nat.eq_zero_or_pos ps.length with e | e
    · have : ps = [] := List.length_eq_zero_iff.mp e
      subst this; exact absurd e2.symm hne
    · exact e
  have hl : s.heap.IsList a (intItems ps.toArray) := ⟨_, r.fzs _ _ h1, rfl, m, by simp [intItems]⟩
  refine min_intList hA.1 hl (by simpa using hpos) fun v h' tk hv hk => ?_
  obtain ⟨t, rfl⟩ := intItems_at hv
  refine ⟨fz, .int _, st, Le.refl _, .int _ _, r.ext tk hk, h _ ?_⟩
  obtain ⟨b1, b2⟩ := argBest_lt (numAt ps.toArray) (ps.toArray.size - 1)
  have num : ∀ k, k < ps.length → is[k]? = some (numAt ps.toArray k) := fun k hk => by
    rw [← e2]; simp [numAt, hk]
  have sz : ps.toArray.size = ps.length := by simp
  have lt : argBest (fun i j => decide (numAt ps.toArray i < numAt ps.toArray j)) (ps.toArray.size - 1) < ps.length := by omega
  refine ⟨List.mem_of_getElem? (num _ lt), fun j hj => ?_⟩
  obtain ⟨k, hk1⟩ := List.mem_iff_getElem?.mp hj
  have hkl : k < ps.length := by
    have := (List.getElem?_eq_some_iff.mp hk1).1
    rw [← e2] at this; simpa using this
  rw [num k hkl] at hk1
  cases hk1
  exact b2 k (by omega)
end
end Mine
end

section
open PySem PySem.Calls PySem.W PyProof.Rows
set_option maxRecDepth 100000
set_option Elab.async false
set_option linter.unusedVariables false
namespace Mine

def mrg (l : List (Str × V)) : List (Str × V) := l.foldl (fun acc p => stoD acc p.1 p.2) []
theorem repMrg {C : Cx} {g : OH} : ∀ {l : List (Str × V)} {vs : List (Str × Value)} {l0 : List (Str × V)} {vs0 : List (Str × Value)}, RepD C g l vs → RepD C g l0 vs0 → RepD C g (l.foldl (fun acc p => stoD acc p.1 p.2) l0) (merged vs0 vs)
  | _, _, _, _, .nil, r => r
  | _, _, _, _, @RepD.cons _ _ k x v l vs a b, r => by
    have := repMrg b (r.store (k := k) a)
    exact this

section
variable {C : Cx} {n : Nat} {env : Env} {st : ST}

def pairsOf (env : Env) (pos : Pos) (l : List (Expr × Expr)) : List (Sem Value × Sem Value) := l.map fun p => (eval p.1 env, do let x ← eval p.2 env; standAt pos; pure x)
/-- pairs of a dict's display -/
def evp (C : Cx) (n : Nat) (env : Env) : List (Expr × Expr) → ST → (List (Str × V) → ST → Prop) → Prop
  | [], st, Q => Q [] st
  | (k, v) :: rest, st, Q => ev C n env k st fun kv st1 => ∃ x, kv = .str x ∧ ev C n env v st1 fun vv st2 => evp C n env rest st2 fun l st3 => Q ((x, vv) :: l) st3
theorem evp_run {pos : Pos} : ∀ {l : List (Expr × Expr)} {st : ST} {Q : List (Str × V) → ST → Prop} {fz kp : OH} {A : Around} {s : Shared}, Ok n A → Rp C fz kp env st s → evp C n env l st Q →
    wpAny C.M A (evalPairs (pairsOf env pos l)) (fun vs s' => ∃ fz' kvs al st', Le fz fz' ∧ Carries (strKind C.prog C.w) vs kvs ∧ RepD C fz' al kvs ∧ Rp C fz' kp env st' s' ∧ Q al st') (fun _ _ => False) s
  | [], st, Q, fz, kp, A, s, hA, r, h => wpAny_pure ⟨fz, [], [], st, Le.refl _, trivial, .nil, r, h⟩
  | (k, v) :: rest, st, Q, fz, kp, A, s, hA, r, h => by
    show wpAny _ _ (eval k env >>= fun kv => holding [kv] (eval v env >>= fun x => standAt pos >>= fun _ => pure x) >>= fun vv => holding [kv, vv] (evalPairs (pairsOf env pos rest)) >>= fun r => pure ((kv, vv) :: r)) _ _ _
    refine wpAny_bind (wpAny_mono (h fz A hA kp s r) ?_ fun _ _ x => x)
    rintro kv s1 ⟨fz1, ak, st1, le1, rk, r1, x, rfl, h1⟩
    refine wpAny_bind (wpAny_holding (wpAny_bind (wpAny_mono (h1 fz1 A hA kp s1 r1) ?_ fun _ _ x => x)))
    rintro vv s2 ⟨fz2, av, st2, le2, rv, r2, h2⟩
    refine wpAny_bind (wpAny_standAt (wpAny_pure ?_))
    refine wpAny_bind (wpAny_holding (wpAny_mono (evp_run hA r2 h2) ?_ fun _ _ x => x))
    rintro vs s3 ⟨fz3, kvs, al, st3, le3, hc, hd, r3, hq⟩
    obtain ⟨t, rfl⟩ := rk.inv
    exact wpAny_pure ⟨fz3, (x, vv) :: kvs, (x, av) :: al, st3, (le1.trans le2).trans le3, ⟨strKind_is _ _ _ _, rfl, hc⟩, .cons (rv.mono le3) hd, r3, hq⟩
theorem ev_DictP {keys : List (Option Expr)} {values : List Expr} {pos : Pos} {Q : V → ST → Prop} (l : List (Expr × Expr))
    (hshape : (evalEachOpt keys env).zip ((evalEach values env).map fun v => do let x ← v; standAt pos; pure x) = (pairsOf env pos l).map fun p => (some p.1, p.2)) (h0 : l ≠ []) (hlen : l.length ≤ 15)
    (h : evp C n env l st fun al st1 => Q (.dct (mrg al)) st1) : ev C n env (.Dict keys values pos) st Q := fun fz A hA kp s r => by
  refine wpAny_Dict_pairs (knd := strKind C.prog C.w) hshape (fun q => h0 (by simpa [pairsOf] using q)) (by simpa [pairsOf] using hlen) ?_
  have r0 : Rp C fz kp env st { s with heap := s.heap.push { cls := .type "dict", data := .dict #[] } } := r.ext s.toks fun b o e => Heap.get?_push_of_some _ e
  have f0 := r.fresh (Nat.le_refl _)
  have ho : (s.heap.push { cls := .type "dict", data := .dict #[] }).get? s.heap.objs.size = some { cls := .type "dict", data := .dict #[] } := Heap.get?_push_size _ rfl
  have rp := r0.park (wr := [s.heap.objs.size]) fun b hb => by rw [List.mem_singleton] at hb; subst hb; exact f0
  refine wpAny_mono (evp_run hA rp h) ?_ fun _ _ x => x
  rintro vs s1 ⟨fz1, kvs, al, st1, le1, hc, hd, r1, hq⟩
  have ho1 : s1.heap.get? s.heap.objs.size = some { cls := .type "dict", data := .dict #[] } := r1.kps _ _ (by rw [kpW_in (List.mem_singleton.mpr rfl)]; exact ho)
  obtain ⟨r2, f2⟩ := r1.unpark (fun b hb => by rw [List.mem_singleton] at hb; subst hb; exact ⟨_, ho⟩) fun b hb => by rw [List.mem_singleton] at hb; subst hb; exact f0.k
  have f3 := f2 _ (List.mem_singleton.mpr rfl)
  refine ⟨kvs, hc, ?_, fun h' hm hs' => ?_⟩
  · obtain ⟨o, ho2, hd2⟩ := Heap.dictOf_iff.mp (Heap.DictOf.new (knd := strKind C.prog C.w) s.heap)
    rw [ho] at ho2; cases ho2
    exact Heap.dictOf_iff.mpr ⟨_, ho1, hd2⟩
  · obtain ⟨o, ho2, hd2⟩ := Heap.dictOf_iff.mp hm
    have r3 := r2.off (wr := [s.heap.objs.size]) (s1.toks + vs.length) (h' := h') f2 fun b o hb e => (hs'.2 b (fun q => hb (by simp [q]))).trans e
    exact ⟨_, _, st1, le1.trans (Le.ins _ f3.f), .dct (insH_self ..) hd2 (beq_eq_false_iff_ne.mpr fun e => by have := r.big; rw [e] at this; exact absurd this (by decide)) ((repMrg hd .nil).mono (Le.ins _ f3.f)), r3.addF ho2 f3.f f3.k f3.m f3.l, hq⟩

-- slices up to a bound
theorem RepL.take {g : OH} : ∀ {l : List V} {vs : List Value} (k : Nat), RepL C g l vs → RepL C g (l.take k) (vs.take k)
  | _, _, 0, _ => by simpa using RepL.nil
  | _, _, k + 1, .nil => by simpa using RepL.nil
  | _, _, k + 1, .cons a b => by simpa using RepL.cons a (RepL.take k b)
theorem ev_Slice {value u : Expr} {p pos : Pos} {Q : V → ST → Prop}
    (h : ev C n env value st fun a st1 => ∃ l, a = .lst l ∧ ev C n env u st1 fun b st2 => ∃ k : Nat, b = .int k ∧ l.length ≤ 1000 ∧ Q (.lst (l.take k)) st2) : ev C n env (.Subscript value (.Slice none (some u) none p) pos) st Q := fun fz A hA kp s r => by
  rw [eval_Subscript]
  refine wpAny_bind (wpAny_mono (h fz A hA kp s r) ?_ fun _ _ x => x)
  rintro o s1 ⟨fz1, a, st1, le1, ra, r1, l, rfl, h1⟩
  refine wpAny_bind (wpAny_holding (wpAny_Slice ?_))
  refine wpAny_pure ?_
  rw [evalPart_some]
  refine (wpAny_mono (h1 fz1 A hA kp s1 r1) ?_ fun _ _ x => x)
  rintro uv s2 ⟨fz2, b, st2, le2, rb, r2, k, rfl, hz, hq⟩
  refine wpAny_pure ?_
  obtain ⟨t, rfl⟩ := rb.inv
  have r3 : Rp C fz2 kp env st2 { s2 with heap := s2.heap.push { cls := .type "slice", data := .fields #[.none, .int k t, .none] } } := r2.ext s2.toks fun b o e => Heap.get?_push_of_some _ e
  cases ra.mono le2 with
  | @lst ad xs m _ k1 k2 =>
    have hlen := k2.size
    have hL := isLst_of r3 k1
    have fin : wpAny C.M A (operate [.ref s2.heap.objs.size, .ref ad] (getItem (.ref ad) (.ref s2.heap.objs.size))) (fun v s3 => wpAny C.M A (letTemporaryGo value (.ref ad) v >>= fun _ => pure v)
        (Pst C (RepV C) fz kp env Q) (fun _ _ => False) s3) (fun _ _ => False) { s2 with heap := s2.heap.push { cls := .type "slice", data := .fields #[.none, .int k t, .none] } } := by
      refine wpAny_operating (wpAny_getItem_list_slice hL (Heap.IsSliceOf.new _ _ _ _) .none (.int k t) .none (by simp) ?_ (by rw [sizeLine_eq]; omega))
      refine wpAny_bind (wpAny_letTemporaryGo (wpAny_pure ?_))
      obtain ⟨le, r'⟩ := r3.pushF { cls := .type "list", data := .seq (slicePick xs none (some (k : Int)) none) } rfl s2.toks
      refine ⟨_, _, st2, (le1.trans le2).trans le, .lst (insH_self ..) ?_, r', hq⟩
      have h4 := k2.mono le
      rw [slicePick_upto' xs k] at h4 ⊢
      exact RepL.take k h4
    refine wpAny_bind (wpAny_standAt ?_)
    first
      | (refine wpAny_bind ?_
         rw [getitemInPython_of_ne hL.typeIs.not_modules]
         refine wpAny_bind (wpAny_specialOf hL.typeIs PySem.slot_list_getitem.lookup ?_)
         first
           | exact wpAny_pure (wpAny_bind fin)
           | exact wpAny_bind (wpAny_pure (wpAny_bind fin))
           | exact wpAny_bind fin)
      | (refine wpAny_bind (wpAny_specialOf hL.typeIs PySem.slot_list_getitem.lookup ?_)
         first
           | exact wpAny_bind (wpAny_pure (wpAny_bind fin))
           | exact wpAny_bind fin)
end
end Mine
end

section
open PySem PySem.Calls PySem.W PyProof.Rows PySem.SeqAt
set_option maxRecDepth 100000
set_option Elab.async false
set_option linter.unusedVariables false
namespace Mine

/-- values that are all tuples, texts and whole numbers -/
inductive TupV : V → Prop
  | str (x) : TupV (.str x)
  | int (i) : TupV (.int i)
  | tup {l} : (∀ x ∈ l, TupV x) → TupV (.tup l)

section
variable {C : Cx}

theorem hashV_tup (w : World) (l : List V) : hashV w (.tup l) = reduceHash (Builtin.Tuple.tupleHashOf (l.map (hashV w))) := by
  rw [hashV]; congr 2; simp
theorem RepL.inj {g : OH} : ∀ {l l' : List V} {vs : List Value}, (∀ x ∈ l, ∀ y v, TupV y → RepV C g x v → RepV C g y v → x = y) → (∀ y ∈ l', TupV y) → RepL C g l vs → RepL C g l' vs → l = l'
  | _, _, _, _, _, .nil, .nil => rfl
  | _, _, _, h, h', .cons a b, .cons a' b' => by
    rw [h _ (.head _) _ _ (h' _ (.head _)) a a', RepL.inj (fun x hx => h x (.tail _ hx)) (fun y hy => h' y (.tail _ hy)) b b']
theorem TupV.inj {g : OH} {x : V} (hx : TupV x) : ∀ {y : V} {v : Value}, TupV y → RepV C g x v → RepV C g y v → x = y := by
  induction hx with
  | str x => intro y v hy r1 r2; (first | obtain ⟨_, rfl⟩ := r1.inv | obtain rfl := r1.inv); cases hy <;> cases r2; rfl
  | int x => intro y v hy r1 r2; (first | obtain ⟨_, rfl⟩ := r1.inv | obtain rfl := r1.inv); cases hy <;> cases r2; rfl
  | @tup l hl ih =>
    intro y v hy r1 r2
    obtain ⟨_, _, _, rfl, e1, k1⟩ := r1.inv
    cases hy with
    | str => cases r2
    | int => cases r2
    | tup hl' =>
      obtain ⟨_, _, _, e0, e2, k2⟩ := r2.inv
      cases e0
      rw [e1] at e2; cases e2
      rw [RepL.inj (fun x hx y v hy a b => ih x hx hy a b) hl' k1 k2]
theorem RepL.map {g g' : OH} : ∀ {l : List V} {vs : List Value}, (∀ x ∈ l, ∀ v, RepV C g x v → RepV C g' x v) → RepL C g l vs → RepL C g' l vs
  | _, _, _, .nil => .nil
  | _, _, h, .cons a b => .cons (h _ (.head _) _ a) (RepL.map (fun x hx => h x (.tail _ hx)) b)
theorem TupV.keeps {h h' : Heap} {d : Addr} {o : Obj} {es : Array DictEntry} {ep : Nat} (ho : h.get? d = some o) (hd : o.data = .dict es ep) (hs : Heap.SameBut d h h') {x : V} (hx : TupV x) : ∀ {v : Value}, RepV C h.get? x v → RepV C h'.get? x v := by
  induction hx with
  | str x => intro v r; (first | obtain ⟨_, rfl⟩ := r.inv | obtain rfl := r.inv); exact .str _ _
  | int x => intro v r; (first | obtain ⟨_, rfl⟩ := r.inv | obtain rfl := r.inv); exact .int _ _
  | @tup l hl ih =>
    intro v r
    obtain ⟨_, _, _, rfl, e, k⟩ := r.inv
    refine .tup ((hs.2 _ fun q => ?_).trans e) (RepL.map (fun x hx v a => ih x hx a) k)
    subst q; rw [ho] at e; cases e; simp at hd

def drw : V → Nat
  | .tup l => (l.attach.map fun ⟨x, _⟩ => drw x).sum + 1
  | _ => 1
theorem drw_tup (l : List V) : drw (.tup l) = (l.map drw).sum + 1 := by rw [drw]; congr 2; simp
def dep : V → Nat
  | .tup l => (l.attach.map fun ⟨x, _⟩ => dep x).foldr max 0 + 1
  | _ => 0
theorem dep_tup (l : List V) : dep (.tup l) = (l.map dep).foldr max 0 + 1 := by rw [dep]; congr 2; simp
theorem dep_mem {l : List V} {x : V} (h : x ∈ l) : dep x < dep (.tup l) := by
  rw [dep_tup]
  induction l with
  | nil => cases h
  | cons y l ih =>
    simp only [List.map_cons, List.foldr_cons]
    rcases List.mem_cons.mp h with rfl | h
    · have := Nat.le_max_left (dep x) ((l.map dep).foldr max 0); omega
    · have := ih h; have := Nat.le_max_right (dep y) ((l.map dep).foldr max 0); omega

theorem TupV.pyHash {x : V} (hx : TupV x) : ∀ {A : Around} {E : Value → Shared → Prop} {s : Shared} {v : Value} {Q : Int → Shared → Prop}, A.units + dep x < cLine → RepV C s.heap.get? x v → Q (hashV C.w x) { s with toks := s.toks + drw x } → wpAny C.M A (PySem.pyHash v) Q E s := by
  induction hx with
  | str x => intro A E s v Q hu r h; (first | obtain ⟨_, rfl⟩ := r.inv | obtain rfl := r.inv); exact wpAny_pyHash_str (by simpa [hashV, drw] using h)
  | int x => intro A E s v Q hu r h; (first | obtain ⟨_, rfl⟩ := r.inv | obtain rfl := r.inv); exact wpAny_pyHash_int (by simpa [hashV, drw] using h)
  | @tup l hl ih =>
    intro A E s v Q hu r h
    obtain ⟨a, items, n, rfl, ho, hi⟩ := r.inv
    have hT : s.TypeIs (.ref a) "tuple" := ⟨_, ho, rfl⟩
    unfold PySem.pyHash
    first | unfold pyHashByItsType | skip
    first | refine wpAny_bind (wpAny_cRoomFor_or (.inr (by omega)) ?_) | skip
    refine wpAny_bind (wpAny_specialOf hT F.slot_tuple_hash.lookup ?_)
    show wpAny _ _ (if (some (Value.builtin "tuple.__hash__") == some Value.none) = true then _ else _) Q E s
    rw [if_neg (by rw [beq_builtin_none]; exact Bool.false_ne_true)]
    refine wpAny_bind (wpAny_specialOf hT F.slot_tuple_hash.lookup ?_)
    show wpAny _ _ (callSpecialIfBoundUnlessNone? (.ref a) "__hash__" _ >>= _) Q E s
    refine wpAny_bind (wpAny_callSpecialIfBoundUnlessNone?_slot hT F.slot_tuple_hash (wpAny_call_entry F.slot_tuple_hash hT F.entry_tuple_hash ?_ (F.args_tuple_hash_1 _)))
    show wpAny _ _ (Builtin.Tuple.tupleItemsOf (.ref a) >>= _) _ _ s
    refine wpAny_bind (wpAny_tupleItemsOf ho rfl ?_)
    refine wpAny_bind ?_
    rw [← Array.forIn_toList]
    refine wpAny_forIn_list _
      (fun rest (b : Array Int) s' => ∃ done left, l = done ++ left ∧ RepL C s.heap.get? left rest ∧ b.toList = done.map (hashV C.w) ∧ s' = { s with toks := s.toks + (done.map drw).sum })
      _ ?_ ?_ _ _ ⟨[], l, rfl, hi, rfl, rfl⟩
    · rintro x rest b s' ⟨done, left, hlr, hl', hb, rfl⟩
      cases hl' with
      | @cons k _ ks' _ h1 hl' =>
        have hkm : k ∈ l := by rw [hlr]; simp
        have hu' : A.in1.units + dep k < cLine := by
          have e1 : A.in1.units = A.units + 1 := rfl
          have := dep_mem hkm
          omega
        refine wpAny_bind (ih k hkm hu' h1 ?_)
        first
          | exact wpAny_pure ⟨done ++ [k], ks', by rw [hlr]; simp, hl', by simp [hb], by simp [Nat.add_assoc]⟩
          | exact wpAny_bind (wpAny_pure (wpAny_pure ⟨done ++ [k], ks', by rw [hlr]; simp, hl', by simp [hb], by simp [Nat.add_assoc]⟩))
    · rintro b s' ⟨done, left, hlr, hl', hb, rfl⟩
      cases hl'
      rw [List.append_nil] at hlr
      subst hlr
      show wpAny _ _ (retInt (Builtin.Tuple.tupleHashOf b.toList)) _ _ _
      rw [hb]
      refine wpAny_ret_mkInt ?_
      rw [hashV_tup, drw_tup] at h
      show wpAny _ _ (if (decide (-(2 : Int) ^ 63 ≤ Builtin.Tuple.tupleHashOf (l.map (hashV C.w))) && decide (Builtin.Tuple.tupleHashOf (l.map (hashV C.w)) < 2 ^ 63)) = true then _ else _) Q E _
      unfold reduceHash at h
      by_cases hr : (decide (-(2 : Int) ^ 63 ≤ Builtin.Tuple.tupleHashOf (l.map (hashV C.w))) && decide (Builtin.Tuple.tupleHashOf (l.map (hashV C.w)) < 2 ^ 63)) = true
      · rw [if_pos hr]
        rw [if_pos hr] at h
        exact wpAny_pure (by simpa [Nat.add_assoc] using h)
      · rw [if_neg hr]
        rw [if_neg hr] at h
        exact wpAny_bind (wpAny_rule (wpAny_pure (by simpa [Nat.add_assoc] using h)))

theorem TupV.quiet {x : V} (hx : TupV x) : ∀ {m : Nat} {A : Around} {E : Value → Shared → Prop} {s : Shared} {v : Value} {Q : Bool → Shared → Prop}, dep x ≤ m → RepV C s.heap.get? x v → Q true s → wpAny C.M A (eqIsQuiet m v) Q E s := by
  induction hx with
  | str x => intro m A E s v Q hm r h; (first | obtain ⟨_, rfl⟩ := r.inv | obtain rfl := r.inv); rw [eqIsQuiet_byValue m rfl]; exact wpAny_pure h
  | int x => intro m A E s v Q hm r h; (first | obtain ⟨_, rfl⟩ := r.inv | obtain rfl := r.inv); rw [eqIsQuiet_byValue m rfl]; exact wpAny_pure h
  | @tup l hl ih =>
    intro m A E s v Q hm r h
    obtain ⟨a, items, n, rfl, ho, hi⟩ := r.inv
    have hT : s.TypeIs (.ref a) "tuple" := ⟨_, ho, rfl⟩
    obtain ⟨m, rfl⟩ : ∃ k, m = k + 1 := ⟨m - 1, by rw [dep_tup] at hm; omega⟩
    unfold eqIsQuiet
    refine wpAny_bind (wpAny_specialOf hT F.slot_tuple_eq.lookup ?_)
    show wpAny _ _ (isInstance (.ref a) (.type "tuple") >>= _) _ _ s
    refine wpAny_bind (wpAny_isInstance hT isSubtype_tuple_tuple ?_)
    simp only [Bool.not_true, Bool.false_eq_true, if_false]
    refine wpAny_bind (wpAny_seqItems ho rfl ?_)
    refine wpAny_bind ?_
    show wpAny _ _ (forIn items _ _) _ _ s
    rw [← Array.forIn_toList]
    refine wpAny_forIn_list _ (fun rest r s' => r.1 = none ∧ s' = s ∧ ∃ left, RepL C s.heap.get? left rest ∧ ∀ x ∈ left, x ∈ l) _ ?_ ?_ _ _ ⟨rfl, rfl, l, hi, fun _ h => h⟩
    · rintro v rest r s' ⟨hr, rfl, left, hl', hsub⟩
      cases hl' with
      | @cons x _ left _ hx1 hl' =>
        have hxl := hsub x (.head _)
        refine wpAny_bind (ih x hxl (by have := dep_mem hxl; omega) hx1 ?_)
        simp only [Bool.not_true, Bool.false_eq_true, if_false]
        exact wpAny_pure ⟨rfl, rfl, left, hl', fun y hy => hsub y (.tail _ hy)⟩
    · rintro ⟨r1, r2⟩ s' ⟨hr, rfl, _⟩
      simp only at hr
      subst hr
      exact wpAny_pure h
end
end Mine
end

section
open PySem PySem.Calls PySem.W PyProof.Rows PySem.SeqAt
set_option maxRecDepth 100000
set_option Elab.async false
set_option linter.unusedVariables false
set_option linter.unusedSimpArgs false
namespace Mine

/-- the types that the law makes -/
inductive Ty where
  | u8 | boo | par | var
  | box (t : Ty)
  | pair (a b : Ty)
  deriving DecidableEq
def tyV : Ty → V
  | .u8 => .tup [.str "int", .str "u8"]
  | .boo => .tup [.str "bool"]
  | .par => .tup [.str "param", .str "X"]
  | .var => .tup [.str "var", .int 3]
  | .box t => .tup [.str "box", tyV t]
  | .pair a b => .tup [.str "tuple", .tup [tyV a, tyV b]]
def tyD : Ty → PyData
  | .u8 => .tuple [.str "int", .str "u8"]
  | .boo => .tuple [.str "bool"]
  | .par => .tuple [.str "param", .str "X"]
  | .var => .tuple [.str "var", .int 3]
  | .box t => .tuple [.str "box", tyD t]
  | .pair a b => .tuple [.str "tuple", .tuple [tyD a, tyD b]]
def hgt : Ty → Nat
  | .box t => hgt t + 1
  | .pair a b => max (hgt a) (hgt b) + 1
  | _ => 0
theorem data_ty : ∀ t, dataV (tyV t) = some (tyD t)
  | .u8 | .boo | .par | .var => by simp [tyV, tyD, dataV, dataL]
  | .box t => by simp [tyV, tyD, dataV, dataL, data_ty t]
  | .pair a b => by simp [tyV, tyD, dataV, dataL, data_ty a, data_ty b]
theorem tup_ty : ∀ t, TupV (tyV t)
  | .u8 => .tup (by simp only [List.mem_cons, List.not_mem_nil, or_false]; rintro x (rfl | rfl) <;> exact .str _)
  | .boo => .tup (by simp only [List.mem_cons, List.not_mem_nil, or_false]; rintro x rfl; exact .str _)
  | .par => .tup (by simp only [List.mem_cons, List.not_mem_nil, or_false]; rintro x (rfl | rfl) <;> exact .str _)
  | .var => .tup (by simp only [List.mem_cons, List.not_mem_nil, or_false]; rintro x (rfl | rfl); exact .str _; exact .int _)
  | .box t => .tup (by simp only [List.mem_cons, List.not_mem_nil, or_false]; rintro x (rfl | rfl); exact .str _; exact tup_ty t)
  | .pair a b => .tup (by
    simp only [List.mem_cons, List.not_mem_nil, or_false]
    rintro x (rfl | rfl)
    · exact .str _
    · exact .tup (by simp only [List.mem_cons, List.not_mem_nil, or_false]; rintro x (rfl | rfl); exact tup_ty a; exact tup_ty b))
theorem dep_ty : ∀ t, dep (tyV t) ≤ 2 * hgt t + 1
  | .u8 | .boo | .par | .var => by simp [tyV, dep_tup, dep, hgt]
  | .box t => by have := dep_ty t; simp [tyV, dep_tup, dep, hgt]; omega
  | .pair a b => by have := dep_ty a; have := dep_ty b; simp [tyV, dep_tup, dep, hgt]; omega
theorem tagNe : (Str.ofString "int" ≠ Str.ofString "bool") ∧ (Str.ofString "int" ≠ Str.ofString "param") ∧ (Str.ofString "int" ≠ Str.ofString "var") ∧ (Str.ofString "int" ≠ Str.ofString "box") ∧ (Str.ofString "int" ≠ Str.ofString "tuple") ∧ (Str.ofString "bool" ≠ Str.ofString "int") ∧ (Str.ofString "bool" ≠ Str.ofString "param") ∧ (Str.ofString "bool" ≠ Str.ofString "var") ∧ (Str.ofString "bool" ≠ Str.ofString "box") ∧ (Str.ofString "bool" ≠ Str.ofString "tuple") ∧ (Str.ofString "param" ≠ Str.ofString "int") ∧ (Str.ofString "param" ≠ Str.ofString "bool") ∧ (Str.ofString "param" ≠ Str.ofString "var") ∧ (Str.ofString "param" ≠ Str.ofString "box") ∧ (Str.ofString "param" ≠ Str.ofString "tuple") ∧ (Str.ofString "var" ≠ Str.ofString "int") ∧ (Str.ofString "var" ≠ Str.ofString "bool") ∧ (Str.ofString "var" ≠ Str.ofString "param") ∧ (Str.ofString "var" ≠ Str.ofString "box") ∧ (Str.ofString "var" ≠ Str.ofString "tuple") ∧ (Str.ofString "box" ≠ Str.ofString "int") ∧ (Str.ofString "box" ≠ Str.ofString "bool") ∧ (Str.ofString "box" ≠ Str.ofString "param") ∧ (Str.ofString "box" ≠ Str.ofString "var") ∧ (Str.ofString "box" ≠ Str.ofString "tuple") ∧ (Str.ofString "tuple" ≠ Str.ofString "int") ∧ (Str.ofString "tuple" ≠ Str.ofString "bool") ∧ (Str.ofString "tuple" ≠ Str.ofString "param") ∧ (Str.ofString "tuple" ≠ Str.ofString "var") ∧ (Str.ofString "tuple" ≠ Str.ofString "box") := by decide +kernel
theorem eqv1 {xs ys : List PyData} : PyData.eqv (.tuple xs) (.tuple ys) = PyData.eqvAll xs ys := by rw [PyData.eqv]
theorem eqv2 {x y : PyData} {xs ys : List PyData} : PyData.eqvAll (x :: xs) (y :: ys) = (PyData.eqv x y && PyData.eqvAll xs ys) := by rw [PyData.eqvAll]
theorem eqv3 : PyData.eqvAll [] [] = true := by rw [PyData.eqvAll]
theorem eqv4 {x : PyData} {xs : List PyData} : PyData.eqvAll [] (x :: xs) = false := by rw [PyData.eqvAll]
theorem eqv5 {x : PyData} {xs : List PyData} : PyData.eqvAll (x :: xs) [] = false := by rw [PyData.eqvAll]
theorem eqv6 {x y : Str} : PyData.eqv (.str x) (.str y) = (x == y) := by rw [PyData.eqv]
theorem eqv7 {x y : Int} : PyData.eqv (.int x) (.int y) = (x == y) := by rw [PyData.eqv]
theorem tyD_eqv : ∀ a b, PyData.eqv (tyD a) (tyD b) = decide (a = b) := by
  intro a
  induction a with
  | u8 => intro b; cases b <;> simp [tyD, eqv1, eqv2, eqv3, eqv4, eqv5, eqv6, eqv7, tagNe]
  | boo => intro b; cases b <;> simp [tyD, eqv1, eqv2, eqv3, eqv4, eqv5, eqv6, eqv7, tagNe]
  | par => intro b; cases b <;> simp [tyD, eqv1, eqv2, eqv3, eqv4, eqv5, eqv6, eqv7, tagNe]
  | var => intro b; cases b <;> simp [tyD, eqv1, eqv2, eqv3, eqv4, eqv5, eqv6, eqv7, tagNe]
  | box t ih => intro b; cases b <;> simp [tyD, eqv1, eqv2, eqv3, eqv4, eqv5, eqv6, eqv7, tagNe, ih]
  | pair x y ihx ihy => intro b; cases b <;> simp [tyD, eqv1, eqv2, eqv3, eqv4, eqv5, eqv6, eqv7, tagNe, ihx, ihy]
theorem canLay_ty : ∀ t, PyData.canLay0 (tyD t) = true
  | .u8 | .boo | .par | .var => by simp [tyD, PyData.canLay0, PyData.canLayAll0]; decide +kernel
  | .box t => by simp [tyD, PyData.canLay0, PyData.canLayAll0, canLay_ty t]; decide +kernel
  | .pair a b => by simp [tyD, PyData.canLay0, PyData.canLayAll0, canLay_ty a, canLay_ty b]; decide +kernel
theorem depth_ty : ∀ t, (tyD t).depth ≤ 2 * hgt t + 1
  | .u8 | .boo | .par | .var => by simp [tyD, PyData.depth, PyData.depthAll, hgt]
  | .box t => by have := depth_ty t; simp [tyD, PyData.depth, PyData.depthAll, hgt]; omega
  | .pair a b => by have := depth_ty a; have := depth_ty b; simp [tyD, PyData.depth, PyData.depthAll, hgt]; omega
theorem shaped_ty {t : Ty} (h : hgt t ≤ 3) : shaped (tyD t) = true := by
  have := depth_ty t
  simp [shaped, canLay_ty]; omega

theorem tyV_inj : ∀ {a b : Ty}, tyV a = tyV b → a = b := fun {a b} h => by
  have e : some (tyD a) = some (tyD b) := by rw [← data_ty, ← data_ty, h]
  have e2 := Option.some.inj e
  have := tyD_eqv a b
  rw [e2, tyD_eqv] at this
  simpa using this.symm

/-- the keys of the answers kept -/
abbrev Key := Str × Ty
def keyV (k : Key) : V := .tup [.str k.1, .tup [], tyV k.2]
def keyD (k : Key) : PyData := .tuple [.str k.1, .tuple [], tyD k.2]
theorem tup_key (k : Key) : TupV (keyV k) := .tup (by
  simp only [List.mem_cons, List.not_mem_nil, or_false]
  rintro x (rfl | rfl | rfl)
  · exact .str _
  · exact .tup (fun x h => absurd h (by simp))
  · exact tup_ty _)
theorem keyV_inj {a b : Key} (h : keyV a = keyV b) : a = b := by
  obtain ⟨a1, a2⟩ := a; obtain ⟨b1, b2⟩ := b
  simp only [keyV, V.tup.injEq, List.cons.injEq, V.str.injEq, and_true, true_and] at h
  rw [h.1, tyV_inj h.2]
theorem data_key (k : Key) : dataV (keyV k) = some (keyD k) := by simp [keyV, keyD, dataV, dataL, data_ty]
theorem keyD_eqv (a b : Key) : PyData.eqv (keyD a) (keyD b) = decide (a = b) := by
  obtain ⟨a1, a2⟩ := a; obtain ⟨b1, b2⟩ := b
  simp [keyD, eqv1, eqv2, eqv3, eqv6, tyD_eqv, Prod.mk.injEq]
  rw [Bool.eq_iff_iff]; simp

/-- a text that may be laid -/
def okKey (k : Key) : Prop := PyData.strOk k.1 = true ∧ hgt k.2 ≤ 3

noncomputable def keyKind (C : Cx) : HeapKind C.prog C.w Key where
  is := fun h k a => okKey k ∧ RepV C h.get? (keyV k) (.ref a)
  hash := fun k => hashV C.w (keyV k)
  draws := fun k => drw (keyV k)
  room := fun A => A.units + 64 < cLine
  inj := fun hx hy => keyV_inj ((tup_key _).inj (tup_key _) hx.2 hy.2)
  keeps := fun hx ho hd hs => ⟨hx.1, (tup_key _).keeps ho hd hs hx.2⟩
  pyHash := fun {A E s k a Q} hu hk h => (tup_key k).pyHash (by
    have h1 := dep_ty k.2
    have h2 := hk.1.2
    have : dep (keyV k) ≤ 8 := by simp [keyV, dep_tup, dep]; omega
    omega) hk.2 h
  eqBool := fun {A E s x y a b Q} hu hx hy h => by
    unfold PySem.eqBool
    try with_reducible refine wpAny_holding ?_
    show wpAny _ _ (if (Value.ref a == Value.ref b) = true then _ else _) Q E s
    by_cases hab : (Value.ref a == Value.ref b) = true
    · rw [if_pos hab]
      have e : a = b := by have := eq_of_beq hab; injection this
      subst e
      obtain rfl : x = y := keyV_inj ((tup_key _).inj (tup_key _) hx.2 hy.2)
      exact wpAny_bind (wpAny_rule (wpAny_pure (by simpa using h)))
    · rw [if_neg hab]
      obtain ⟨as, xa⟩ := reads_of (Le.refl _) hx.2 (data_key x)
      obtain ⟨bs, xb⟩ := reads_of (Le.refl _) hy.2 (data_key y)
      have lay : ∀ k : Key, okKey k → PyData.canLay0 (keyD k) = true := fun k hk => by
        simp [keyD, PyData.canLay0, PyData.canLayAll0, canLay_ty, hk.1]
      have dp : (keyD x).depth ≤ 9 := by have h1 := depth_ty x.2; have h2 := hx.1.2; simp [keyD, PyData.depth, PyData.depthAll]; omega
      refine wpAny_bind (eqOverData _ _ _ _ _ _ _ _ _ _ _ _ xa xb (lay x hx.1) (lay y hy.1) (by have := Nat.min_le_left (keyD x).depth (keyD y).depth; omega) ?_)
      rw [keyD_eqv]
      exact wpAny_truthy_bool h
  quiet := fun {A E s k a Q} hk h => (tup_key k).quiet (by
    have h1 := dep_ty k.2
    have h2 := hk.1.2
    simp [keyV, dep_tup, dep]; omega) hk.2 h

section
variable {C : Cx} {n : Nat} {env : Env} {st : ST}

def encT (m : List (Key × V)) : List (V × V) := m.map fun p => (keyV p.1, p.2)
theorem tdct_mu {fz kp : OH} {s : Shared} {a : Addr} {m : List (Key × V)} (r : Rp C fz kp env st s) (hm : st.mu a = some (.tdct (encT m))) (hok : ∀ p ∈ m, okKey p.1) (hn : (m.map (·.1)).Nodup) :
    ∃ xs : List (Key × Addr × Value), s.heap.DictOfH (keyKind C) a xs ∧ xs.map (·.1) = m.map (·.1) ∧ (∀ x ∈ xs, RepV C fz (keyV x.1) (.ref x.2.1)) ∧ ∀ k v, m.lookup k = some v → ∃ p, atKey xs k = some p ∧ RepV C fz v p.2 := by
  obtain ⟨ob, h1, h2⟩ := r.mus _ _ hm
  cases h2 with
  | @tdct o es ep kvs l hx hd he hr =>
    have key : ∀ (m : List (Key × V)) (kvs : List (V × Addr × Value)), RepT C fz (encT m) kvs → (∀ p ∈ m, okKey p.1) → (m.map (·.1)).Nodup → ∃ xs : List (Key × Addr × Value), kvs = xs.map (fun x => (keyV x.1, x.2)) ∧ xs.map (·.1) = m.map (·.1) ∧ (∀ x ∈ xs, RepV C fz (keyV x.1) (.ref x.2.1)) ∧ ∀ k v, m.lookup k = some v → ∃ p, atKey xs k = some p ∧ RepV C fz v p.2 := by
      intro m
      induction m with
      | nil => intro kvs hr _ _; cases hr; exact ⟨[], rfl, rfl, fun x hx => by simp at hx, fun k v e => by simp at e⟩
      | cons p m ih =>
        intro kvs hr hok hn
        obtain ⟨k, v⟩ := p
        cases hr with
        | @cons _ _ a v' _ vs rk rv hr =>
          rw [List.map_cons, List.nodup_cons] at hn
          obtain ⟨xs, e1, e2, e3, e4⟩ := ih vs hr (fun p hp => hok p (.tail _ hp)) hn.2
          refine ⟨(k, a, v') :: xs, by rw [e1]; rfl, by simp [e2], fun x hx => ?_, fun k' v'' e => ?_⟩
          · rcases List.mem_cons.mp hx with rfl | hx
            · exact rk
            · exact e3 x hx
          · rw [List.lookup_cons] at e
            by_cases q : k' = k
            · subst q
              simp at e; subst e
              exact ⟨(a, v'), by simp [atKey], rv⟩
            · have : (k' == k) = false := by simpa using q
              rw [this] at e
              obtain ⟨p, e5, e6⟩ := e4 k' v'' e
              refine ⟨p, ?_, e6⟩
              have : ¬ k = k' := fun h => q h.symm
              simpa [atKey, List.find?_cons, this] using e5
    obtain ⟨xs, e1, e2, e3, e4⟩ := key m kvs hr hok hn
    refine ⟨xs, ⟨_, es, ep, h1, hx, hd, ?_, fun x hx => ⟨?_, (e3 x hx).mono r.fzs⟩, by rw [e2]; exact hn⟩, e2, e3, e4⟩
    · rw [he, e1, List.map_map]; rfl
    · have : x.1 ∈ m.map (·.1) := by rw [← e2]; exact List.mem_map_of_mem hx
      obtain ⟨p, hp, e⟩ := List.mem_map.mp this
      rw [← e]; exact hok p hp
theorem sysM {a : Addr} (h : 3 < a) : (a == sysModules) = false := beq_eq_false_iff_ne.mpr fun e => by rw [e] at h; exact absurd h (by decide)
theorem roomK {A : Around} (h : Ok n A) : (keyKind C).room A.in1 := by
  have := h.units
  show A.in1.units + 64 < cLine
  have e1 : A.in1.units = A.units + 1 := rfl
  omega
theorem cmp_notinT {a : Addr} {k : Key} {m : List (Key × V)} {Q : V → ST → Prop} (hm : st.mu a = some (.tdct (encT m))) (hok : ∀ p ∈ m, okKey p.1) (hn : (m.map (·.1)).Nodup) (hk : okKey k) (h : Q (.bool (m.lookup k).isNone) st) :
    op2 C n env (compareOp .NotIn) (keyV k) (.val (.ref a)) st Q := fun fz va vb ra rb A hA kp s r => by
  (first | obtain ⟨_, rfl⟩ := rb.inv | obtain rfl := rb.inv)
  obtain ⟨xs, h1, h2, h3, h4⟩ := tdct_mu r hm hok hn
  obtain ⟨ka, rfl⟩ : ∃ ka, va = .ref ka := by unfold keyV at ra; obtain ⟨a0, _, _, e0, _⟩ := ra.inv; exact ⟨a0, e0⟩
  refine wpAny_notIn_heap (knd := keyKind C) (roomK hA) ⟨hk, ra.mono r.fzs⟩ (sysM (r.mlow _ _ hm)) h1 ?_
  refine ⟨fz, _, st, Le.refl _, .bool _, r.toks _, ?_⟩
  have e : (!(atKey xs k).isSome) = (m.lookup k).isNone := by
    cases q : m.lookup k with
    | some v => obtain ⟨p, e1, _⟩ := h4 k v q; rw [e1]; rfl
    | none =>
      have : atKey xs k = none := atKey_none_of_get fun j p hj => by
        have hmem : k ∈ m.map (·.1) := by rw [← h2]; exact List.mem_map.mpr ⟨(k, p), List.mem_of_getElem? hj, rfl⟩
        obtain ⟨⟨k', v⟩, hp, e⟩ := List.mem_map.mp hmem
        dsimp only at e; subst e
        have := List.lookup_eq_none_iff.mp q (k', v) hp
        simp at this
      rw [this]; rfl
  rw [e]; exact h
theorem sub_T {value slice : Expr} {a : Addr} {k : Key} {v : V} {m : List (Key × V)} {Q : V → ST → Prop} (hs : ∀ o i, subscripted slice false o i = operate [o, i] (getItem o i)) (hm : st.mu a = some (.tdct (encT m))) (hok : ∀ p ∈ m, okKey p.1) (hn : (m.map (·.1)).Nodup) (hk : okKey k)
    (hv : m.lookup k = some v) (h : Q v st) : sub C n env value slice (.val (.ref a)) (keyV k) st Q := fun fz va vb ra rb A hA kp s r => by
  (first | obtain ⟨_, rfl⟩ := ra.inv | obtain rfl := ra.inv)
  obtain ⟨xs, h1, h2, h3, h4⟩ := tdct_mu r hm hok hn
  obtain ⟨ka, rfl⟩ : ∃ ka, vb = .ref ka := by unfold keyV at rb; obtain ⟨a0, _, _, e0, _⟩ := rb.inv; exact ⟨a0, e0⟩
  obtain ⟨p, e1, e2⟩ := h4 k v hv
  exact tail_any h1.typeIs slot_dict_getitem.lookup (wpAny_getItem_heap (knd := keyKind C) (roomK hA) ⟨hk, rb.mono r.fzs⟩ h1 e1 ⟨fz, _, st, Le.refl _, e2, r.toks _, h⟩) (hs _ _)
theorem same_pairs {fz : OH} : ∀ {m : List (Key × V)} {kvs : List (V × Addr × Value)} {xs : List (Key × Addr × Value)}, RepT C fz (encT m) kvs → xs.map (·.1) = m.map (·.1) →
    kvs.map (fun x : V × Addr × Value => (⟨hashV C.w x.1, .ref x.2.1, x.2.2⟩ : DictEntry)) = xs.map (entryOfKey (keyKind C)) → kvs = xs.map fun x => (keyV x.1, x.2)
  | _, [], [], _, _, _ => rfl
  | _, _ :: _, [], _, _, e => by simp at e
  | _, [], _ :: _, _, _, e => by simp at e
  | [], _ :: _, _ :: _, _, h2, _ => by simp at h2
  | p :: m, q :: kvs, x :: xs, hl, h2, e6 => by
    cases hl with
    | @cons _ _ a1 v1 _ vs rk rv hl =>
      simp only [List.map_cons, List.cons.injEq] at h2 e6
      rw [List.map_cons, ← same_pairs hl h2.2 e6.2]
      congr 1
      have e7 := e6.1
      obtain ⟨xk, xa, xv⟩ := x
      simp only [entryOfKey, DictEntry.mk.injEq, Value.ref.injEq] at e7
      have e8 := h2.1
      dsimp only at e8
      rw [e8, ← e7.2.1, ← e7.2.2]
theorem setI_T {a : Addr} {k : Key} {v : V} {m : List (Key × V)} {Q : ST → Prop} (hm : st.mu a = some (.tdct (encT m))) (hok : ∀ p ∈ m, okKey p.1) (hn : (m.map (·.1)).Nodup) (hk : okKey k) (hv : m.lookup k = none) (hz : m.length < 1000)
    (h : Q ⟨st.loc, insM st.mu a (.tdct (encT (m ++ [(k, v)])))⟩) : setI C n env (.val (.ref a)) (keyV k) v st Q := fun fz vo vi va ro ri ra A hA kp s r => by
  (first | obtain ⟨_, rfl⟩ := ro.inv | obtain rfl := ro.inv)
  obtain ⟨xs, h1, h2, h3, h4⟩ := tdct_mu r hm hok hn
  obtain ⟨ka, rfl⟩ : ∃ ka, vi = .ref ka := by unfold keyV at ri; obtain ⟨a0, _, _, e0, _⟩ := ri.inv; exact ⟨a0, e0⟩
  have hlen : xs.length = m.length := by have := congrArg List.length h2; simpa using this
  have hno : atKey xs k = none := atKey_none_of_get fun j p hj => by
    have hmem : k ∈ m.map (·.1) := by rw [← h2]; exact List.mem_map.mpr ⟨(k, p), List.mem_of_getElem? hj, rfl⟩
    obtain ⟨⟨k', v⟩, hp, e⟩ := List.mem_map.mp hmem
    dsimp only at e; subst e
    have := List.lookup_eq_none_iff.mp hv (k', v) hp
    simp at this
  refine wpAny_setItem_heap (knd := keyKind C) (roomK hA) ⟨hk, ri.mono r.fzs⟩ h1 (fun h' hm' hs' => ?_) (by rw [sizeLine_eq]; omega)
  obtain ⟨o, es, ep, ho, hx, hd, he, his, hnn⟩ := hm'
  rw [storedH_new hno] at he
  refine ⟨fz, (), _, Le.refl _, trivial, r.upd _ hm (fun b x hb e => (hs'.2 b hb).trans e) ho (.tdct (kvs := (xs ++ [(k, ka, va)]).map fun x => (keyV x.1, x.2)) hx hd (by rw [he, List.map_map]; rfl) ?_), h⟩
  -- the pairs are carried
  obtain ⟨ob, g1, g2⟩ := r.mus _ _ hm
  cases g2 with
  | @tdct o' es' ep' kvs l hx' hd' he' hr' =>
    obtain ⟨o2, es2, ep2, ho2, hx2, hd2, he2, his2, hn2⟩ := h1
    rw [g1] at ho2; cases ho2
    rw [hd'] at hd2; cases hd2
    have e5 : kvs = xs.map fun x => (keyV x.1, x.2) := by
      have e6 := he'.symm.trans he2
      exact same_pairs hr' h2 e6
    rw [List.map_append, ← e5]
    unfold encT
    rw [List.map_append]
    have app : ∀ {l : List (V × V)} {vs : List (V × Addr × Value)} {l' vs'}, RepT C fz l vs → RepT C fz l' vs' → RepT C fz (l ++ l') (vs ++ vs') := by
      intro l vs l' vs' h1 h2
      induction h1 with
      | nil => exact h2
      | cons a b _ ih => exact .cons a b ih
    exact app hr' (.cons ri ra .nil)
end
end Mine
end

section
open PySem PySem.Calls PySem.W PyProof.Rows PySem.SeqAt
set_option maxRecDepth 100000
set_option Elab.async false
set_option linter.unusedVariables false
namespace Mine
section
variable {C : Cx} {n : Nat} {env : Env} {st : ST}

/-- what is known of a value may be said better -/
def UpsV (C : Cx) (env : Env) (b : V) (st : ST) (b' : V) (st' : ST) : Prop := ∀ fz kp v s, RepV C fz b v → Rp C fz kp env st s → ∃ fz', Le fz fz' ∧ RepV C fz' b' v ∧ Rp C fz' kp env st' s
def Ups (C : Cx) (env : Env) (st st' : ST) : Prop := ∀ fz kp s, Rp C fz kp env st s → ∃ fz', Le fz fz' ∧ Rp C fz' kp env st' s
theorem UpsV.refl {b : V} : UpsV C env b st b st := fun fz kp v s a r => ⟨fz, Le.refl _, a, r⟩
theorem UpsV.trans {a b c : V} {s1 s2 s3 : ST} (x : UpsV C env a s1 b s2) (y : UpsV C env b s2 c s3) : UpsV C env a s1 c s3 := fun fz kp v s h r => by
  obtain ⟨f1, l1, h1, r1⟩ := x fz kp v s h r
  obtain ⟨f2, l2, h2, r2⟩ := y f1 kp v s h1 r1
  exact ⟨f2, l1.trans l2, h2, r2⟩
theorem cl_post {f : V} {as : List V} {Q : V → ST → Prop} (h : cl C n env f as st fun b st1 => ∃ b' st', UpsV C env b st1 b' st' ∧ Q b' st') : cl C n env f as st Q := fun fz vf vs rf rs A hA kp s r =>
  wpAny_mono (h fz vf vs rf rs A hA kp s r) (fun v s' ⟨fz', b, st1, le, rv, r1, b', st', up, hq⟩ => by
    obtain ⟨f2, l2, h2, r2⟩ := up fz' kp v s' rv r1
    exact ⟨f2, b', st', le.trans l2, h2, r2, hq⟩) fun _ _ x => x
theorem clc_post {f : V} {as : List V} {Q : V → ST → Prop} (h : clc C n env f as st fun b st1 => ∃ b' st', UpsV C env b st1 b' st' ∧ Q b' st') : clc C n env f as st Q := fun fz vf vs rf rs A hA kp s r =>
  codeAny_mono (h fz vf vs rf rs A hA kp s r) (fun rr s' ⟨v, e, fz', b, st1, le, rv, r1, b', st', up, hq⟩ => by
    obtain ⟨f2, l2, h2, r2⟩ := up fz' kp v s' rv r1
    exact ⟨v, e, f2, b', st', le.trans l2, h2, r2, hq⟩)
theorem ev_post {e : Expr} {Q : V → ST → Prop} (h : ev C n env e st fun b st1 => ∃ b' st', UpsV C env b st1 b' st' ∧ Q b' st') : ev C n env e st Q := fun fz A hA kp s r =>
  wpAny_mono (h fz A hA kp s r) (fun v s' ⟨fz', b, st1, le, rv, r1, b', st', up, hq⟩ => by
    obtain ⟨f2, l2, h2, r2⟩ := up fz' kp v s' rv r1
    exact ⟨f2, b', st', le.trans l2, h2, r2, hq⟩) fun _ _ x => x
theorem ex_ups {b : List Stmt} {st' : ST} {Q : AF → ST → Prop} (up : Ups C env st st') (h : ex C n env b st' Q) : ex C n env b st Q := fun fz A hA kp s r => by
  obtain ⟨f1, l1, r1⟩ := up fz kp s r
  refine wpAny_mono (h f1 A hA kp s r1) ?_ fun _ _ x => x
  rintro v s' ⟨f2, b, st2, l2, rv, r2, hq⟩
  exact ⟨f2, b, st2, l1.trans l2, rv, r2, hq⟩
/-- the post of a def's body may be said better -/
theorem clc.mono {f : V} {as : List V} {Q Q' : V → ST → Prop} (h : clc C n env f as st Q) (hQ : ∀ b st', Q b st' → Q' b st') : clc C n env f as st Q' := fun fz vf vs rf rs A hA kp s r =>
  codeAny_mono (h fz vf vs rf rs A hA kp s r) (fun rr s' ⟨v, e, fz', b, st1, le, rv, r1, hq⟩ => ⟨v, e, fz', b, st1, le, rv, r1, hQ _ _ hq⟩)
theorem clc_le {m : Nat} {f : V} {as : List V} {Q : V → ST → Prop} (h : clc C m env f as st Q) (e : m ≤ n) : clc C n env f as st Q := fun fz vf vs rf rs A hA kp s r => h fz vf vs rf rs A (hA.le e) kp s r

theorem up_lst {a : Addr} {l : List V} (hm : st.mu a = some (.lst l)) : UpsV C env (.val (.ref a)) st (.lst l) ⟨st.loc, delM st.mu a⟩ := fun fz kp v s rv r => by
  (first | obtain ⟨_, rfl⟩ := rv.inv | obtain rfl := rv.inv)
  obtain ⟨ob, ho, hn, r'⟩ := r.freeze hm
  cases ho with
  | lst h => exact ⟨_, Le.ins _ hn, .lst (insH_self ..) (h.mono (Le.ins _ hn)), r'⟩
theorem up_dct {a : Addr} {l : List (Str × V)} (hm : st.mu a = some (.dct l)) : UpsV C env (.val (.ref a)) st (.dct l) ⟨st.loc, delM st.mu a⟩ := fun fz kp v s rv r => by
  (first | obtain ⟨_, rfl⟩ := rv.inv | obtain rfl := rv.inv)
  obtain ⟨ob, ho, hn, r'⟩ := r.freeze hm
  cases ho with
  | dct hd h => exact ⟨_, Le.ins _ hn, .dct (insH_self ..) hd (sysM (r.mlow _ _ hm)) (h.mono (Le.ins _ hn)), r'⟩
theorem up_ns {c d : Addr} {l : List (Str × V)} (hm : st.mu d = some (.ns l)) : UpsV C env (.obj c d) st (.ins c l) ⟨st.loc, delM st.mu d⟩ := fun fz kp v s rv r => by
  obtain ⟨_, rfl, h1⟩ := rv.inv
  obtain ⟨ob, ho, hn, r'⟩ := r.freeze hm
  cases ho with
  | ns hd h => exact ⟨_, Le.ins _ hn, .ins (Le.ins _ hn _ _ h1) (insH_self ..) hd (h.mono (Le.ins _ hn)), r'⟩
theorem up_tup2 {x a b : V} {st' : ST} (h : UpsV C env a st b st') : UpsV C env (.tup [x, a]) st (.tup [x, b]) st' := fun fz kp v s rv r => by
  obtain ⟨ad, xs, m, rfl, h1, h2⟩ := rv.inv
  generalize hv : xs.toList = vs at h2
  obtain ⟨_, _, rfl, ra, h2⟩ := h2.inv
  obtain ⟨_, _, rfl, rb, h2⟩ := h2.inv
  cases h2
  obtain ⟨f1, l1, h3, r1⟩ := h fz kp _ s rb r
  exact ⟨f1, l1, .tup (l1 _ _ h1) (by rw [hv]; exact .cons (ra.mono l1) (.cons h3 .nil)), r1⟩
theorem delM_ins {mu : Mu} {a : Addr} {o : MO} (h : mu a = none) : delM (insM mu a o) a = mu := by
  funext b
  unfold delM insM
  by_cases q : b = a
  · subst q; simp [h]
  · simp [q]
theorem insM_insM {mu : Mu} {a : Addr} {o o' : MO} : insM (insM mu a o) a o' = insM mu a o' := by
  funext b
  unfold insM
  by_cases q : b = a <;> simp [q]
theorem insM_comm {mu : Mu} {a b : Addr} {o o' : MO} (h : a ≠ b) : insM (insM mu a o) b o' = insM (insM mu b o') a o := by
  funext x
  unfold insM
  by_cases q : x = b
  · subst q; simp [Ne.symm h]
  · simp [q]
theorem LeM.mu (mu : Mu) : LeM mu mu := fun _ _ h => h
theorem LeM.ins2 {mu : Mu} {a : Addr} {o : MO} (h : mu a = none) : LeM mu (insM mu a o) := fun b o' e => by
  by_cases q : b = a
  · subst q; rw [h] at e; cases e
  · rw [insM_other _ _ q]; exact e

/-- a call out of an expression -/
theorem ev_call2 {C : Cx} {env : Env} {st : ST} {n m : Nat} {f : V} {as : List V} {Q : V → ST → Prop} (h : clc C m env f as st Q) (e : m ≤ n) : cl C n env f as st Q := cl_of (clc_le h e)
theorem clc_dk {f : Addr} {oc : Value} {od : Option Addr} {osl : Array (Option Value)} {name qual : Str} {params : Arguments} {body : List Stmt} {scope : PySem.Scope} {dV kV doc pm cdv ct : Value} {an : Option Addr} {as : List V} (ab loc : List (Str × V)) {Q : V → ST → Prop}
    (ho : C.K.lookup f = some ⟨oc, od, .func (fnOf name qual params body scope dV kV doc pm an cdv ct), osl⟩) (hcd : codeIn C.K cdv qual = true)
    (hb : Binds C (fnOf name qual params body scope dV kV doc pm an cdv ct) as ab) (hcell : (scope.names.all fun x => x.2 != .cell) = true) (hloc : ((ab.map (·.1)).all fun y => scope.names.lookup y == some .local) = true)
    (hco : scope.isCoroutine = false) (hgen : scope.isGenerator = false) (hk : scope.kind = .function) (hr : ab.reverse = loc)
    (h : ∀ L', ex C n (envX qual scope L' f cdv []) body ⟨loc, st.mu⟩ (Ret Q st.loc)) :
    clc C (n + 1) env (.val (.ref f)) as st Q :=
  clc_def ho hcd hb (fun x hx => by have := List.all_eq_true.mp hcell x hx; simpa using this) (fun y hy => by have := List.all_eq_true.mp hloc y hy; simpa using this) hco hgen hk (by rw [hr]; exact h)
theorem fin_ret {Q : V → ST → Prop} {v : V} {l : List (Str × V)} {mu : Mu} (h : Q v ⟨l, mu⟩) : ∃ mu1, LeM mu1 mu ∧ Q v ⟨l, mu1⟩ := ⟨mu, LeM.refl _, h⟩
theorem ite_pos {c : Prop} [Decidable c] {p q : Prop} (h : c) (hp : p) : if c then p else q := by rw [if_pos h]; exact hp
theorem ite_neg {c : Prop} [Decidable c] {p q : Prop} (h : ¬ c) (hq : q) : if c then p else q := by rw [if_neg h]; exact hq
end
end Mine
end

section
open PySem PySem.Calls PySem.W PyProof.Rows PySem.SeqAt
set_option maxRecDepth 100000
set_option Elab.async false
set_option linter.unusedVariables false
namespace Mine
section
variable {C : Cx} {n : Nat} {env : Env} {st : ST}
theorem g_head_pairs (hK : C.K = KK C.w.params) : nsIn C.K mainGlobals (Str.ofString "head_pairs") = some (some (.ref 61)) := by rw [hK]; kernel_rfl
theorem g_match_type (hK : C.K = KK C.w.params) : nsIn C.K mainGlobals (Str.ofString "match_type") = some (some (.ref 75)) := by rw [hK]; kernel_rfl
theorem g_match_all (hK : C.K = KK C.w.params) : nsIn C.K mainGlobals (Str.ofString "match_all") = some (some (.ref 82)) := by rw [hK]; kernel_rfl
theorem g_names_of (hK : C.K = KK C.w.params) : nsIn C.K mainGlobals (Str.ofString "names_of") = some (some (.ref 87)) := by rw [hK]; kernel_rfl
theorem g_matches_impl (hK : C.K = KK C.w.params) : nsIn C.K mainGlobals (Str.ofString "matches_impl") = some (some (.ref 94)) := by rw [hK]; kernel_rfl
theorem g_is_plainly_copy (hK : C.K = KK C.w.params) : nsIn C.K mainGlobals (Str.ofString "is_plainly_copy") = some (some (.ref 101)) := by rw [hK]; kernel_rfl
theorem g_Selection (hK : C.K = KK C.w.params) : nsIn C.K mainGlobals (Str.ofString "Selection") = some (some (.ref 149)) := by rw [hK]; kernel_rfl
theorem g_select (hK : C.K = KK C.w.params) : nsIn C.K mainGlobals (Str.ofString "select") = some (some (.ref 160)) := by rw [hK]; kernel_rfl
theorem g_holds (hK : C.K = KK C.w.params) : nsIn C.K mainGlobals (Str.ofString "holds") = some (some (.ref 167)) := by rw [hK]; kernel_rfl
theorem g_unmet_bounds (hK : C.K = KK C.w.params) : nsIn C.K mainGlobals (Str.ofString "unmet_bounds") = some (some (.ref 174)) := by rw [hK]; kernel_rfl
theorem g_ImplRow (hK : C.K = KK C.w.params) : nsIn C.K mainGlobals (Str.ofString "ImplRow") = some (some (.ref 192)) := by rw [hK]; kernel_rfl
theorem g_World (hK : C.K = KK C.w.params) : nsIn C.K mainGlobals (Str.ofString "World") = some (some (.ref 221)) := by rw [hK]; kernel_rfl
theorem g_law_take (hK : C.K = KK C.w.params) : nsIn C.K mainGlobals (Str.ofString "_law_take") = some (some (.ref 239)) := by rw [hK]; kernel_rfl
theorem g_law_one (hK : C.K = KK C.w.params) : nsIn C.K mainGlobals (Str.ofString "_law_one") = some (some (.ref 246)) := by rw [hK]; kernel_rfl
theorem g_law_needs (hK : C.K = KK C.w.params) : nsIn C.K mainGlobals (Str.ofString "_law_needs") = some (some (.ref 257)) := by rw [hK]; kernel_rfl
theorem g_law_world (hK : C.K = KK C.w.params) : nsIn C.K mainGlobals (Str.ofString "_law_world") = some (some (.ref 262)) := by rw [hK]; kernel_rfl
theorem g_law_type (hK : C.K = KK C.w.params) : nsIn C.K mainGlobals (Str.ofString "_law_type") = some (some (.ref 269)) := by rw [hK]; kernel_rfl
theorem g_law_parts (hK : C.K = KK C.w.params) : nsIn C.K mainGlobals (Str.ofString "_law_parts") = some (some (.ref 276)) := by rw [hK]; kernel_rfl
theorem g_law_answers (hK : C.K = KK C.w.params) : nsIn C.K mainGlobals (Str.ofString "_law_answers") = some (some (.ref 281)) := by rw [hK]; kernel_rfl
theorem g_law_due (hK : C.K = KK C.w.params) : nsIn C.K mainGlobals (Str.ofString "_law_due") = some (some (.ref 288)) := by rw [hK]; kernel_rfl
theorem g_law_asked_right (hK : C.K = KK C.w.params) : nsIn C.K mainGlobals (Str.ofString "_law_asked_right") = some (some (.ref 293)) := by rw [hK]; kernel_rfl
theorem g_law_box (hK : C.K = KK C.w.params) : nsIn C.K mainGlobals (Str.ofString "_law_box") = some (some (.ref 248)) := by rw [hK]; kernel_rfl
theorem g_law_pair (hK : C.K = KK C.w.params) : nsIn C.K mainGlobals (Str.ofString "_law_pair") = some (some (.ref 252)) := by rw [hK]; kernel_rfl
theorem b_len (hK : C.K = KK C.w.params) : nsIn C.K mainGlobals (Str.ofString "len") = some none := by rw [hK]; kernel_rfl
theorem b_int (hK : C.K = KK C.w.params) : nsIn C.K mainGlobals (Str.ofString "int") = some none := by rw [hK]; kernel_rfl
theorem b_tuple (hK : C.K = KK C.w.params) : nsIn C.K mainGlobals (Str.ofString "tuple") = some none := by rw [hK]; kernel_rfl
theorem b_list (hK : C.K = KK C.w.params) : nsIn C.K mainGlobals (Str.ofString "list") = some none := by rw [hK]; kernel_rfl
theorem b_zip (hK : C.K = KK C.w.params) : nsIn C.K mainGlobals (Str.ofString "zip") = some none := by rw [hK]; kernel_rfl
theorem b_dict (hK : C.K = KK C.w.params) : nsIn C.K mainGlobals (Str.ofString "dict") = some none := by rw [hK]; kernel_rfl
theorem b_min (hK : C.K = KK C.w.params) : nsIn C.K mainGlobals (Str.ofString "min") = some none := by rw [hK]; kernel_rfl
theorem b_range (hK : C.K = KK C.w.params) : nsIn C.K mainGlobals (Str.ofString "range") = some none := by rw [hK]; kernel_rfl
theorem v_len : bootBuiltins (Str.ofString "len") = some (.builtin "len") := by kernel_rfl
theorem v_int : bootBuiltins (Str.ofString "int") = some (.type "int") := by kernel_rfl
theorem v_tuple : bootBuiltins (Str.ofString "tuple") = some (.type "tuple") := by kernel_rfl
theorem v_list : bootBuiltins (Str.ofString "list") = some (.type "list") := by kernel_rfl
theorem v_zip : bootBuiltins (Str.ofString "zip") = some (.type "zip") := by kernel_rfl
theorem v_dict : bootBuiltins (Str.ofString "dict") = some (.type "dict") := by kernel_rfl
theorem v_min : bootBuiltins (Str.ofString "min") = some (.builtin "min") := by kernel_rfl
theorem v_range : bootBuiltins (Str.ofString "range") = some (.type "range") := by kernel_rfl

/-- a call of a name that is the text's own -/
theorem ev_cK {x : Str} {npos pos : Pos} {e : Expr} {rest : List Expr} {f : Addr} {Q : V → ST → Prop} (g : nsIn C.K mainGlobals x = some (some (.ref f))) (keep : keepIn C.K (.ref f) = true)
    (he : eval (.Call (.Name x npos) (e :: rest) [] pos) env = (do callWith pos (← eval (.Name x npos) env) [] (backTo pos (starEach (e :: rest) env)) (backToKw pos (keywordEach [] env))))
    (hs : starEach (e :: rest) env = (false, eval e env) :: starEach rest env) (hp : (backTo pos (starEach rest env)).any (·.1) = false) (hk : env.scope.kind = .function) (hx : env.kindOf x = some .globalImplicit) (hg : env.globals = mainGlobals) (hd : (x == ("__debug__" : Str)) = false)
    (h : evl C n env pos (e :: rest) st fun avs st2 => cl C n env (.val (.ref f)) avs st2 Q) : ev C n env (.Call (.Name x npos) (e :: rest) [] pos) st Q :=
  ev_CallK he hs hp (ev_glob hk hx hg g hd ⟨_, rfl, keep, h⟩)
theorem ev_cK0 {x : Str} {npos pos : Pos} {f : Addr} {Q : V → ST → Prop} (g : nsIn C.K mainGlobals x = some (some (.ref f))) (keep : keepIn C.K (.ref f) = true)
    (he : eval (.Call (.Name x npos) [] [] pos) env = (do callWith pos (← eval (.Name x npos) env) [] (backTo pos (starEach [] env)) (backToKw pos (keywordEach [] env))))
    (hk : env.scope.kind = .function) (hx : env.kindOf x = some .globalImplicit) (hg : env.globals = mainGlobals) (hd : (x == ("__debug__" : Str)) = false)
    (h : cl C n env (.val (.ref f)) [] st Q) : ev C n env (.Call (.Name x npos) [] [] pos) st Q :=
  ev_CallK0 he (ev_glob hk hx hg g hd ⟨_, rfl, keep, h⟩)
theorem ev_cT {x : Str} {npos pos : Pos} {e : Expr} {rest : List Expr} {i : String} {Q : V → ST → Prop} (g : nsIn C.K mainGlobals x = some none) (hv : bootBuiltins x = some (.type i)) (hn : (x == ("__name__" : Str)) = false)
    (he : eval (.Call (.Name x npos) (e :: rest) [] pos) env = (do callWith pos (← eval (.Name x npos) env) [] (backTo pos (starEach (e :: rest) env)) (backToKw pos (keywordEach [] env))))
    (hs : starEach (e :: rest) env = (false, eval e env) :: starEach rest env) (hp : (backTo pos (starEach rest env)).any (·.1) = false) (hk : env.scope.kind = .function) (hx : env.kindOf x = some .globalImplicit) (hg : env.globals = mainGlobals) (hb : env.builtins = builtinsNs) (hd : (x == ("__debug__" : Str)) = false)
    (h : evl C n env pos (e :: rest) st fun avs st2 => cl C n env (.val (.type i)) avs st2 Q) : ev C n env (.Call (.Name x npos) (e :: rest) [] pos) st Q :=
  ev_CallT he hs hp (ev_boot hk hx hg hb g hv (by simpa using hn) hd ⟨_, rfl, h⟩)
theorem ev_cB {x : Str} {npos pos : Pos} {e : Expr} {rest : List Expr} {i : String} {Q : V → ST → Prop} (g : nsIn C.K mainGlobals x = some none) (hv : bootBuiltins x = some (.builtin i)) (hn : (x == ("__name__" : Str)) = false)
    (he : eval (.Call (.Name x npos) (e :: rest) [] pos) env = (do callWith pos (← eval (.Name x npos) env) [] (backTo pos (starEach (e :: rest) env)) (backToKw pos (keywordEach [] env))))
    (hs : starEach (e :: rest) env = (false, eval e env) :: starEach rest env) (hp : (backTo pos (starEach rest env)).any (·.1) = false) (hk : env.scope.kind = .function) (hx : env.kindOf x = some .globalImplicit) (hg : env.globals = mainGlobals) (hb : env.builtins = builtinsNs) (hd : (x == ("__debug__" : Str)) = false)
    (h : evl C n env pos (e :: rest) st fun avs st2 => cl C n env (.val (.builtin i)) avs st2 Q) : ev C n env (.Call (.Name x npos) (e :: rest) [] pos) st Q :=
  ev_CallB he hs hp (ev_boot hk hx hg hb g hv (by simpa using hn) hd ⟨_, rfl, h⟩)
/-- a constant of the text's own -/
theorem ev_g {x : Str} {pos : Pos} {v : Value} {Q : V → ST → Prop} (e : nsIn C.K mainGlobals x = some (some v)) (hk : env.scope.kind = .function) (hx : env.kindOf x = some .globalImplicit) (hg : env.globals = mainGlobals) (hd : (x == ("__debug__" : Str)) = false) (h : Q (.val v) st) : ev C n env (.Name x pos) st Q :=
  ev_glob hk hx hg e hd h
theorem k_head_pairs (hK : C.K = KK C.w.params) : keepIn C.K (.ref 61) = true := by rw [hK]; kernel_rfl
theorem k_match_type (hK : C.K = KK C.w.params) : keepIn C.K (.ref 75) = true := by rw [hK]; kernel_rfl
theorem k_match_all (hK : C.K = KK C.w.params) : keepIn C.K (.ref 82) = true := by rw [hK]; kernel_rfl
theorem k_names_of (hK : C.K = KK C.w.params) : keepIn C.K (.ref 87) = true := by rw [hK]; kernel_rfl
theorem k_matches_impl (hK : C.K = KK C.w.params) : keepIn C.K (.ref 94) = true := by rw [hK]; kernel_rfl
theorem k_Selection (hK : C.K = KK C.w.params) : keepIn C.K (.ref 149) = true := by rw [hK]; kernel_rfl
theorem k_select (hK : C.K = KK C.w.params) : keepIn C.K (.ref 160) = true := by rw [hK]; kernel_rfl
theorem k_holds (hK : C.K = KK C.w.params) : keepIn C.K (.ref 167) = true := by rw [hK]; kernel_rfl
theorem k_unmet_bounds (hK : C.K = KK C.w.params) : keepIn C.K (.ref 174) = true := by rw [hK]; kernel_rfl
theorem k_ImplRow (hK : C.K = KK C.w.params) : keepIn C.K (.ref 192) = true := by rw [hK]; kernel_rfl
theorem k_World (hK : C.K = KK C.w.params) : keepIn C.K (.ref 221) = true := by rw [hK]; kernel_rfl
theorem k_law_take (hK : C.K = KK C.w.params) : keepIn C.K (.ref 239) = true := by rw [hK]; kernel_rfl
theorem k_law_one (hK : C.K = KK C.w.params) : keepIn C.K (.ref 246) = true := by rw [hK]; kernel_rfl
theorem k_law_needs (hK : C.K = KK C.w.params) : keepIn C.K (.ref 257) = true := by rw [hK]; kernel_rfl
theorem k_law_world (hK : C.K = KK C.w.params) : keepIn C.K (.ref 262) = true := by rw [hK]; kernel_rfl
theorem k_law_type (hK : C.K = KK C.w.params) : keepIn C.K (.ref 269) = true := by rw [hK]; kernel_rfl
theorem k_law_parts (hK : C.K = KK C.w.params) : keepIn C.K (.ref 276) = true := by rw [hK]; kernel_rfl
theorem k_law_answers (hK : C.K = KK C.w.params) : keepIn C.K (.ref 281) = true := by rw [hK]; kernel_rfl
theorem k_law_due (hK : C.K = KK C.w.params) : keepIn C.K (.ref 288) = true := by rw [hK]; kernel_rfl
theorem k_law_asked_right (hK : C.K = KK C.w.params) : keepIn C.K (.ref 293) = true := by rw [hK]; kernel_rfl
end
end Mine
end

section
open PySem PySem.Calls PySem.W PyProof.Rows PySem.SeqAt
set_option maxRecDepth 100000
set_option Elab.async false
set_option linter.unusedVariables false
set_option maxHeartbeats 1000000
namespace Mine
section
variable {C : Cx} {n : Nat} {env : Env} {st : ST}
theorem ev_append {o e : Expr} {apos pos : Pos} {pl : Sem Bool} {Q : V → ST → Prop}
    (he : eval (.Call (.Attribute o "append" apos) [e] [] pos) env = (do
      let ov ← eval o env
      standAt apos.atName
      let (f, first) ← holding [ov] (getMethod ov "append" pl)
      callWith pos f first (backTo pos (starEach [e] env)) []))
    (hs : starEach [e] env = (false, eval e env) :: starEach [] env)
    (h : ev C n env o st fun ov st1 => ∃ a l, ov = .val (.ref a) ∧ st1.mu a = some (.lst l) ∧ ev C n env e st1 fun x st2 => ∃ l', st2.mu a = some (.lst l') ∧ l'.length < 1000 ∧ Q .none ⟨st2.loc, insM st2.mu a (.lst (l' ++ [x]))⟩) :
    ev C n env (.Call (.Attribute o "append" apos) [e] [] pos) st Q := by
  refine ev_MethB he hs rfl PySem.F.plainAttrs_list PySem.F.slot_list_append (by rfl) (h.mono fun ov st1 => ?_)
  rintro ⟨a, l, rfl, hm, h⟩
  refine ⟨fun fz kp s v r rv => ?_, ?_⟩
  · (first | obtain ⟨_, rfl⟩ := rv.inv | obtain rfl := rv.inv)
    obtain ⟨xs, m, e1, _⟩ := isLst_mu r hm
    exact ⟨⟨_, e1, rfl⟩, fun b q => by cases q; exact ⟨_, e1, rfl⟩⟩
  · refine evl_cons hs (h.mono fun x st2 => ?_)
    rintro ⟨l', hm', hz, hq⟩
    exact evl_nil (cl_append hm' hz hq)
theorem ev_extend {o e : Expr} {apos pos : Pos} {pl : Sem Bool} {Q : V → ST → Prop}
    (he : eval (.Call (.Attribute o "extend" apos) [e] [] pos) env = (do
      let ov ← eval o env
      standAt apos.atName
      let (f, first) ← holding [ov] (getMethod ov "extend" pl)
      callWith pos f first (backTo pos (starEach [e] env)) []))
    (hs : starEach [e] env = (false, eval e env) :: starEach [] env)
    (h : ev C n env o st fun ov st1 => ∃ a l, ov = .val (.ref a) ∧ st1.mu a = some (.lst l) ∧ ev C n env e st1 fun x st2 => ∃ l' lx, x = .lst lx ∧ st2.mu a = some (.lst l') ∧ l'.length + lx.length < 1000 ∧ Q .none ⟨st2.loc, insM st2.mu a (.lst (l' ++ lx))⟩) :
    ev C n env (.Call (.Attribute o "extend" apos) [e] [] pos) st Q := by
  refine ev_MethB he hs rfl PySem.F.plainAttrs_list PySem.F.slot_list_extend (by rfl) (h.mono fun ov st1 => ?_)
  rintro ⟨a, l, rfl, hm, h⟩
  refine ⟨fun fz kp s v r rv => ?_, ?_⟩
  · (first | obtain ⟨_, rfl⟩ := rv.inv | obtain rfl := rv.inv)
    obtain ⟨xs, m, e1, _⟩ := isLst_mu r hm
    exact ⟨⟨_, e1, rfl⟩, fun b q => by cases q; exact ⟨_, e1, rfl⟩⟩
  · refine evl_cons hs (h.mono fun x st2 => ?_)
    rintro ⟨l', lx, rfl, hm', hz, hq⟩
    exact evl_nil (cl_extendL hm' hz hq)
theorem ev_pop {o : Expr} {apos pos : Pos} {pl : Sem Bool} {Q : V → ST → Prop}
    (he : eval (.Call (.Attribute o "pop" apos) [] [] pos) env = (do
      let ov ← eval o env
      standAt apos.atName
      let (f, first) ← holding [ov] (getMethod ov "pop" pl)
      callWith pos f first (backTo pos (starEach [] env)) []))
    (h : ev C n env o st fun ov st1 => ∃ a l x, ov = .val (.ref a) ∧ st1.mu a = some (.lst (l ++ [x])) ∧ l.length < 1000 ∧ Q x ⟨st1.loc, insM st1.mu a (.lst l)⟩) :
    ev C n env (.Call (.Attribute o "pop" apos) [] [] pos) st Q := by
  refine ev_MethB0 he PySem.F.plainAttrs_list PySem.F.slot_list_pop (by rfl) (h.mono fun ov st1 => ?_)
  rintro ⟨a, l, x, rfl, hm, hz, hq⟩
  refine ⟨fun fz kp s v r rv => ?_, ?_⟩
  · (first | obtain ⟨_, rfl⟩ := rv.inv | obtain rfl := rv.inv)
    obtain ⟨xs, m, e1, _⟩ := isLst_mu r hm
    exact ⟨⟨_, e1, rfl⟩, fun b q => by cases q; exact ⟨_, e1, rfl⟩⟩
  · exact cl_pop hm hz hq
theorem exactD {o : Obj} {kvs : List (Str × Value)} (h : o.IsDictOf (strKind C.prog C.w) kvs) : o.cls = .type "dict" ∧ o.dict = Option.none := by
  obtain ⟨es, ep, h1, _⟩ := h
  exact ⟨h1.1, h1.2.1⟩
theorem ev_get {o e : Expr} {rest : List Expr} {apos pos : Pos} {pl : Sem Bool} {Q : V → ST → Prop}
    (he : eval (.Call (.Attribute o "get" apos) (e :: rest) [] pos) env = (do
      let ov ← eval o env
      standAt apos.atName
      let (f, first) ← holding [ov] (getMethod ov "get" pl)
      callWith pos f first (backTo pos (starEach (e :: rest) env)) []))
    (hs : starEach (e :: rest) env = (false, eval e env) :: starEach rest env) (hp : (backTo pos (starEach rest env)).any (·.1) = false)
    (h : ev C n env o st fun ov st1 => ∃ l, ov = .dct l ∧ evl C n env pos (e :: rest) st1 fun avs st2 => cl C n env (.val (.builtin "dict.get")) (.dct l :: avs) st2 Q) :
    ev C n env (.Call (.Attribute o "get" apos) (e :: rest) [] pos) st Q := by
  refine ev_MethB he hs hp PySem.F.plainAttrs_dict PySem.F.slot_dict_get (by rfl) (h.mono fun ov st1 => ?_)
  rintro ⟨l, rfl, h⟩
  refine ⟨fun fz kp s v r rv => ?_, h⟩
  obtain ⟨a, o, kvs, rfl, h1, h2, h3, h4⟩ := rv.inv
  have e1 := r.fzs _ _ h1
  exact ⟨⟨_, e1, (exactD h2).1⟩, fun b q => by cases q; exact ⟨_, e1, (exactD h2).2⟩⟩
def boxV : V := .tup [.str "box", .tup [.str "param", .str "T"]]
def pairV : V := .tup [.str "tuple", .tup [.tup [.str "param", .str "T"], .tup [.str "param", .str "U"]]]
theorem fz_K {fz kp : OH} {s : Shared} (r : Rp C fz kp env st s) {a : Addr} {o : Obj} (e : C.K.lookup a = some o) : fz a = some o := r.base _ _ (C.kin _ _ e)
theorem up_box (hK : C.K = KK C.w.params) : UpsV C env (.val (.ref 248)) st boxV st := fun fz kp v s rv r => by
  (first | obtain ⟨_, rfl⟩ := rv.inv | obtain rfl := rv.inv)
  refine ⟨fz, Le.refl _, ?_, r⟩
  exact .tup (fz_K r (by rw [hK]; rfl)) (.cons (.str _ _) (.cons (.tup (fz_K r (by rw [hK]; rfl)) (.cons (.str _ _) (.cons (.str _ _) .nil))) .nil))
theorem up_pair (hK : C.K = KK C.w.params) : UpsV C env (.val (.ref 252)) st pairV st := fun fz kp v s rv r => by
  (first | obtain ⟨_, rfl⟩ := rv.inv | obtain rfl := rv.inv)
  refine ⟨fz, Le.refl _, ?_, r⟩
  exact .tup (fz_K r (by rw [hK]; rfl)) (.cons (.str _ _) (.cons (.tup (fz_K r (by rw [hK]; rfl)) (.cons (.tup (fz_K r (by rw [hK]; rfl)) (.cons (.str _ _) (.cons (.str _ _) .nil))) (.cons (.tup (fz_K r (by rw [hK]; rfl)) (.cons (.str _ _) (.cons (.str _ _) .nil))) .nil))) .nil))
theorem ev_box (hK : C.K = KK C.w.params) {pos : Pos} {Q : V → ST → Prop} (hk : env.scope.kind = .function) (hx : env.kindOf "_law_box" = some .globalImplicit) (hg : env.globals = mainGlobals) (h : Q boxV st) : ev C n env (.Name "_law_box" pos) st Q :=
  ev_post (ev_g (g_law_box hK) hk hx hg (by kernel_rfl) ⟨_, _, up_box hK, h⟩)
theorem ev_pair (hK : C.K = KK C.w.params) {pos : Pos} {Q : V → ST → Prop} (hk : env.scope.kind = .function) (hx : env.kindOf "_law_pair" = some .globalImplicit) (hg : env.globals = mainGlobals) (h : Q pairV st) : ev C n env (.Name "_law_pair" pos) st Q :=
  ev_post (ev_g (g_law_pair hK) hk hx hg (by kernel_rfl) ⟨_, _, up_pair hK, h⟩)
theorem ev_D1 {k0 : Str} {n0 : Nat} {p0 pos : Pos} {v0 : Expr} {Q : V → ST → Prop} (h : ev C n env v0 st fun x0 st0 => Q (.dct (mrg [(k0, x0)])) st0) : ev C n env (.Dict [some (.Constant (.str k0) n0 p0)] [v0] pos) st Q := by
  refine ev_DictP [(.Constant (.str k0) n0 p0, v0)] rfl (List.cons_ne_nil _ _) (Nat.le_of_ble_eq_true rfl) ?_
  refine ev_str ⟨_, rfl, h.mono fun x0 st0 h0 => ?_⟩
  exact h0
theorem ev_D2 {k0 k1 : Str} {n0 n1 : Nat} {p0 p1 pos : Pos} {v0 v1 : Expr} {Q : V → ST → Prop} (h : ev C n env v0 st fun x0 st0 => ev C n env v1 st0 fun x1 st1 => Q (.dct (mrg [(k0, x0), (k1, x1)])) st1) : ev C n env (.Dict [some (.Constant (.str k0) n0 p0), some (.Constant (.str k1) n1 p1)] [v0, v1] pos) st Q := by
  refine ev_DictP [(.Constant (.str k0) n0 p0, v0), (.Constant (.str k1) n1 p1, v1)] rfl (List.cons_ne_nil _ _) (Nat.le_of_ble_eq_true rfl) ?_
  refine ev_str ⟨_, rfl, h.mono fun x0 st0 h0 => ?_⟩
  refine ev_str ⟨_, rfl, h0.mono fun x1 st1 h1 => ?_⟩
  exact h1
theorem ev_D4 {k0 k1 k2 k3 : Str} {n0 n1 n2 n3 : Nat} {p0 p1 p2 p3 pos : Pos} {v0 v1 v2 v3 : Expr} {Q : V → ST → Prop} (h : ev C n env v0 st fun x0 st0 => ev C n env v1 st0 fun x1 st1 => ev C n env v2 st1 fun x2 st2 => ev C n env v3 st2 fun x3 st3 => Q (.dct (mrg [(k0, x0), (k1, x1), (k2, x2), (k3, x3)])) st3) : ev C n env (.Dict [some (.Constant (.str k0) n0 p0), some (.Constant (.str k1) n1 p1), some (.Constant (.str k2) n2 p2), some (.Constant (.str k3) n3 p3)] [v0, v1, v2, v3] pos) st Q := by
  refine ev_DictP [(.Constant (.str k0) n0 p0, v0), (.Constant (.str k1) n1 p1, v1), (.Constant (.str k2) n2 p2, v2), (.Constant (.str k3) n3 p3, v3)] rfl (List.cons_ne_nil _ _) (Nat.le_of_ble_eq_true rfl) ?_
  refine ev_str ⟨_, rfl, h.mono fun x0 st0 h0 => ?_⟩
  refine ev_str ⟨_, rfl, h0.mono fun x1 st1 h1 => ?_⟩
  refine ev_str ⟨_, rfl, h1.mono fun x2 st2 h2 => ?_⟩
  refine ev_str ⟨_, rfl, h2.mono fun x3 st3 h3 => ?_⟩
  exact h3
theorem asg_T2 {t0 t1 : Expr} {k : Nat} {pos : Pos} {a b : V} {Q : ST → Prop} (he : assignEach [t0, t1] env = [(false, assign t0 env), (false, assign t1 env)]) (h : asg C n env t0 a st fun st1 => asg C n env t1 b st1 Q) : asg C n env (.Tuple [t0, t1] k pos) (.tup [a, b]) st Q := asg_Tuple he rfl h
theorem asg_T3 {t0 t1 t2 : Expr} {k : Nat} {pos : Pos} {a b c : V} {Q : ST → Prop} (he : assignEach [t0, t1, t2] env = [(false, assign t0 env), (false, assign t1 env), (false, assign t2 env)]) (h : asg C n env t0 a st fun st1 => asg C n env t1 b st1 fun st2 => asg C n env t2 c st2 Q) : asg C n env (.Tuple [t0, t1, t2] k pos) (.tup [a, b, c]) st Q := asg_Tuple he rfl h
theorem up_tup1 {x x' a : V} {st' : ST} (h : UpsV C env x st x' st') : UpsV C env (.tup [x, a]) st (.tup [x', a]) st' := fun fz kp v s rv r => by
  obtain ⟨ad, xs, m, rfl, h1, h2⟩ := rv.inv
  generalize hv : xs.toList = vs at h2
  obtain ⟨_, _, rfl, ra, h2⟩ := h2.inv
  obtain ⟨_, _, rfl, rb, h2⟩ := h2.inv
  cases h2
  obtain ⟨f1, l1, h3, r1⟩ := h fz kp _ s ra r
  exact ⟨f1, l1, .tup (l1 _ _ h1) (by rw [hv]; exact .cons h3 (.cons (rb.mono l1) .nil)), r1⟩
theorem ev_MethO {o : Expr} {name : Str} {apos pos : Pos} {e : Expr} {rest : List Expr} {pl : Sem Bool} {Q : V → ST → Prop}
    (he : eval (.Call (.Attribute o name apos) (e :: rest) [] pos) env = (do
      let ov ← eval o env
      standAt apos.atName
      let (f, first) ← holding [ov] (getMethod ov name pl)
      callWith pos f first (backTo pos (starEach (e :: rest) env)) []))
    (hs : starEach (e :: rest) env = (false, eval e env) :: starEach rest env) (hp : (backTo pos (starEach rest env)).any (·.1) = false)
    (h : ev C n env o st fun ov st1 => ∃ c d l f, ov = .obj c d ∧ st1.mu d = some (.ns l) ∧ plainGet C.K c name = true ∧ findIn C.K (.ref c) name = some (some (.ref f)) ∧ isFn C.K (.ref f) = true ∧ keepIn C.K (.ref f) = true ∧ l.lookup name = none ∧
      evl C n env pos (e :: rest) st1 fun avs st2 => cl C n env (.val (.ref f)) (ov :: avs) st2 Q) : ev C n env (.Call (.Attribute o name apos) (e :: rest) [] pos) st Q := fun fz A hA kp s r => by
  refine MethodCall_ (pl := pl) (wpAny_mono (h fz A hA kp s r) ?_ fun _ _ x => x) he
  rintro v s1 ⟨fz1, av, st1, le1, rv, r1, c, d, l, f, rfl, hd, k1, k2, k3, k4, k5, h1⟩
  obtain ⟨x', ob, kvs, rfl, _, I, hns, hrd⟩ := instAt_obj r1 rv hd
  refine method_fn r1.kin I (plainGet_of k1).1 (plainGet_of k1).2 k2 (beq_iff_eq.mp k3) (by show (lookIn name ob).map _ = _; rw [lookIn_of hns, hrd.none k5]; rfl) ?_
  refine callWith_K r1.kin k4 (wpAny_mono (h1 fz1 A hA kp s1 r1) ?_ fun _ _ x => x) hs hp
  rintro vs s2 ⟨fz2, avs, st2, le2, rvs, r2, h2⟩
  exact ⟨r2.kin, wpAny_frame (h2 fz2 _ _ (.val _) (.cons (rv.mono le2) rvs)) hA r2 (le1.trans le2) fun _ _ x => x⟩
theorem g_COPY (hK : C.K = KK C.w.params) : nsIn C.K mainGlobals (Str.ofString "COPY") = some (some (.str (Str.ofString "Copy") 300)) := by rw [hK]; kernel_rfl
theorem ev_COPY (hK : C.K = KK C.w.params) {pos : Pos} {Q : V → ST → Prop} (hk : env.scope.kind = .function) (hx : env.kindOf (Str.ofString "COPY") = some .globalImplicit) (hg : env.globals = mainGlobals) (h : Q (.str (Str.ofString "Copy")) st) : ev C n env (.Name (Str.ofString "COPY") pos) st Q :=
  ev_post (ev_g (g_COPY hK) hk hx hg (by kernel_rfl) ⟨_, _, fun fz kp v s rv r => by cases rv; exact ⟨fz, Le.refl _, .str _ _, r⟩, h⟩)
def fnTab : List (Str × Addr) := [("head_pairs", 61), ("match_type", 75), ("match_all", 82), ("names_of", 87), ("matches_impl", 94), ("Selection", 149), ("select", 160), ("holds", 167), ("unmet_bounds", 174), ("ImplRow", 192), ("_law_take", 239), ("_law_one", 246), ("_law_needs", 257), ("_law_world", 262), ("_law_type", 269), ("_law_parts", 276), ("_law_answers", 281), ("_law_due", 288), ("_law_asked_right", 293)]
theorem lookIn {β : Type} : ∀ {l : List (Str × β)} {x : Str} {f : β}, l.lookup x = some f → (x, f) ∈ l
  | (a, b) :: l, x, f, h => by
    rw [List.lookup_cons] at h
    cases e : x == a with
    | true => rw [e] at h; cases h; rw [beq_iff_eq.mp e]; exact .head _
    | false => rw [e] at h; exact .tail _ (lookIn h)
theorem fn_of (hK : C.K = KK C.w.params) {x : Str} {f : Addr} (h : fnTab.lookup x = some f) : nsIn C.K mainGlobals x = some (some (.ref f)) ∧ keepIn C.K (.ref f) = true := by
  have all : ∀ p ∈ fnTab, nsIn C.K mainGlobals p.1 = some (some (.ref p.2)) ∧ keepIn C.K (.ref p.2) = true := by
    unfold fnTab
    simp only [List.forall_mem_cons]
    exact ⟨⟨g_head_pairs hK, k_head_pairs hK⟩, ⟨g_match_type hK, k_match_type hK⟩, ⟨g_match_all hK, k_match_all hK⟩, ⟨g_names_of hK, k_names_of hK⟩, ⟨g_matches_impl hK, k_matches_impl hK⟩, ⟨g_Selection hK, k_Selection hK⟩, ⟨g_select hK, k_select hK⟩, ⟨g_holds hK, k_holds hK⟩, ⟨g_unmet_bounds hK, k_unmet_bounds hK⟩, ⟨g_ImplRow hK, k_ImplRow hK⟩, ⟨g_law_take hK, k_law_take hK⟩, ⟨g_law_one hK, k_law_one hK⟩, ⟨g_law_needs hK, k_law_needs hK⟩, ⟨g_law_world hK, k_law_world hK⟩, ⟨g_law_type hK, k_law_type hK⟩, ⟨g_law_parts hK, k_law_parts hK⟩, ⟨g_law_answers hK, k_law_answers hK⟩, ⟨g_law_due hK, k_law_due hK⟩, ⟨g_law_asked_right hK, k_law_asked_right hK⟩, fun _ h => by cases h⟩
  exact all (x, f) (lookIn h)
theorem ev_cKT {x : Str} {npos pos : Pos} {e : Expr} {rest : List Expr} {f : Addr} {Q : V → ST → Prop} (hK : C.K = KK C.w.params) (hf : fnTab.lookup x = some f)
    (he : eval (.Call (.Name x npos) (e :: rest) [] pos) env = (do callWith pos (← eval (.Name x npos) env) [] (backTo pos (starEach (e :: rest) env)) (backToKw pos (keywordEach [] env))))
    (hs : starEach (e :: rest) env = (false, eval e env) :: starEach rest env) (hp : (backTo pos (starEach rest env)).any (·.1) = false) (hk : env.scope.kind = .function) (hx : env.kindOf x = some .globalImplicit) (hg : env.globals = mainGlobals) (hd : (x == ("__debug__" : Str)) = false)
    (h : evl C n env pos (e :: rest) st fun avs st2 => cl C n env (.val (.ref f)) avs st2 Q) : ev C n env (.Call (.Name x npos) (e :: rest) [] pos) st Q := ev_cK (fn_of hK hf).1 (fn_of hK hf).2 he hs hp hk hx hg hd h
def biTab : List (Str × Value) := [("int", .type "int"), ("tuple", .type "tuple"), ("list", .type "list"), ("len", .builtin "len"), ("min", .builtin "min")]
theorem bi_of (hK : C.K = KK C.w.params) {x : Str} {v : Value} (h : biTab.lookup x = some v) : nsIn C.K mainGlobals x = some none ∧ bootBuiltins x = some v := by
  have all : ∀ p ∈ biTab, nsIn C.K mainGlobals p.1 = some none ∧ bootBuiltins p.1 = some p.2 := by
    unfold biTab
    simp only [List.forall_mem_cons]
    exact ⟨⟨b_int hK, v_int⟩, ⟨b_tuple hK, v_tuple⟩, ⟨b_list hK, v_list⟩, ⟨b_len hK, v_len⟩, ⟨b_min hK, v_min⟩, fun _ h => by cases h⟩
  exact all (x, v) (lookIn h)
theorem ev_cTT {x : Str} {npos pos : Pos} {e : Expr} {rest : List Expr} {i : String} {Q : V → ST → Prop} (hK : C.K = KK C.w.params) (hf : biTab.lookup x = some (.type i)) (hn : (x == ("__name__" : Str)) = false)
    (he : eval (.Call (.Name x npos) (e :: rest) [] pos) env = (do callWith pos (← eval (.Name x npos) env) [] (backTo pos (starEach (e :: rest) env)) (backToKw pos (keywordEach [] env))))
    (hs : starEach (e :: rest) env = (false, eval e env) :: starEach rest env) (hp : (backTo pos (starEach rest env)).any (·.1) = false) (hk : env.scope.kind = .function) (hx : env.kindOf x = some .globalImplicit) (hg : env.globals = mainGlobals) (hb : env.builtins = builtinsNs) (hd : (x == ("__debug__" : Str)) = false)
    (h : evl C n env pos (e :: rest) st fun avs st2 => cl C n env (.val (.type i)) avs st2 Q) : ev C n env (.Call (.Name x npos) (e :: rest) [] pos) st Q := ev_cT (bi_of hK hf).1 (bi_of hK hf).2 hn he hs hp hk hx hg hb hd h
theorem ev_cBT {x : Str} {npos pos : Pos} {e : Expr} {rest : List Expr} {i : String} {Q : V → ST → Prop} (hK : C.K = KK C.w.params) (hf : biTab.lookup x = some (.builtin i)) (hn : (x == ("__name__" : Str)) = false)
    (he : eval (.Call (.Name x npos) (e :: rest) [] pos) env = (do callWith pos (← eval (.Name x npos) env) [] (backTo pos (starEach (e :: rest) env)) (backToKw pos (keywordEach [] env))))
    (hs : starEach (e :: rest) env = (false, eval e env) :: starEach rest env) (hp : (backTo pos (starEach rest env)).any (·.1) = false) (hk : env.scope.kind = .function) (hx : env.kindOf x = some .globalImplicit) (hg : env.globals = mainGlobals) (hb : env.builtins = builtinsNs) (hd : (x == ("__debug__" : Str)) = false)
    (h : evl C n env pos (e :: rest) st fun avs st2 => cl C n env (.val (.builtin i)) avs st2 Q) : ev C n env (.Call (.Name x npos) (e :: rest) [] pos) st Q := ev_cB (bi_of hK hf).1 (bi_of hK hf).2 hn he hs hp hk hx hg hb hd h
local macro_rules | `(tactic| o_fieldsN) => `(tactic| with_reducible first
  | exact lk_here
  | assumption
  | exact lk_there (by kernel_rfl) (by o_fieldsN))
local macro_rules | `(tactic| kas_types) => `(tactic| with_reducible first
  | refine ev_int ?_
  | refine ev_str ?_
  | refine ev_bool ?_
  | refine ev_none ?_
  | (refine' ev_COPY ?k ?a ?b ?c ?_; (case k => assumption); (case a => kernel_rfl); (case b => kernel_rfl); (case c => kernel_rfl))
  | (refine' ev_loc ?a ?b ?c ?d ?_; (case a => kernel_rfl); (case b => kernel_rfl); (case d => kernel_rfl); (case c => o_fieldsN))
  | refine ev_Slice ?_
  | refine ev_Subscript ?_
  | refine ev_BinOp ?_
  | refine ev_UnaryOp ?_
  | (refine' ev_Compare ?a ?_; (case a => kernel_rfl))
  | refine ev_IfExp ?_
  | refine ev_Tuple ?_
  | refine evl_nil ?_
  | (refine' evl_cons ?a ?_; (case a => kernel_rfl))
  | (refine' tr_Compare ?a ?_; (case a => kernel_rfl))
  | refine tr_Not ?_
  | refine tr_and ?_
  | refine tr_and_nil ?_
  | refine tr_or ?_
  | refine tr_or_nil ?_
  | refine ex_nil ?_
  | refine ex_cons ?_
  | refine ex1_If ?_
  | refine ex1_Return ?_
  | (refine' ex1_AssignName ?a ?_; (case a => kernel_rfl))
  | (refine' ex1_AssignG ?a ?b ?_ ?c; (case a => kernel_rfl); (case b => kernel_rfl); (case c => kernel_rfl))
  | refine ex1_Continue ?_
  | refine ex1_Break ?_
  | refine asg_Sub ?_
  | refine asg_Name ?_
  | refine asg_Attr ?_
  | (refine' sto_loc ?a ?b ?_; (case a => kernel_rfl); (case b => kernel_rfl))
  | (refine' ev_cTT ?k ?l ?n ?a ?b ?c ?d ?e ?f ?g ?h ?_; (case k => assumption); (case l => with_unfolding_all exact rfl); all_goals (try kernel_rfl))
  | (refine' ev_cBT ?k ?l ?n ?a ?b ?c ?d ?e ?f ?g ?h ?_; (case k => assumption); (case l => with_unfolding_all exact rfl); all_goals (try kernel_rfl))
  | (refine' ev_cKT ?k ?l ?a ?b ?c ?d ?e ?f ?g ?_; (case k => assumption); (case l => with_unfolding_all exact rfl); all_goals (try kernel_rfl))
  | (refine' asg_T2 ?a ?_; (case a => with_unfolding_all exact rfl))
  | (refine' asg_T3 ?a ?_; (case a => with_unfolding_all exact rfl))
  | refine ev_D1 ?_
  | refine ev_D2 ?_
  | refine ev_D4 ?_
  | (refine' ev_append ?a ?b ?_; (case a => with_unfolding_all exact rfl); (case b => kernel_rfl))
  | (refine' ev_extend ?a ?b ?_; (case a => with_unfolding_all exact rfl); (case b => kernel_rfl))
  | (refine' ev_pop ?a ?_; (case a => with_unfolding_all exact rfl))
  | (refine' ev_get ?a ?b ?c ?_; (case a => with_unfolding_all exact rfl); (case b => kernel_rfl); (case c => kernel_rfl))
  | (refine' ev_MethO ?a ?b ?c ?_; (case a => with_unfolding_all exact rfl); (case b => kernel_rfl); (case c => kernel_rfl))
  | (refine' ex1_Expr ?a ?b ?_; (case a => kernel_rfl); (case b => kernel_rfl))
  | (refine' ev_cK0 (g_World ?k) (k_World ?l) ?a ?b ?c ?d ?e ?_; (case k => assumption); (case l => assumption); all_goals (try kernel_rfl))
  | (refine' ev_box ?k ?a ?b ?c ?_; (case k => assumption); all_goals (try kernel_rfl))
  | (refine' ev_pair ?k ?a ?b ?c ?_; (case k => assumption); all_goals (try kernel_rfl))
  | refine bop_add ?_
  | refine bop_sub ?_
  | refine op_neg ?_
  | refine op_not ?_
  | refine cmp_lt ?_
  | refine cmp_gt ?_
  | refine cmp_ge ?_
  | refine cmp_eq ?_
  | refine cmp_ne ?_
  | refine cmp_seq ?_
  | refine cmp_sne ?_
  | refine cl_int ?_
  | refine tru_bool ?_
  | (refine' ite_pos ?a ?_; (case a => decide))
  | (refine' ite_neg ?a ?_; (case a => decide))
  | (refine' ite_pos ?a ?_; (case a => decide +kernel))
  | (refine' ite_neg ?a ?_; (case a => decide +kernel))
  | refine ev_ListF ?_
  | (refine' And.intro ?a ?_; (case a => exact Nat.le_of_ble_eq_true (by kernel_rfl))))
def drawOf (s0 s1 : Int) (top : Int) : Int × Int × Int :=
  if 0 < s0 then (s0.fmod top, s0.fdiv top, s1)
  else
    let t := (s1 * 39373 + 7).fmod 2147483647
    ((((t * t).fmod 2147483629).fdiv 32).fmod top, s0, t)
theorem mulOk_small {a b : Int} (h1 : 0 ≤ a ∧ a < 2147483648) (h2 : 0 ≤ b ∧ b < 2147483648) : IntMulOk a b := by
  refine IntMulOk.of_left ?_
  unfold Builtin.Int.intBits
  split
  · decide
  · rename_i h
    have h0 : a.natAbs ≠ 0 := by
      intro q; apply h; simp; omega
    have : a.natAbs.log2 < 32 := (Nat.log2_lt h0).mpr (by omega)
    omega
theorem fm_range {a b : Int} (h : 0 < b) : 0 ≤ a.fmod b ∧ a.fmod b < b := ⟨Int.fmod_nonneg_of_pos a h, Int.fmod_lt_of_pos a h⟩
theorem take_ct (hK : C.K = KK C.w.params) {a : Addr} {s0 s1 top : Int} {Q : V → ST → Prop} (hm : st.mu a = some (.lst [.int s0, .int s1])) (h1 : 0 ≤ s1 ∧ s1 < 2147483647) (ht : 1 ≤ top ∧ top ≤ 10)
    (h : Q (.int (drawOf s0 s1 top).1) ⟨st.loc, insM st.mu a (.lst [.int (drawOf s0 s1 top).2.1, .int (drawOf s0 s1 top).2.2])⟩) : clc C (n + 1) env (.val (.ref 239)) [.val (.ref a), .int top] st Q := by
  refine clc_dk (f := 239) [("source", .val (.ref a)), ("top", .int top)] [("top", .int top), ("source", .val (.ref a))] (by rw [hK]; rfl) (by rw [hK]; kernel_rfl) (binds2 fun _ _ => rfl) (by kernel_rfl) (by kernel_rfl) (by kernel_rfl) (by kernel_rfl) (by kernel_rfl) rfl fun L' => ?_
  unfold drawOf at h
  refine ex_cons ?_
  repeat kas_types
  refine sub_lstM (fun _ _ => rfl) hm (j := 0) rfl (by decide) rfl ?_
  repeat kas_types
  by_cases hp : 0 < s0
  · rw [if_pos hp] at h
    rw [if_pos (by simpa using hp)]
    repeat kas_types
    refine sub_lstM (fun _ _ => rfl) hm (j := 0) rfl (by decide) rfl ?_
    repeat kas_types
    refine bop_fmod (by omega) ?_
    repeat kas_types
    refine sub_lstM (fun _ _ => rfl) hm (j := 0) rfl (by decide) rfl ?_
    repeat kas_types
    refine bop_fdiv (by omega) (by omega) ?_
    repeat kas_types
    refine setI_lst hm (j := 0) rfl (by simp) (by simp) ?_
    repeat kas_types
    exact fin_ret h
  · rw [if_neg hp] at h
    rw [if_neg (by simpa using hp)]
    repeat kas_types
    refine sub_lstM (fun _ _ => rfl) hm (j := 1) rfl (by decide) rfl ?_
    repeat kas_types
    refine bop_mul (mulOk_small ⟨h1.1, by omega⟩ (by decide)) ?_
    repeat kas_types
    refine bop_fmod (by decide) ?_
    repeat kas_types
    refine setI_lst hm (j := 1) rfl (by simp) (by simp) ?_
    repeat kas_types
    refine sub_lstM (fun _ _ => rfl) (insM_self ..) (j := 1) rfl (by decide) rfl ?_
    repeat kas_types
    refine sub_lstM (fun _ _ => rfl) (insM_self ..) (j := 1) rfl (by decide) rfl ?_
    repeat kas_types
    have hb := fm_range (a := s1 * 39373 + 7) (b := 2147483647) (by decide)
    refine bop_mul (mulOk_small ⟨hb.1, by omega⟩ ⟨hb.1, by omega⟩) ?_
    repeat kas_types
    refine bop_fmod (by decide) ?_
    repeat kas_types
    refine bop_fdiv (by decide) (by decide) ?_
    repeat kas_types
    refine bop_fmod (by omega) ?_
    repeat kas_types
    exact fin_ret h
theorem draw_range {s0 s1 top : Int} (h0 : 0 ≤ s0) (h1 : 0 ≤ s1 ∧ s1 < 2147483647) (ht : 1 ≤ top) : 0 ≤ (drawOf s0 s1 top).1 ∧ (drawOf s0 s1 top).1 < top ∧ 0 ≤ (drawOf s0 s1 top).2.1 ∧ 0 ≤ (drawOf s0 s1 top).2.2 ∧ (drawOf s0 s1 top).2.2 < 2147483647 := by
  unfold drawOf
  have hm : ∀ a : Int, 0 ≤ a.fmod top ∧ a.fmod top < top := fun a => fm_range (by omega)
  split
  · refine ⟨(hm _).1, (hm _).2, Int.fdiv_nonneg h0 (by omega), h1.1, h1.2⟩
  · exact ⟨(hm _).1, (hm _).2, h0, (fm_range (by decide)).1, (fm_range (by decide)).2⟩
abbrev srcM (s0 s1 : Int) : MO := .lst [.int s0, .int s1]
def SrcOk (s0 s1 : Int) : Prop := 0 ≤ s0 ∧ 0 ≤ s1 ∧ s1 < 2147483647
theorem take_c (hK : C.K = KK C.w.params) {a : Addr} {s0 s1 : Int} {top : Int} {Q : V → ST → Prop} (hm : st.mu a = some (srcM s0 s1)) (hs : SrcOk s0 s1) (ht : 1 ≤ top ∧ top ≤ 10)
    (h : ∀ r t0 t1, 0 ≤ r → r < top → SrcOk t0 t1 → Q (.int r) ⟨st.loc, insM st.mu a (srcM t0 t1)⟩) : clc C (n + 1) env (.val (.ref 239)) [.val (.ref a), .int top] st Q := by
  have d := draw_range (s0 := s0) (s1 := s1) (top := top) hs.1 hs.2 ht.1
  exact take_ct hK hm hs.2 ht (h _ _ _ d.1 d.2.1 ⟨d.2.2.1, d.2.2.2.1, d.2.2.2.2⟩)
def abc : List Str := ["A", "B", "C"]
theorem one_c (hK : C.K = KK C.w.params) {a : Addr} {s0 s1 : Int} {Q : V → ST → Prop} (hm : st.mu a = some (srcM s0 s1)) (hs : SrcOk s0 s1)
    (h : ∀ t t0 t1, t ∈ abc → SrcOk t0 t1 → Q (.str t) ⟨st.loc, insM st.mu a (srcM t0 t1)⟩) : clc C (n + 2) env (.val (.ref 246)) [.val (.ref a), .str "ABC"] st Q := by
  refine clc_dk (f := 246) [("source", .val (.ref a)), ("things", .str "ABC")] [("things", .str "ABC"), ("source", .val (.ref a))] (by rw [hK]; rfl) (by rw [hK]; kernel_rfl) (binds2 fun _ _ => rfl) (by kernel_rfl) (by kernel_rfl) (by kernel_rfl) (by kernel_rfl) (by kernel_rfl) rfl fun L' => ?_
  refine ex_cons ?_
  repeat kas_types
  refine cl_len_str (by decide +kernel) ?_
  repeat kas_types
  refine cl_of (take_c hK hm hs (by decide +kernel) fun r t0 t1 h0 h1 h2 => ?_)
  have e3 : (("ABC" : Str).length : Int) = 3 := by decide +kernel
  rw [e3] at h1
  obtain ⟨j, rfl⟩ : ∃ j : Nat, r = j := ⟨r.toNat, by omega⟩
  have hj : j = 0 ∨ j = 1 ∨ j = 2 := by omega
  rcases hj with rfl | rfl | rfl
  · refine sub_str (fun _ _ => rfl) (j := 0) (c := 65) rfl (by decide) (by decide +kernel) ?_
    repeat kas_types
    exact fin_ret (h _ _ _ (by decide +kernel) h2)
  · refine sub_str (fun _ _ => rfl) (j := 1) (c := 66) rfl (by decide) (by decide +kernel) ?_
    repeat kas_types
    exact fin_ret (h _ _ _ (by decide +kernel) h2)
  · refine sub_str (fun _ _ => rfl) (j := 2) (c := 67) rfl (by decide) (by decide +kernel) ?_
    repeat kas_types
    exact fin_ret (h _ _ _ (by decide +kernel) h2)
theorem chs_abc : chs "ABC" = abc.map V.str := by
  have e : ("ABC" : Str).cps.toList = [65, 66, 67] := by decide +kernel
  unfold chs abc
  rw [e]
  have e1 : (⟨#[65]⟩ : Str) = ("A" : Str) := by decide +kernel
  have e2 : (⟨#[66]⟩ : Str) = ("B" : Str) := by decide +kernel
  have e3 : (⟨#[67]⟩ : Str) = ("C" : Str) := by decide +kernel
  simp only [List.map_cons, List.map_nil, e1, e2, e3]
theorem walk_abc : walkable (.str "ABC") (abc.map V.str) := ⟨by decide +kernel, chs_abc.symm⟩

theorem clc_dkC {f : Addr} {oc : Value} {od : Option Addr} {osl : Array (Option Value)} {name qual : Str} {params : Arguments} {body : List Stmt} {scope : PySem.Scope} {dV kV doc pm cdv ct : Value} {an : Option Addr} {as : List V} (ab loc : List (Str × V)) (ks : List Str) {Q : V → ST → Prop}
    (ho : C.K.lookup f = some ⟨oc, od, .func (fnOf name qual params body scope dV kV doc pm an cdv ct), osl⟩) (hcd : codeIn C.K cdv qual = true)
    (hb : Binds C (fnOf name qual params body scope dV kV doc pm an cdv ct) as ab) (hks : ab.map (·.1) = ks) (hkind : (ks.all fun y => scope.names.lookup y == some .local || scope.names.lookup y == some .cell) = true)
    (hnd : ks.Nodup) (hnn : (scope.names.map (·.1)).Nodup) (hndc : ((cellsFrom 0 scope.names []).map (·.1)).Nodup)
    (hco : scope.isCoroutine = false) (hgen : scope.isGenerator = false) (hk : scope.kind = .function) (hr : ab.filter (fun y => scope.names.lookup y.1 == some .local) = loc)
    (h : ∀ L' mu', (∀ x c, (cellsFrom (L' + 1) scope.names []).lookup x = some c → mu' c = some (.cell (ab.lookup x)) ∧ st.mu c = none) → LeM st.mu mu' →
      ex C n (envX qual scope L' f cdv (cellsFrom (L' + 1) scope.names [])) body ⟨loc, mu'⟩ (Ret Q st.loc)) :
    clc C (n + 1) env (.val (.ref f)) as st Q :=
  clc_defC ho hcd hb (by rw [hks]; exact hkind) (by rw [hks]; exact hnd) hnn hndc hco hgen hk (by rw [hr]; exact h)
theorem needs_c (hK : C.K = KK C.w.params) {a : Addr} {s0 s1 : Int} {most : Nat} {Q : V → ST → Prop} (hm : st.mu a = some (srcM s0 s1)) (hs : SrcOk s0 s1)
    (h : ∀ (ts : List Str) t0 t1, (∀ t ∈ ts, t ∈ abc) → ts.length ≤ most → ts.length ≤ 3 → SrcOk t0 t1 → Q (.tup (ts.map V.str)) ⟨st.loc, insM st.mu a (srcM t0 t1)⟩) : clc C (n + 2) env (.val (.ref 257)) [.val (.ref a), .int most] st Q := by
  refine clc_dkC (f := 257) [("source", .val (.ref a)), ("most", .int most)] [("most", .int most)] ["source", "most"] (by rw [hK]; rfl) (by rw [hK]; kernel_rfl) (binds2 fun _ _ => rfl) rfl (by kernel_rfl) (by decide +kernel) (by decide +kernel) (by decide +kernel) (by kernel_rfl) (by kernel_rfl) (by kernel_rfl) (by rfl) fun L' mu' hcell hle => ?_
  obtain ⟨c1, c2⟩ := hcell "source" (L' + 1) (by rfl)
  have e1 : List.lookup (Str.ofString "source") [(Str.ofString "source", V.val (.ref a)), (Str.ofString "most", V.int most)] = some (V.val (.ref a)) := lk_here
  rw [e1] at c1
  have hca : L' + 1 ≠ a := fun q => by rw [q, hm] at c2; cases c2
  have hma : mu' a = some (srcM s0 s1) := hle _ _ hm
  refine ex_cons ?_
  repeat kas_types
  refine ev_ListComp (k := fun D L => do let _ ← call (.builtin "list.append") [.ref D, ← eval _ (compEnvC _ _ L _)]) (fun _ => rfl) (cl := [("source", L' + 1)]) (by rfl) (by rfl) (by decide +kernel) (by decide +kernel) (fun I D L => by rfl)
    (fun xs i ys st2 => xs = abc.map V.str ∧ ∃ (ts : List Str) (t0 t1 : Int), ys = ts.map V.str ∧ (∀ t ∈ ts, t ∈ abc) ∧ ts.length ≤ i ∧ SrcOk t0 t1 ∧ st2.mu = insM mu' a (srcM t0 t1)) ?_ ?_
  · refine itr_ev ?_
    repeat kas_types
    refine ⟨_, walk_abc, by decide, ⟨rfl, [], s0, s1, rfl, by simp, Nat.le_refl _, hs, ?_⟩, ?_⟩
    · funext b
      by_cases q : b = a
      · subst q; simp [insM, hma]
      · simp [insM, q]
    · rintro ys st2 ⟨_, ts, t0, t1, rfl, hts, hl, hs2, hmu⟩
      refine ⟨st2.mu, LeM.refl _, _, rfl, ?_⟩
      rw [hmu]
      repeat kas_types
      have hl3 : ts.length ≤ 3 := hl
      refine ⟨most, rfl, by simp; omega, ?_⟩
      repeat kas_types
      refine cl_tuple_lst (by simp; omega) ?_
      repeat kas_types
      refine ⟨insM st.mu a (srcM t0 t1), LeM.ins (fun b o hb e => by show insM mu' a (srcM t0 t1) b = some o; rw [insM_other _ _ hb]; exact hle _ _ e) (insM_self ..), ?_⟩
      have := h (ts.take most) t0 t1 (fun t ht => hts t (List.mem_of_mem_take ht)) (by simp; omega) (by simp; omega) hs2
      simpa [List.map_take] using this
  · rintro L D xs i x ys st2 hx ⟨rfl, ts, t0, t1, rfl, hts, hl, hs2, hmu⟩
    obtain ⟨l2, m2⟩ := st2
    dsimp only at hmu
    subst hmu
    obtain ⟨t, ht, rfl⟩ : ∃ t, t ∈ abc ∧ V.str t = x := by
      have := List.mem_of_getElem? hx
      simpa using this
    have hi : i < 3 := (List.getElem?_eq_some_iff.mp hx).1
    refine asg_Name (sto_loc (by kernel_rfl) (by kernel_rfl) ?_)
    refine trs_one ?_
    iterate 3 kas_types
    refine ev_cell (c := L' + 1) (v := .val (.ref a)) (by rfl) (.inl (by rfl)) (by rfl) ?_ (by kernel_rfl) (by kernel_rfl) ?_
    · show insM mu' a (srcM t0 t1) (L' + 1) = _
      rw [insM_other _ _ hca]; exact c1
    repeat kas_types
    refine cl_of (take_c hK (insM_self ..) hs2 (by decide) fun r u0 u1 h0 h1 h2 => ?_)
    repeat kas_types
    rw [insM_insM]
    by_cases hr : r = 0
    · subst hr
      rw [if_pos (by decide)]
      refine accj_emit (by simp; omega) ?_
      repeat kas_types
      exact ⟨rfl, ts ++ [t], u0, u1, by simp, fun y hy => by
        rcases List.mem_append.mp hy with hy | hy
        · exact hts y hy
        · rw [List.mem_singleton] at hy; subst hy; exact ht, by simp; omega, h2, rfl⟩
    · rw [if_neg (by simpa using hr)]
      exact ⟨rfl, ts, u0, u1, rfl, hts, by omega, h2, rfl⟩
theorem type_c (hK : C.K = KK C.w.params) : ∀ (deep : Nat) {env : Env} {st : ST} {a : Addr} {s0 s1 : Int} {Q : V → ST → Prop}, deep ≤ 3 → st.mu a = some (srcM s0 s1) → SrcOk s0 s1 →
    (∀ t t0 t1, hgt t ≤ deep → SrcOk t0 t1 → Q (tyV t) ⟨st.loc, insM st.mu a (srcM t0 t1)⟩) → clc C (deep + 2) env (.val (.ref 269)) [.val (.ref a), .int deep] st Q := by
  intro deep
  induction deep with
  | zero =>
    intro env st a s0 s1 Q hd hm hs h
    refine clc_dk (f := 269) [("source", .val (.ref a)), ("deep", .int (0 : Nat))] [("deep", .int (0 : Nat)), ("source", .val (.ref a))] (by rw [hK]; rfl) (by rw [hK]; kernel_rfl) (binds2 fun _ _ => rfl) (by kernel_rfl) (by kernel_rfl) (by kernel_rfl) (by kernel_rfl) (by kernel_rfl) rfl fun L' => ?_
    refine ex_cons ?_
    repeat kas_types
    refine cl_of (take_c hK hm hs (by decide) fun r t0 t1 h0 h1 h2 => ?_)
    repeat kas_types
    rw [if_neg (by simp <;> omega)]
    repeat kas_types
    rw [if_neg (by simp <;> omega)]
    repeat kas_types
    rw [if_neg (by simp <;> omega)]
    repeat kas_types
    obtain ⟨j, rfl⟩ : ∃ j : Nat, r = j := ⟨r.toNat, by omega⟩
    have hj : j = 0 ∨ j = 1 ∨ j = 2 ∨ j = 3 := by omega
    rcases hj with rfl | rfl | rfl | rfl
    · refine' sub_lstF (x := tyV .u8) (j := 0) (fun _ _ => rfl) ?_ ?_ ?_ ?_
      · decide
      · decide
      · exact rfl
      repeat kas_types
      exact fin_ret (h .u8 _ _ (by simp [hgt]) h2)
    · refine' sub_lstF (x := tyV .boo) (j := 1) (fun _ _ => rfl) ?_ ?_ ?_ ?_
      · decide
      · decide
      · exact rfl
      repeat kas_types
      exact fin_ret (h .boo _ _ (by simp [hgt]) h2)
    · refine' sub_lstF (x := tyV .par) (j := 2) (fun _ _ => rfl) ?_ ?_ ?_ ?_
      · decide
      · decide
      · exact rfl
      repeat kas_types
      exact fin_ret (h .par _ _ (by simp [hgt]) h2)
    · refine' sub_lstF (x := tyV .var) (j := 3) (fun _ _ => rfl) ?_ ?_ ?_ ?_
      · decide
      · decide
      · exact rfl
      repeat kas_types
      exact fin_ret (h .var _ _ (by simp [hgt]) h2)
  | succ d ih =>
    intro env st a s0 s1 Q hd hm hs h
    refine clc_dk (f := 269) [("source", .val (.ref a)), ("deep", .int ((d + 1 : Nat) : Int))] [("deep", .int ((d + 1 : Nat) : Int)), ("source", .val (.ref a))] (by rw [hK]; rfl) (by rw [hK]; kernel_rfl) (binds2 fun _ _ => rfl) (by kernel_rfl) (by kernel_rfl) (by kernel_rfl) (by kernel_rfl) (by kernel_rfl) rfl fun L' => ?_
    have ed : ((d + 1 : Nat) : Int) - 1 = (d : Int) := by omega
    have rec1 : ∀ {env : Env} {st : ST} {s0 s1 : Int} {Q : V → ST → Prop}, st.mu a = some (srcM s0 s1) → SrcOk s0 s1 → (∀ t t0 t1, hgt t ≤ d → SrcOk t0 t1 → Q (tyV t) ⟨st.loc, insM st.mu a (srcM t0 t1)⟩) → cl C (d + 1 + 1) env (.val (.ref 269)) [.val (.ref a), .int (((d + 1 : Nat) : Int) - 1)] st Q :=
      fun hm hs h => by rw [ed]; exact cl_of (ih (by omega) hm hs h)
    -- the two ways that go deeper, and the four leaves
    refine ex_cons ?_
    repeat kas_types
    rw [if_pos (by simp <;> omega)]
    repeat kas_types
    refine cl_of (take_c hK hm hs (by decide) fun r t0 t1 h0 h1 h2 => ?_)
    repeat kas_types
    obtain ⟨j, rfl⟩ : ∃ j : Nat, r = j := ⟨r.toNat, by omega⟩
    have hj : j = 0 ∨ j = 1 ∨ j = 2 ∨ j = 3 ∨ j = 4 ∨ j = 5 := by omega
    have hm2 : ∀ {l : List (Str × V)}, (⟨l, insM st.mu a (srcM t0 t1)⟩ : ST).mu a = some (srcM t0 t1) := insM_self _ _ _
    rcases hj with rfl | rfl | rfl | rfl | rfl | rfl
    · repeat kas_types
      refine rec1 hm2 h2 fun t u0 u1 ht hu => ?_
      repeat kas_types
      rw [insM_insM]
      exact fin_ret (h (.box t) _ _ (by simp [hgt]; omega) hu)
    · repeat kas_types
      by_cases hd3 : d + 1 < 3
      · rw [if_pos (by simp <;> omega)]
        repeat kas_types
        refine rec1 hm2 h2 fun t u0 u1 ht hu => ?_
        repeat kas_types
        rw [insM_insM]
        exact fin_ret (h (.box t) _ _ (by simp [hgt]; omega) hu)
      · rw [if_neg (by simp <;> omega)]
        repeat kas_types
        refine rec1 hm2 h2 fun t u0 u1 ht hu => ?_
        repeat kas_types
        refine rec1 (insM_self _ _ _) hu fun t' v0 v1 ht' hv => ?_
        repeat kas_types
        rw [insM_insM, insM_insM]
        exact fin_ret (h (.pair t t') _ _ (by simp [hgt]; omega) hv)
    · repeat kas_types
      refine' sub_lstF (x := tyV .u8) (j := 0) (fun _ _ => rfl) ?_ ?_ ?_ ?_
      · decide
      · decide
      · exact rfl
      repeat kas_types
      exact fin_ret (h .u8 _ _ (by simp [hgt]) h2)
    · repeat kas_types
      refine' sub_lstF (x := tyV .boo) (j := 1) (fun _ _ => rfl) ?_ ?_ ?_ ?_
      · decide
      · decide
      · exact rfl
      repeat kas_types
      exact fin_ret (h .boo _ _ (by simp [hgt]) h2)
    · repeat kas_types
      refine' sub_lstF (x := tyV .par) (j := 2) (fun _ _ => rfl) ?_ ?_ ?_ ?_
      · decide
      · decide
      · exact rfl
      repeat kas_types
      exact fin_ret (h .par _ _ (by simp [hgt]) h2)
    · repeat kas_types
      refine' sub_lstF (x := tyV .var) (j := 3) (fun _ _ => rfl) ?_ ?_ ?_ ?_
      · decide
      · decide
      · exact rfl
      repeat kas_types
      exact fin_ret (h .var _ _ (by simp [hgt]) h2)
theorem so_row_number (hK : C.K = KK C.w.params) : setOk C.K 192 (Str.ofString "number") = true := by rw [hK]; kernel_rfl
theorem ao_row_number (hK : C.K = KK C.w.params) : attrOk C.K 192 (Str.ofString "number") = true := by rw [hK]; kernel_rfl
theorem so_row_regions (hK : C.K = KK C.w.params) : setOk C.K 192 (Str.ofString "regions") = true := by rw [hK]; kernel_rfl
theorem ao_row_regions (hK : C.K = KK C.w.params) : attrOk C.K 192 (Str.ofString "regions") = true := by rw [hK]; kernel_rfl
theorem so_row_params (hK : C.K = KK C.w.params) : setOk C.K 192 (Str.ofString "params") = true := by rw [hK]; kernel_rfl
theorem ao_row_params (hK : C.K = KK C.w.params) : attrOk C.K 192 (Str.ofString "params") = true := by rw [hK]; kernel_rfl
theorem so_row_trait (hK : C.K = KK C.w.params) : setOk C.K 192 (Str.ofString "trait") = true := by rw [hK]; kernel_rfl
theorem ao_row_trait (hK : C.K = KK C.w.params) : attrOk C.K 192 (Str.ofString "trait") = true := by rw [hK]; kernel_rfl
theorem so_row_trait_args (hK : C.K = KK C.w.params) : setOk C.K 192 (Str.ofString "trait_args") = true := by rw [hK]; kernel_rfl
theorem ao_row_trait_args (hK : C.K = KK C.w.params) : attrOk C.K 192 (Str.ofString "trait_args") = true := by rw [hK]; kernel_rfl
theorem so_row_self_type (hK : C.K = KK C.w.params) : setOk C.K 192 (Str.ofString "self_type") = true := by rw [hK]; kernel_rfl
theorem ao_row_self_type (hK : C.K = KK C.w.params) : attrOk C.K 192 (Str.ofString "self_type") = true := by rw [hK]; kernel_rfl
theorem so_row_methods (hK : C.K = KK C.w.params) : setOk C.K 192 (Str.ofString "methods") = true := by rw [hK]; kernel_rfl
theorem ao_row_methods (hK : C.K = KK C.w.params) : attrOk C.K 192 (Str.ofString "methods") = true := by rw [hK]; kernel_rfl
theorem so_row_spot (hK : C.K = KK C.w.params) : setOk C.K 192 (Str.ofString "spot") = true := by rw [hK]; kernel_rfl
theorem ao_row_spot (hK : C.K = KK C.w.params) : attrOk C.K 192 (Str.ofString "spot") = true := by rw [hK]; kernel_rfl
theorem so_wor_modules (hK : C.K = KK C.w.params) : setOk C.K 221 (Str.ofString "modules") = true := by rw [hK]; kernel_rfl
theorem ao_wor_modules (hK : C.K = KK C.w.params) : attrOk C.K 221 (Str.ofString "modules") = true := by rw [hK]; kernel_rfl
theorem so_wor_adts (hK : C.K = KK C.w.params) : setOk C.K 221 (Str.ofString "adts") = true := by rw [hK]; kernel_rfl
theorem ao_wor_adts (hK : C.K = KK C.w.params) : attrOk C.K 221 (Str.ofString "adts") = true := by rw [hK]; kernel_rfl
theorem so_wor_variants (hK : C.K = KK C.w.params) : setOk C.K 221 (Str.ofString "variants") = true := by rw [hK]; kernel_rfl
theorem ao_wor_variants (hK : C.K = KK C.w.params) : attrOk C.K 221 (Str.ofString "variants") = true := by rw [hK]; kernel_rfl
theorem so_wor_sigs (hK : C.K = KK C.w.params) : setOk C.K 221 (Str.ofString "sigs") = true := by rw [hK]; kernel_rfl
theorem ao_wor_sigs (hK : C.K = KK C.w.params) : attrOk C.K 221 (Str.ofString "sigs") = true := by rw [hK]; kernel_rfl
theorem so_wor_traits (hK : C.K = KK C.w.params) : setOk C.K 221 (Str.ofString "traits") = true := by rw [hK]; kernel_rfl
theorem ao_wor_traits (hK : C.K = KK C.w.params) : attrOk C.K 221 (Str.ofString "traits") = true := by rw [hK]; kernel_rfl
theorem so_wor_impls (hK : C.K = KK C.w.params) : setOk C.K 221 (Str.ofString "impls") = true := by rw [hK]; kernel_rfl
theorem ao_wor_impls (hK : C.K = KK C.w.params) : attrOk C.K 221 (Str.ofString "impls") = true := by rw [hK]; kernel_rfl
theorem so_wor_consts (hK : C.K = KK C.w.params) : setOk C.K 221 (Str.ofString "consts") = true := by rw [hK]; kernel_rfl
theorem ao_wor_consts (hK : C.K = KK C.w.params) : attrOk C.K 221 (Str.ofString "consts") = true := by rw [hK]; kernel_rfl
theorem so_wor_bodies (hK : C.K = KK C.w.params) : setOk C.K 221 (Str.ofString "bodies") = true := by rw [hK]; kernel_rfl
theorem ao_wor_bodies (hK : C.K = KK C.w.params) : attrOk C.K 221 (Str.ofString "bodies") = true := by rw [hK]; kernel_rfl
theorem so_sel_world (hK : C.K = KK C.w.params) : setOk C.K 149 (Str.ofString "world") = true := by rw [hK]; kernel_rfl
theorem ao_sel_world (hK : C.K = KK C.w.params) : attrOk C.K 149 (Str.ofString "world") = true := by rw [hK]; kernel_rfl
theorem so_sel_bounds (hK : C.K = KK C.w.params) : setOk C.K 149 (Str.ofString "bounds") = true := by rw [hK]; kernel_rfl
theorem ao_sel_bounds (hK : C.K = KK C.w.params) : attrOk C.K 149 (Str.ofString "bounds") = true := by rw [hK]; kernel_rfl
theorem so_sel_known (hK : C.K = KK C.w.params) : setOk C.K 149 (Str.ofString "known") = true := by rw [hK]; kernel_rfl
theorem ao_sel_known (hK : C.K = KK C.w.params) : attrOk C.K 149 (Str.ofString "known") = true := by rw [hK]; kernel_rfl
theorem kinOf {s : Shared} (hb : Le C.h0.get? s.heap.get?) : C.K.In s.heap := C.kin.keeps hb
def rowV (number params trait self_type : V) : V := .ins 192 [("spot", .int 0), ("methods", .dct []), ("self_type", self_type), ("trait_args", .tup []), ("trait", trait), ("params", params), ("regions", .tup []), ("number", number)]
theorem binds_row {fd : FuncData} {T : Addr} {o : Obj} {items : Array Value} {m : Nat} {a0 a1 a2 a3 a4 a5 a6 a7 d : V} {x0 x1 x2 x3 x4 x5 x6 x7 y : Str} (h1 : fd.defaults = .ref T) (h2 : C.K.lookup T = some o) (h3 : o.data = .seq items m)
    (h4 : ∀ u0 u1 u2 u3 u4 u5 u6 u7, ∃ k, bindArgs fd ⟨[u0, u1, u2, u3, u4, u5, u6, u7], []⟩ = seqItems? fd.defaults >>= k ∧ ∃ v, k (some items) = pure [(x0, u0), (x1, u1), (x2, u2), (x3, u3), (x4, u4), (x5, u5), (x6, u6), (x7, u7), (y, v)] ∧ ∀ fz, RepV C fz d v) :
    Binds C fd [a0, a1, a2, a3, a4, a5, a6, a7] [(x0, a0), (x1, a1), (x2, a2), (x3, a3), (x4, a4), (x5, a5), (x6, a6), (x7, a7), (y, d)] := fun fz vs s r hb => by
  obtain ⟨_, _, rfl, r0, r⟩ := r.inv
  obtain ⟨_, _, rfl, r1, r⟩ := r.inv
  obtain ⟨_, _, rfl, r2, r⟩ := r.inv
  obtain ⟨_, _, rfl, r3, r⟩ := r.inv
  obtain ⟨_, _, rfl, r4, r⟩ := r.inv
  obtain ⟨_, _, rfl, r5, r⟩ := r.inv
  obtain ⟨_, _, rfl, r6, r⟩ := r.inv
  obtain ⟨_, _, rfl, r7, r⟩ := r.inv
  cases r
  obtain ⟨k, e1, v, e2, e3⟩ := h4 _ _ _ _ _ _ _ _
  exact ⟨_, binds_K (kinOf hb) h1 h2 h3 e1 e2, .cons r0 (.cons r1 (.cons r2 (.cons r3 (.cons r4 (.cons r5 (.cons r6 (.cons r7 (.cons (e3 _) .nil))))))))⟩
theorem row_c (hK : C.K = KK C.w.params) {a1 a2 a3 a4 : V} {Q : V → ST → Prop} (h : Q (rowV a1 a2 a3 a4) st) : clc C (n + 2) env (.val (.ref 192)) [a1, .tup [], a2, a3, .tup [], a4, .dct []] st Q := by
  refine clc_post (clc_cls (f := 189) (by rw [hK]; kernel_rfl) (by rw [hK]; kernel_rfl) (by rw [hK]; kernel_rfl) fun d hd => ?_)
  refine clc_dk (f := 189) [("self", .obj 192 d), ("number", a1), ("regions", .tup []), ("params", a2), ("trait", a3), ("trait_args", .tup []), ("self_type", a4), ("methods", .dct []), ("spot", .int 0)] [("spot", .int 0), ("methods", .dct []), ("self_type", a4), ("trait_args", .tup []), ("trait", a3), ("params", a2), ("regions", .tup []), ("number", a1), ("self", .obj 192 d)]
    (by rw [hK]; rfl) (by rw [hK]; kernel_rfl) (binds_row (T := 182) rfl (by rw [hK]; rfl) rfl fun _ _ _ _ _ _ _ _ => ⟨_, rfl, _, rfl, fun _ => .int _ _⟩) (by kernel_rfl) (by kernel_rfl) (by kernel_rfl) (by kernel_rfl) (by kernel_rfl) rfl fun L' => ?_
  refine ex_cons ?_
  repeat kas_types
  refine ⟨_, d, _, rfl, insM_self _ _ _, so_row_number hK, Nat.le_of_ble_eq_true rfl, ?_⟩
  rw [insM_insM]
  repeat kas_types
  refine ⟨_, d, _, rfl, insM_self _ _ _, so_row_regions hK, Nat.le_of_ble_eq_true rfl, ?_⟩
  rw [insM_insM]
  repeat kas_types
  refine ⟨_, d, _, rfl, insM_self _ _ _, so_row_params hK, Nat.le_of_ble_eq_true rfl, ?_⟩
  rw [insM_insM]
  repeat kas_types
  refine ⟨_, d, _, rfl, insM_self _ _ _, so_row_trait hK, Nat.le_of_ble_eq_true rfl, ?_⟩
  rw [insM_insM]
  repeat kas_types
  refine ⟨_, d, _, rfl, insM_self _ _ _, so_row_trait_args hK, Nat.le_of_ble_eq_true rfl, ?_⟩
  rw [insM_insM]
  repeat kas_types
  refine ⟨_, d, _, rfl, insM_self _ _ _, so_row_self_type hK, Nat.le_of_ble_eq_true rfl, ?_⟩
  rw [insM_insM]
  repeat kas_types
  refine ⟨_, d, _, rfl, insM_self _ _ _, so_row_methods hK, Nat.le_of_ble_eq_true rfl, ?_⟩
  rw [insM_insM]
  repeat kas_types
  refine ⟨_, d, _, rfl, insM_self _ _ _, so_row_spot hK, Nat.le_of_ble_eq_true rfl, ?_⟩
  rw [insM_insM]
  repeat kas_types
  refine ⟨_, LeM.refl _, rfl, _, _, up_ns (insM_self _ _ _), ?_⟩
  dsimp only
  rw [delM_ins hd]
  exact h
theorem binds_wor {fd : FuncData} {T : Addr} {o : Obj} {items : Array Value} {m : Nat} {a0 d : V} {x0 y : Str} (h1 : fd.defaults = .ref T) (h2 : C.K.lookup T = some o) (h3 : o.data = .seq items m)
    (h4 : ∀ u0, ∃ k, bindArgs fd ⟨[u0], []⟩ = seqItems? fd.defaults >>= k ∧ ∃ v, k (some items) = pure [(x0, u0), (y, v)] ∧ ∀ fz, RepV C fz d v) :
    Binds C fd [a0] [(x0, a0), (y, d)] := fun fz vs s r hb => by
  obtain ⟨_, _, rfl, r0, r⟩ := r.inv
  cases r
  obtain ⟨k, e1, v, e2, e3⟩ := h4 _
  exact ⟨_, binds_K (kinOf hb) h1 h2 h3 e1 e2, .cons r0 (.cons (e3 _) .nil)⟩
abbrev worN (I : V) : List (Str × V) := [("bodies", .dct []), ("consts", .dct []), ("impls", I), ("traits", .dct []), ("sigs", .dct []), ("variants", .dct []), ("adts", .dct []), ("modules", .none)]
theorem world_c (hK : C.K = KK C.w.params) {Q : V → ST → Prop} (h : ∀ d I, d ≠ I → st.mu d = none → st.mu I = none → Q (.obj 221 d) ⟨st.loc, insM (insM st.mu I (.lst [])) d (.ns (worN (.val (.ref I))))⟩) : clc C (n + 2) env (.val (.ref 221)) [] st Q := by
  refine clc_cls (f := 211) (by rw [hK]; kernel_rfl) (by rw [hK]; kernel_rfl) (by rw [hK]; kernel_rfl) fun d hd => ?_
  refine clc_dk (f := 211) [("self", .obj 221 d), ("modules", .none)] [("modules", .none), ("self", .obj 221 d)]
    (by rw [hK]; rfl) (by rw [hK]; kernel_rfl) (binds_wor (T := 204) rfl (by rw [hK]; rfl) rfl fun _ => ⟨_, rfl, _, rfl, fun _ => .none⟩) (by kernel_rfl) (by kernel_rfl) (by kernel_rfl) (by kernel_rfl) (by kernel_rfl) rfl fun L' => ?_
  refine ex_cons ?_
  repeat kas_types
  refine ⟨_, d, _, rfl, insM_self _ _ _, so_wor_modules hK, Nat.le_of_ble_eq_true rfl, ?_⟩
  rw [insM_insM]
  repeat kas_types
  refine ev_DictF ?_
  repeat kas_types
  refine ⟨_, d, _, rfl, insM_self _ _ _, so_wor_adts hK, Nat.le_of_ble_eq_true rfl, ?_⟩
  rw [insM_insM]
  repeat kas_types
  refine ev_DictF ?_
  repeat kas_types
  refine ⟨_, d, _, rfl, insM_self _ _ _, so_wor_variants hK, Nat.le_of_ble_eq_true rfl, ?_⟩
  rw [insM_insM]
  repeat kas_types
  refine ev_DictF ?_
  repeat kas_types
  refine ⟨_, d, _, rfl, insM_self _ _ _, so_wor_sigs hK, Nat.le_of_ble_eq_true rfl, ?_⟩
  rw [insM_insM]
  repeat kas_types
  refine ev_DictF ?_
  repeat kas_types
  refine ⟨_, d, _, rfl, insM_self _ _ _, so_wor_traits hK, Nat.le_of_ble_eq_true rfl, ?_⟩
  rw [insM_insM]
  iterate 2 kas_types
  refine ev_ListM ?_
  refine evl_nil ?_
  refine ⟨Nat.zero_le _, fun I hI => ?_⟩
  have hI : insM st.mu d _ I = none := hI
  have hdI : d ≠ I := fun e => by subst e; rw [insM_self] at hI; cases hI
  have hI0 : st.mu I = none := by rw [insM_other _ _ (Ne.symm hdI)] at hI; exact hI
  dsimp only
  rw [insM_comm hdI]
  repeat kas_types
  refine ⟨_, d, _, rfl, insM_self _ _ _, so_wor_impls hK, Nat.le_of_ble_eq_true rfl, ?_⟩
  rw [insM_insM]
  repeat kas_types
  refine ev_DictF ?_
  repeat kas_types
  refine ⟨_, d, _, rfl, insM_self _ _ _, so_wor_consts hK, Nat.le_of_ble_eq_true rfl, ?_⟩
  rw [insM_insM]
  repeat kas_types
  refine ev_DictF ?_
  repeat kas_types
  refine ⟨_, d, _, rfl, insM_self _ _ _, so_wor_bodies hK, Nat.le_of_ble_eq_true rfl, ?_⟩
  rw [insM_insM]
  repeat kas_types
  exact ⟨_, LeM.refl _, rfl, h d I hdI hd hI0⟩
theorem repD_put {g : OH} {D : Addr} {k : Str} {x : V} {l2 : List (Str × V)} (hx : RepV C g x (.ref D)) : ∀ {l1 : List (Str × V)} {vs}, RepD C g (l1 ++ (k, .val (.ref D)) :: l2) vs → RepD C g (l1 ++ (k, x) :: l2) vs := by
  intro l1
  induction l1 with
  | nil => intro vs hv; cases hv with
    | cons ha hb => cases ha; exact .cons hx hb
  | cons x l1 ih => intro vs hv; cases hv with
    | cons ha hb => exact .cons ha (ih hb)
/-- a list that one attribute of an object names freezes with it -/
theorem up_nsL {c d I : Addr} {k : Str} {l1 l2 : List (Str × V)} {xs : List V} (hne : d ≠ I) (hm : st.mu d = some (.ns (l1 ++ (k, .val (.ref I)) :: l2))) (hi : st.mu I = some (.lst xs)) :
    UpsV C env (.obj c d) st (.ins c (l1 ++ (k, .lst xs) :: l2)) ⟨st.loc, delM (delM st.mu I) d⟩ := fun fz kp v s rv r => by
  obtain ⟨_, rfl, h1⟩ := rv.inv
  obtain ⟨oi, hoi, hni, r1⟩ := r.freeze hi
  have hm1 : (⟨st.loc, delM st.mu I⟩ : ST).mu d = some (.ns (l1 ++ (k, .val (.ref I)) :: l2)) := by show (if d = I then none else st.mu d) = _; rw [if_neg hne]; exact hm
  obtain ⟨ob, ho, hn, r'⟩ := r1.freeze hm1
  have l0 := Le.ins oi hni
  have l9 := Le.ins ob hn
  cases hoi with
  | lst hl =>
    cases ho with
    | ns hd h => exact ⟨_, l0.trans l9, .ins ((l0.trans l9) _ _ h1) (insH_self ..) hd ((repD_put (.lst (insH_self ..) (hl.mono l0)) h).mono l9), r'⟩
/-- a dict that an entry of a dict names freezes there -/
theorem ups_dctD {d D : Addr} {k : Str} {l1 l2 xs : List (Str × V)} (hne : d ≠ D) (hm : st.mu d = some (.dct (l1 ++ (k, .val (.ref D)) :: l2))) (hi : st.mu D = some (.dct xs)) :
    Ups C env st ⟨st.loc, insM (delM st.mu D) d (.dct (l1 ++ (k, .dct xs) :: l2))⟩ := fun fz kp s r => by
  obtain ⟨oi, hoi, hni, r1⟩ := r.freeze hi
  have hm1 : (⟨st.loc, delM st.mu D⟩ : ST).mu d = some (.dct (l1 ++ (k, .val (.ref D)) :: l2)) := by show (if d = D then none else st.mu d) = _; rw [if_neg hne]; exact hm
  obtain ⟨ob, e1, e2⟩ := r1.mus _ _ hm1
  have l0 := Le.ins oi hni
  refine ⟨_, l0, r1.upd (h' := s.heap) s.toks hm1 (fun _ _ _ e => e) e1 ?_⟩
  cases hoi with
  | dct hd hl => cases e2 with
    | dct hd2 hl2 => exact .dct hd2 (repD_put (.dct (insH_self ..) hd (sysM (r.mlow _ _ hi)) (hl.mono l0)) hl2)
theorem RepF.mono' {g g' : OH} (h : Le g g') {f : AF} {v : Flow} (r : RepF C g f v) : RepF C g' f v := by
  cases r with
  | next => exact .next
  | brk => exact .brk
  | cont => exact .cont
  | ret a => exact .ret (a.mono h)
theorem ex_post {b : List Stmt} {Q : AF → ST → Prop} (h : ex C n env b st fun f st1 => ∃ st', Ups C env st1 st' ∧ Q f st') : ex C n env b st Q := fun fz A hA kp s r =>
  wpAny_mono (h fz A hA kp s r) (fun v s' ⟨fz', b, st1, le, rv, r1, st', up, hq⟩ => by
    obtain ⟨f2, l2, r2⟩ := up fz' kp s' r1
    exact ⟨f2, b, st', le.trans l2, rv.mono' l2, r2, hq⟩) fun _ _ x => x
inductive Kd where
  | u8 | boo | box | pair
deriving DecidableEq
def kdN : Kd → Str
  | .u8 => "u8" | .boo => "bool" | .box => "box" | .pair => "pair"
def kdH : Kd → V
  | .u8 => .tup [.str "int", .str "u8"] | .boo => .tup [.str "bool"] | .box => boxV | .pair => pairV
def kds : List Kd := [.u8, .boo, .box, .pair]
structure RowS where
  num : Nat
  tr : Str
  kd : Kd
  nt : List Str
  nu : List Str
def RowS.ps (r : RowS) : List (Str × List Str) := match r.kd with
  | .u8 => [] | .boo => [] | .box => [("T", r.nt)] | .pair => [("T", r.nt), ("U", r.nu)]
def needV (ts : List Str) : V := .tup (ts.map .str)
def psV (l : List (Str × List Str)) : V := .lst (l.map fun p => .tup [.str p.1, needV p.2])
def rowS (r : RowS) : V := rowV (.int r.num) (psV r.ps) (.str r.tr) (kdH r.kd)
def knE (r : RowS) : Str × V := (kdN r.kd, .tup [.int r.num, .lst (r.ps.map fun p => needV p.2)])
def knR (rs : List RowS) (t : Str) : List (Str × V) := (rs.filter fun r => r.tr == t).map knE
def NeedOk (ts : List Str) : Prop := (∀ t ∈ ts, t ∈ abc) ∧ ts.length ≤ 3
structure RowsOk (rs : List RowS) : Prop where
  num : ∀ i (r : RowS), rs[i]? = some r → r.num = i
  ok : ∀ r ∈ rs, r.tr ∈ abc ∧ NeedOk r.nt ∧ NeedOk r.nu
  nd : (rs.map fun r => (r.tr, r.kd)).Nodup
  len : rs.length ≤ 12
structure LW (a d I D0 c1 c2 : Addr) (mu0 mu : Mu) (rs : List RowS) (kn : List (Str × V)) : Prop where
  src : ∃ t0 t1, SrcOk t0 t1 ∧ mu a = some (srcM t0 t1)
  wor : mu d = some (.ns (worN (.val (.ref I))))
  imp : mu I = some (.lst (rs.map rowS))
  kno : mu D0 = some (.dct kn)
  ce : mu c1 = some (.cell (some (.val (.ref a))))
  ck : ∃ o, mu c2 = some (.cell o)
  ai : a ≠ I
  cc : c1 ≠ c2
  keep : ∀ b o, mu0 b = some o → b ≠ a → mu b = some o
  fr : mu0 d = none ∧ mu0 I = none ∧ mu0 D0 = none ∧ mu0 c1 = none ∧ mu0 c2 = none
theorem ne_mu {mu : Mu} {a b : Addr} {o o' : MO} (h : mu a = some o) (h' : mu b = some o') (e : o ≠ o') : a ≠ b := fun q => by subst q; rw [h] at h'; exact e (Option.some.inj h')
theorem ne_fr {mu : Mu} {a b : Addr} {o : MO} (h : mu a = some o) (h' : mu b = none) : a ≠ b := fun q => by subst q; rw [h] at h'; cases h'
section
variable {a d I D0 c1 c2 : Addr} {mu0 mu : Mu} {rs : List RowS} {kn : List (Str × V)}
/-- a write elsewhere -/
theorem LW.put (h : LW a d I D0 c1 c2 mu0 mu rs kn) {x : Addr} {o : MO} (xa : x ≠ a) (xd : x ≠ d) (xi : x ≠ I) (x0 : x ≠ D0) (x1 : x ≠ c1) (x2 : x ≠ c2) (hf : mu0 x = none) : LW a d I D0 c1 c2 mu0 (insM mu x o) rs kn := by
  obtain ⟨⟨t0, t1, hs, e1⟩, e2, e3, e4, e5, ⟨q, e6⟩, e7, e8, e9, e10⟩ := h
  refine ⟨⟨t0, t1, hs, ?_⟩, ?_, ?_, ?_, ?_, ⟨q, ?_⟩, e7, e8, fun b o' hb hn => ?_, e10⟩
  all_goals rw [insM_other]
  all_goals first | assumption | exact Ne.symm ‹_› | exact e9 b o' hb hn | exact fun q => by subst q; rw [hf] at hb; cases hb
theorem LW.draw (h : LW a d I D0 c1 c2 mu0 mu rs kn) {t0 t1 : Int} (hs : SrcOk t0 t1) : LW a d I D0 c1 c2 mu0 (insM mu a (srcM t0 t1)) rs kn := by
  obtain ⟨⟨_, _, _, e1⟩, e2, e3, e4, e5, ⟨q, e6⟩, e7, e8, e9, e10⟩ := h
  refine ⟨⟨t0, t1, hs, insM_self ..⟩, ?_, ?_, ?_, ?_, ⟨q, ?_⟩, e7, e8, fun b o' hb hn => ?_, e10⟩
  all_goals rw [insM_other]
  any_goals assumption
  · exact Ne.symm (ne_mu e1 e2 (by simp))
  · exact Ne.symm e7
  · exact Ne.symm (ne_mu e1 e4 (by simp))
  · exact Ne.symm (ne_mu e1 e5 (by simp))
  · exact Ne.symm (ne_mu e1 e6 (by simp))
  · exact e9 b o' hb hn
theorem LW.kind (h : LW a d I D0 c1 c2 mu0 mu rs kn) {o : Option V} : LW a d I D0 c1 c2 mu0 (insM mu c2 (.cell o)) rs kn := by
  obtain ⟨⟨t0, t1, hs, e1⟩, e2, e3, e4, e5, ⟨q, e6⟩, e7, e8, e9, e10⟩ := h
  refine ⟨⟨t0, t1, hs, ?_⟩, ?_, ?_, ?_, ?_, ⟨o, insM_self ..⟩, e7, e8, fun b o' hb hn => ?_, e10⟩
  all_goals rw [insM_other]
  any_goals assumption
  · exact ne_mu e1 e6 (by simp)
  · exact ne_mu e2 e6 (by simp)
  · exact ne_mu e3 e6 (by simp)
  · exact ne_mu e4 e6 (by simp)
  · exact e9 b o' hb hn
  · exact ne_fr hb e10.2.2.2.2
theorem LW.more (h : LW a d I D0 c1 c2 mu0 mu rs kn) {r : RowS} : LW a d I D0 c1 c2 mu0 (insM mu I (.lst (rs.map rowS ++ [rowS r]))) (rs ++ [r]) kn := by
  obtain ⟨⟨t0, t1, hs, e1⟩, e2, e3, e4, e5, ⟨q, e6⟩, e7, e8, e9, e10⟩ := h
  refine ⟨⟨t0, t1, hs, ?_⟩, ?_, by rw [insM_self, List.map_append]; rfl, ?_, ?_, ⟨q, ?_⟩, e7, e8, fun b o' hb hn => ?_, e10⟩
  all_goals rw [insM_other]
  any_goals assumption
  · exact ne_mu e2 e3 (by simp)
  · exact ne_mu e4 e3 (by simp)
  · exact ne_mu e5 e3 (by simp)
  · exact ne_mu e6 e3 (by simp)
  · exact e9 b o' hb hn
  · exact ne_fr hb e10.2.1
theorem LW.del (h : LW a d I D0 c1 c2 mu0 mu rs kn) {x : Addr} (xa : x ≠ a) (xd : x ≠ d) (xi : x ≠ I) (x0 : x ≠ D0) (x1 : x ≠ c1) (x2 : x ≠ c2) (hf : mu0 x = none) : LW a d I D0 c1 c2 mu0 (delM mu x) rs kn := by
  have key : ∀ {b : Addr} {o : Option MO}, mu b = o → x ≠ b → delM mu x b = o := fun {b o} e q => by
    show (if b = x then none else mu b) = o
    rw [if_neg (Ne.symm q)]; exact e
  obtain ⟨⟨t0, t1, hs, e1⟩, e2, e3, e4, e5, ⟨q, e6⟩, e7, e8, e9, e10⟩ := h
  exact ⟨⟨t0, t1, hs, key e1 xa⟩, key e2 xd, key e3 xi, key e4 x0, key e5 x1, ⟨q, key e6 x2⟩, e7, e8, fun b o' hb hn => key (e9 b o' hb hn) (fun q => by subst q; rw [hf] at hb; cases hb), e10⟩
theorem LW.free (h : LW a d I D0 c1 c2 mu0 mu rs kn) {x : Addr} (hx : mu x = none) : mu0 x = none := by
  obtain ⟨⟨t0, t1, hs, e1⟩, e2, e3, e4, e5, ⟨q, e6⟩, e7, e8, e9, e10⟩ := h
  cases e : mu0 x with
  | none => rfl
  | some o =>
    by_cases q : x = a
    · subst q; rw [e1] at hx; cases hx
    · rw [e9 _ _ e q] at hx; cases hx
theorem LW.known (h : LW a d I D0 c1 c2 mu0 mu rs kn) {kn' : List (Str × V)} : LW a d I D0 c1 c2 mu0 (insM mu D0 (.dct kn')) rs kn' := by
  obtain ⟨⟨t0, t1, hs, e1⟩, e2, e3, e4, e5, ⟨q, e6⟩, e7, e8, e9, e10⟩ := h
  refine ⟨⟨t0, t1, hs, ?_⟩, ?_, ?_, insM_self .., ?_, ⟨q, ?_⟩, e7, e8, fun b o' hb hn => ?_, e10⟩
  all_goals rw [insM_other]
  any_goals assumption
  · exact ne_mu e1 e4 (by simp)
  · exact ne_mu e2 e4 (by simp)
  · exact ne_mu e3 e4 (by simp)
  · exact ne_mu e5 e4 (by simp)
  · exact ne_mu e6 e4 (by simp)
  · exact e9 b o' hb hn
  · exact ne_fr hb e10.2.2.1
end
theorem chs_TU : chs "TU" = [V.str "T", V.str "U"] := by
  have e : ("TU" : Str).cps.toList = [84, 85] := by decide +kernel
  unfold chs
  rw [e]
  have e1 : (⟨#[84]⟩ : Str) = ("T" : Str) := by decide +kernel
  have e2 : (⟨#[85]⟩ : Str) = ("U" : Str) := by decide +kernel
  simp only [List.map_cons, List.map_nil, e1, e2]
theorem stoD_new {l : List (Str × V)} {k : Str} {x : V} (h : l.lookup k = none) : stoD l k x = l ++ [(k, x)] := by
  have : l.any (fun kv => kv.1 = k) = false := by
    induction l with
    | nil => rfl
    | cons p l ih =>
      obtain ⟨y, v⟩ := p
      rw [List.lookup_cons] at h
      cases e : k == y with
      | true => rw [e] at h; cases h
      | false =>
        rw [e] at h
        rw [List.any_cons, ih h]
        simpa using Ne.symm (beq_eq_false_iff_ne.mp e)
  unfold stoD
  rw [this]
  rfl
theorem lookup_none {α : Type} {l : List α} {f : α → Str} {g : α → V} {k : Str} (h : ∀ r ∈ l, f r ≠ k) : (l.map fun r => (f r, g r)).lookup k = none := by
  induction l with
  | nil => rfl
  | cons x l ih =>
    rw [List.map_cons, List.lookup_cons]
    have : (k == f x) = false := beq_eq_false_iff_ne.mpr (Ne.symm (h x (List.mem_cons_self ..)))
    rw [this]
    exact ih fun r hr => h r (List.mem_cons_of_mem _ hr)
theorem lookup_snoc {l : List (Str × V)} {k : Str} {x : V} (h : l.lookup k = none) : (l ++ [(k, x)]).lookup k = some x := by
  rw [List.lookup_append, h]
  simp
theorem kdN_inj {a b : Kd} (h : kdN a = kdN b) : a = b := by
  revert h; cases a <;> cases b <;> decide +kernel
theorem knR_more {rs : List RowS} {r : RowS} {t : Str} (h : r.tr = t) : knR (rs ++ [r]) t = knR rs t ++ [knE r] := by
  subst h; simp [knR]
theorem knR_other {rs : List RowS} {r : RowS} {t : Str} (h : t ≠ r.tr) : knR (rs ++ [r]) t = knR rs t := by
  simp [knR, Ne.symm h]
theorem knR_none {rs : List RowS} {t : Str} {k : Kd} (h : ∀ r ∈ rs, r.tr = t → r.kd ≠ k) : (knR rs t).lookup (kdN k) = none := by
  refine lookup_none (f := fun r : RowS => kdN r.kd) (g := fun r => (knE r).2) fun r hr => ?_
  rw [List.mem_filter] at hr
  exact fun e => h r hr.1 (by simpa using hr.2) (kdN_inj e)
theorem ps_len (r : RowS) : r.ps.length ≤ 2 := by
  unfold RowS.ps
  cases r.kd <;> simp
theorem knR_len (rs : List RowS) (t : Str) : (knR rs t).length ≤ rs.length := by
  unfold knR
  rw [List.length_map]
  exact List.length_filter_le _ _
theorem rowsOk_more {rs : List RowS} {t : Str} {k : Kd} {na nb : List Str} (h : RowsOk rs) (ht : t ∈ abc) (ha : NeedOk na) (hb : NeedOk nb) (hl : rs.length < 12) (hn : ∀ r ∈ rs, r.tr = t → r.kd ≠ k) : RowsOk (rs ++ [⟨rs.length, t, k, na, nb⟩]) := by
  refine ⟨fun i r e => ?_, fun r hr => ?_, ?_, by simp; omega⟩
  · by_cases q : i < rs.length
    · rw [List.getElem?_append_left q] at e; exact h.num i r e
    · rw [List.getElem?_append_right (by omega)] at e
      obtain ⟨e0, e1⟩ := List.getElem?_eq_some_iff.mp e
      simp at e0
      have : i = rs.length := by omega
      subst this
      simp at e1
      rw [← e1]
  · rcases List.mem_append.mp hr with hr | hr
    · exact h.ok r hr
    · rw [List.mem_singleton] at hr; subst hr; exact ⟨ht, ha, hb⟩
  · rw [List.map_append, List.nodup_append]
    refine ⟨h.nd, by simp, ?_⟩
    intro x hx y hy
    simp at hx hy
    obtain ⟨r, hr, rfl⟩ := hx
    rw [hy]
    intro q
    cases q
    exact hn r hr rfl rfl
theorem world_law (hK : C.K = KK C.w.params) {a : Addr} {s0 s1 : Int} {Q : V → ST → Prop} (hm : st.mu a = some (srcM s0 s1)) (hs : SrcOk s0 s1)
    (h : ∀ rs t0 t1, RowsOk rs → SrcOk t0 t1 → Q (.tup [.ins 221 (worN (.lst (rs.map rowS))), .dct (abc.map fun t => (t, .dct (knR rs t)))]) ⟨st.loc, insM st.mu a (srcM t0 t1)⟩) : clc C (n + 4) env (.val (.ref 262)) [.val (.ref a)] st Q := by
  refine clc_post (clc_dkC (f := 262) [("source", .val (.ref a))] [] ["source"] (by rw [hK]; rfl) (by rw [hK]; kernel_rfl) (binds1 fun _ => rfl) rfl (by kernel_rfl) (by decide +kernel) (by decide +kernel) (by decide +kernel) (by kernel_rfl) (by kernel_rfl) (by kernel_rfl) (by rfl) fun L' mu' hcell hle => ?_)
  obtain ⟨c1, n1⟩ := hcell "source" (L' + 1) (by rfl)
  obtain ⟨c2, n2⟩ := hcell "kind" (L' + 2) (by rfl)
  have e1 : List.lookup (Str.ofString "source") [(Str.ofString "source", V.val (.ref a))] = some (V.val (.ref a)) := lk_here
  have e2 : List.lookup (Str.ofString "kind") [(Str.ofString "source", V.val (.ref a))] = none := by rfl
  rw [e1] at c1
  rw [e2] at c2
  refine ex_cons ?_
  refine ex1_Swap2 (x := "world") (y := "known") (by kernel_rfl) (by kernel_rfl) ?_
  repeat kas_types
  refine cl_of (world_c hK fun d I hdI hd hI => ?_)
  refine evl_cons (by kernel_rfl) ?_
  refine ev_DictM fun D0 hD0 => ?_
  repeat kas_types
  refine ⟨_, _, rfl, ?_⟩
  repeat kas_types
  have hD0 : insM (insM mu' I _) d _ D0 = none := hD0
  have d0d : D0 ≠ d := fun q => by subst q; rw [insM_self] at hD0; cases hD0
  rw [insM_other _ _ d0d] at hD0
  have d0i : D0 ≠ I := fun q => by subst q; rw [insM_self] at hD0; cases hD0
  rw [insM_other _ _ d0i] at hD0
  have fr0 : ∀ {b : Addr}, mu' b = none → st.mu b = none := fun {b} hb => by
    cases e : st.mu b with
    | none => rfl
    | some o => rw [hle _ _ e] at hb; cases hb
  have w0 : LW a d I D0 (L' + 1) (L' + 2) st.mu (insM (insM (insM mu' I (.lst [])) d (.ns (worN (.val (.ref I))))) D0 (.dct [])) [] [] := by
    have ma : mu' a = some (srcM s0 s1) := hle _ _ hm
    have aI : a ≠ I := ne_fr ma hI
    have ad : a ≠ d := ne_fr ma hd
    have aD : a ≠ D0 := ne_fr ma hD0
    have k1 : ∀ {b : Addr} {o : MO}, mu' b = some o → insM (insM (insM mu' I (.lst [])) d (.ns (worN (.val (.ref I))))) D0 (.dct []) b = some o := fun {b o} e => by
      rw [insM_other _ _ (ne_fr e hD0), insM_other _ _ (ne_fr e hd), insM_other _ _ (ne_fr e hI)]; exact e
    refine ⟨⟨s0, s1, hs, k1 ma⟩, ?_, ?_, insM_self .., k1 c1, ⟨_, k1 c2⟩, aI, Nat.ne_of_lt (Nat.lt_succ_self (L' + 1)), fun b o hb hn => k1 (hle _ _ hb), fr0 hd, fr0 hI, fr0 hD0, n1, n2⟩
    · rw [insM_other _ _ (Ne.symm d0d), insM_self]
    · rw [insM_other _ _ (Ne.symm d0i), insM_other _ _ (Ne.symm hdI), insM_self]; rfl
  refine ex1_For (fun xs i st2 => xs = abc.map V.str ∧ List.lookup ("world" : Str) st2.loc = some (.obj 221 d) ∧ List.lookup ("known" : Str) st2.loc = some (.val (.ref D0)) ∧ ∃ rs, RowsOk rs ∧ (∀ r ∈ rs, r.tr ∈ abc.take i) ∧ rs.length ≤ 4 * i ∧ LW a d I D0 (L' + 1) (L' + 2) st.mu st2.mu rs ((abc.take i).map fun t => (t, .dct (knR rs t)))) (fun _ => rfl) ?_ ?_ ?_
  · refine itr_ev ?_
    repeat kas_types
    exact ⟨_, walk_abc, by decide, rfl, by rfl, by rfl, [], ⟨by simp, by simp, by simp, by simp⟩, by simp, by simp, w0⟩
  · rintro xs i x st2 hx ⟨rfl, hw, hk, rs, hrs, hin, hlen, W⟩
    obtain ⟨l2, m2⟩ := st2
    dsimp only at W hw hk
    obtain ⟨t, ht, rfl⟩ : ∃ t, abc[i]? = some t ∧ V.str t = x := by simpa using hx
    have hi : i < 3 := (List.getElem?_eq_some_iff.mp ht).1
    have htk : t ∉ abc.take i := by
      have h3 : i = 0 ∨ i = 1 ∨ i = 2 := by omega
      rcases h3 with rfl | rfl | rfl <;> (have ht := Option.some.inj ht; subst ht; decide +kernel)
    have kn0 : ∀ {rs : List RowS}, (∀ r ∈ rs, r.tr ∈ abc.take i) → knR rs t = [] := fun {rs} hin => by
      unfold knR
      rw [List.filter_eq_nil_iff.mpr fun r hr e => htk (by have := hin r hr; rw [← (beq_iff_eq.mp e)]; exact this)]
      rfl
    have ex : ∀ {b : Addr}, m2 b = none → st.mu b = none := fun hb => W.free hb
    refine asg_Name (sto_loc (by kernel_rfl) (by kernel_rfl) ?_)
    refine ex_cons ?_
    refine ex1_AssignG (by kernel_rfl) (by kernel_rfl) ?_ (by kernel_rfl)
    refine ev_DictM fun D hD => ?_
    repeat kas_types
    have hD : m2 D = none := hD
    have dD0 : D ≠ D0 := Ne.symm (ne_fr W.kno hD)
    refine setI_dct (l := (abc.take i).map fun t => (t, .dct (knR rs t))) ?_ ?_ ?_
    · show insM m2 D _ D0 = _
      rw [insM_other _ _ (Ne.symm dD0)]; exact W.kno
    · have : abc.length = 3 := rfl
      simp; omega
    rw [stoD_new (lookup_none (f := fun t => t) (g := fun t => .dct (knR rs t)) fun r hr e => htk (by rw [← e]; exact hr))]
    repeat kas_types
    have W1 : LW a d I D0 (L' + 1) (L' + 2) st.mu (insM (insM m2 D (.dct [])) D0 (.dct ((abc.take i).map (fun t => (t, .dct (knR rs t))) ++ [(t, .val (.ref D))]))) rs _ := (W.put (o := .dct []) (Ne.symm (ne_fr W.src.choose_spec.choose_spec.2 hD)) (Ne.symm (ne_fr W.wor hD)) (Ne.symm (ne_fr W.imp hD)) dD0 (Ne.symm (ne_fr W.ce hD)) (Ne.symm (ne_fr W.ck.choose_spec hD)) (ex hD)).known
    refine ex1_For (fun xs j st3 => xs = kds.map (fun k => V.str (kdN k)) ∧ List.lookup ("world" : Str) st3.loc = some (.obj 221 d) ∧ List.lookup ("known" : Str) st3.loc = some (.val (.ref D0)) ∧ List.lookup ("trait" : Str) st3.loc = some (.str t) ∧ ∃ rs, RowsOk rs ∧ (∀ r ∈ rs, r.tr ∈ abc.take i ∨ r.tr = t ∧ r.kd ∈ kds.take j) ∧ rs.length ≤ 4 * i + j ∧ st3.mu D = some (.dct (knR rs t)) ∧ LW a d I D0 (L' + 1) (L' + 2) st.mu st3.mu rs ((abc.take i).map (fun t => (t, .dct (knR rs t))) ++ [(t, .val (.ref D))])) (fun _ => rfl) ?_ ?_ ?_
    · refine itr_ev ?_
      repeat kas_types
      refine ⟨_, rfl, by simp [kds], rfl, ?_, ?_, ?_, rs, hrs, fun r hr => .inl (hin r hr), by omega, ?_, W1⟩
      · o_fieldsN
      · o_fieldsN
      · o_fieldsN
      · show insM (insM m2 D _) D0 _ D = _
        rw [insM_other _ _ dD0, insM_self, kn0 hin]
    · rintro xs j x st3 hx ⟨rfl, hw, hk, htr, rs, hrs, hin, hlen, hDm, W⟩
      obtain ⟨l3, m3⟩ := st3
      dsimp only at W hw hk htr hDm
      obtain ⟨k, hkd, rfl⟩ : ∃ k, kds[j]? = some k ∧ V.str (kdN k) = x := by simpa using hx
      refine asg_Name (sto_cell (c := L' + 2) (by kernel_rfl) (by kernel_rfl) (by rfl) W.ck.choose_spec ?_)
      have hDm : insM m3 (L' + 2) (.cell (some (.str (kdN k)))) D = some (.dct (knR rs t)) := by rw [insM_other _ _ (ne_mu hDm W.ck.choose_spec (by simp))]; exact hDm
      have W := W.kind (o := some (.str (kdN k)))
      have hkm : insM m3 (L' + 2) (.cell (some (.str (kdN k)))) (L' + 2) = some (.cell (some (.str (kdN k)))) := insM_self ..
      dsimp only
      generalize insM m3 (L' + 2) (.cell (some (.str (kdN k)))) = m4 at W hDm hkm ⊢
      obtain ⟨t0, t1, hs4, ha4⟩ := W.src
      repeat kas_types
      refine ev_cell (c := L' + 1) (v := .val (.ref a)) (by rfl) (.inl (by rfl)) (by rfl) W.ce (by kernel_rfl) (by kernel_rfl) ?_
      repeat kas_types
      refine cl_of (take_c hK ha4 hs4 (by decide) fun r u0 u1 h0 h1 h2 => ?_)
      repeat kas_types
      by_cases hr : r > 0
      · rw [if_pos (by simpa using hr)]
        refine ex_cons (ex1_Swap2 (x := "number") (y := "needs") (by kernel_rfl) (by kernel_rfl) ?_)
        obtain ⟨kn, hkn⟩ : ∃ kn : List (Str × V), kn = (abc.take i).map (fun t => (t, V.dct (knR rs t))) ++ [(t, .val (.ref D))] := ⟨_, rfl⟩
        rw [← hkn] at W
        have hj : j < 4 := (List.getElem?_eq_some_iff.mp hkd).1
        have W0 := W
        have W := W.draw h2
        have hDm : insM m4 a (srcM u0 u1) D = some (.dct (knR rs t)) := by rw [insM_other _ _ (ne_mu hDm ha4 (by simp))]; exact hDm
        have hkm : insM m4 a (srcM u0 u1) (L' + 2) = some (.cell (some (.str (kdN k)))) := by rw [insM_other _ _ (ne_mu hkm ha4 (by simp))]; exact hkm
        dsimp only
        generalize insM m4 a (srcM u0 u1) = m5 at W hDm hkm ⊢
        repeat kas_types
        refine ev_AttrO (fun _ => rfl) ?_
        repeat kas_types
        refine ⟨_, d, _, .val (.ref I), rfl, W.wor, ao_wor_impls hK, rfl, rfl, ?_⟩
        repeat kas_types
        refine cl_len_lstM W.imp (by simp; omega) ?_
        refine evl_cons (by kernel_rfl) ?_
        refine ev_ListComp (k := fun D L => do let _ ← call (.builtin "list.append") [.ref D, ← eval _ (compEnvC _ _ L _)]) (fun _ => rfl) (cl := [("source", L' + 1), ("kind", L' + 2)]) (by rfl) (by rfl) (by decide +kernel) (by decide +kernel) (fun I D L => by rfl)
          (fun xs i ys st2 => xs = [V.str "T", V.str "U"] ∧ ∃ ts : List (List Str), ys = ts.map needV ∧ ts.length = i ∧ (∀ z ∈ ts, NeedOk z) ∧ st2.mu D = some (.dct (knR rs t)) ∧ st2.mu (L' + 2) = some (.cell (some (.str (kdN k)))) ∧ LW a d I D0 (L' + 1) (L' + 2) st.mu st2.mu rs kn) ?_ ?_
        · refine itr_ev ?_
          repeat kas_types
          refine ⟨[V.str "T", V.str "U"], ⟨by decide +kernel, chs_TU.symm⟩, by simp, ⟨rfl, [], rfl, rfl, by simp, hDm, hkm, W⟩, ?_⟩
          rintro ys st2 ⟨_, ts, rfl, hts, hok, hDm, hkm, W⟩
          obtain ⟨na, nb, rfl⟩ : ∃ na nb, ts = [na, nb] := by
            rcases ts with _ | ⟨x, _ | ⟨y, _ | ⟨z, ts⟩⟩⟩ <;> simp at hts
            exact ⟨x, y, rfl⟩
          refine ⟨st2.mu, LeM.refl _, ?_⟩
          obtain ⟨l6, m6⟩ := st2
          dsimp only at W hDm hkm ⊢
          repeat kas_types
          refine ⟨_, _, rfl, ?_⟩
          repeat kas_types
          refine ev_cell (c := L' + 2) (v := .str (kdN k)) (by rfl) (.inl (by rfl)) (by rfl) hkm (by kernel_rfl) (by kernel_rfl) ?_
          refine sub_dctF (fun _ _ => rfl) (x := kdH k) (by cases k <;> rfl) ?_
          repeat kas_types
          refine' sub_lstF (x := needV na) (j := 0) (fun _ _ => rfl) ?_ ?_ ?_ ?_
          · decide
          · decide
          · exact rfl
          repeat kas_types
          refine' sub_lstF (x := needV nb) (j := 1) (fun _ _ => rfl) ?_ ?_ ?_ ?_
          · decide
          · decide
          · exact rfl
          repeat kas_types
          refine ⟨_, rfl, ?_⟩
          repeat kas_types
          refine ⟨1, rfl, by simp, ?_⟩
          repeat kas_types
          refine ev_cell (c := L' + 2) (v := .str (kdN k)) (by rfl) (.inl (by rfl)) (by rfl) hkm (by kernel_rfl) (by kernel_rfl) ?_
          refine sub_dctF (fun _ _ => rfl) (x := psV (RowS.ps ⟨rs.length, t, k, na, nb⟩)) (by cases k <;> rfl) ?_
          repeat kas_types
          refine ev_AttrO (fun _ => rfl) ?_
          repeat kas_types
          refine ⟨_, d, _, .val (.ref I), rfl, W.wor, ao_wor_impls hK, rfl, rfl, ?_⟩
          refine ⟨I, _, rfl, W.imp, ?_⟩
          repeat kas_types
          refine ev_DictF ?_
          repeat kas_types
          refine cl_of (row_c hK ?_)
          refine ⟨_, W.imp, by simp; omega, ?_⟩
          have W1 := W.more (r := ⟨rs.length, t, k, na, nb⟩)
          have W1 := W.more (r := ⟨rs.length, t, k, na, nb⟩)
          have hDm := show insM m6 I (.lst (rs.map rowS ++ [rowS ⟨rs.length, t, k, na, nb⟩])) D = some (.dct (knR rs t)) by rw [insM_other _ _ (ne_mu hDm W.imp (by simp))]; exact hDm
          have hkm := show insM m6 I (.lst (rs.map rowS ++ [rowS ⟨rs.length, t, k, na, nb⟩])) (L' + 2) = some (.cell (some (.str (kdN k)))) by rw [insM_other _ _ (ne_mu hkm W.imp (by simp))]; exact hkm
          have er : rowV (.int ((rs.map rowS).length : Nat)) (psV (RowS.ps ⟨rs.length, t, k, na, nb⟩)) (.str t) (kdH k) = rowS ⟨rs.length, t, k, na, nb⟩ := by simp [rowS]
          rw [er]
          dsimp only
          generalize insM m6 I (.lst (rs.map rowS ++ [rowS ⟨rs.length, t, k, na, nb⟩])) = m7 at W1 hDm hkm ⊢
          repeat kas_types
          refine ev_ListComp (k := fun D L => do let _ ← call (.builtin "list.append") [.ref D, ← eval _ (compEnvC _ _ L _)]) (fun _ => rfl) (cl := []) (by rfl) (by rfl) (by decide +kernel) (by decide +kernel) (fun I D L => by rfl)
            (fun xs i ys st2 => xs = (RowS.ps ⟨rs.length, t, k, na, nb⟩).map (fun p => V.tup [.str p.1, needV p.2]) ∧ ys = ((RowS.ps ⟨rs.length, t, k, na, nb⟩).take i).map (fun p => needV p.2) ∧ st2.mu = m7) ?_ ?_
          · refine itr_ev ?_
            repeat kas_types
            refine ⟨_, rfl, by rw [List.length_map]; have := ps_len ⟨rs.length, t, k, na, nb⟩; omega, ⟨rfl, rfl, rfl⟩, ?_⟩
            rintro ys st2 ⟨_, rfl, hmu⟩
            refine ⟨st2.mu, LeM.refl _, ?_⟩
            rw [hmu]
            repeat kas_types
            refine sub_dctM (fun _ _ => rfl) W1.kno (x := .val (.ref D)) (by rw [hkn]; exact lookup_snoc (lookup_none (f := fun t => t) (g := fun t => .dct (knR rs t)) fun r hr e => htk (by rw [← e]; exact hr))) ?_
            refine ev_cell (c := L' + 2) (v := .str (kdN k)) (by rfl) (.inl (by rfl)) (by rfl) hkm (by kernel_rfl) (by kernel_rfl) ?_
            refine setI_dct hDm (by have := knR_len rs t; omega) ?_
            have hkk : ∀ r ∈ rs, r.tr = t → r.kd ≠ k := fun r hr e => by
              rcases hin r hr with h1 | ⟨_, h1⟩
              · exact absurd (e ▸ h1) htk
              · have h4 : j = 0 ∨ j = 1 ∨ j = 2 ∨ j = 3 := by omega
                rcases h4 with rfl | rfl | rfl | rfl <;> (have hkd := Option.some.inj hkd; subst hkd; revert h1; generalize r.kd = z; cases z <;> decide)
            rw [stoD_new (knR_none hkk)]
            repeat kas_types
            have hDf : st.mu D = none := ex hD
            have W2 := W1.put (o := .dct (knR rs t ++ [(kdN k, .tup [.int (rs.map rowS).length, .lst ((RowS.ps ⟨rs.length, t, k, na, nb⟩).take (RowS.ps ⟨rs.length, t, k, na, nb⟩).length |>.map fun p => needV p.2)])])) (ne_mu hDm W1.src.choose_spec.choose_spec.2 (by simp)) (ne_mu hDm W1.wor (by simp)) (ne_mu hDm W1.imp (by simp)) dD0 (ne_mu hDm W1.ce (by simp)) (ne_mu hDm W1.ck.choose_spec (by simp)) hDf
            refine ⟨rfl, ?_, ?_, ?_, rs ++ [⟨rs.length, t, k, na, nb⟩], rowsOk_more hrs (List.mem_of_getElem? ht) (hok na (by simp)) (hok nb (by simp)) (by omega) hkk, ?_, by simp; omega, ?_, ?_⟩
            · dsimp only; o_fieldsN
            · dsimp only; o_fieldsN
            · dsimp only; o_fieldsN
            · intro r hr
              rcases List.mem_append.mp hr with hr | hr
              · refine (hin r hr).imp id fun z => ⟨z.1, ?_⟩
                rw [List.take_add_one]; exact List.mem_append_left _ z.2
              · rw [List.mem_singleton] at hr; subst hr
                refine .inr ⟨rfl, ?_⟩
                rw [List.take_add_one, hkd]; simp
            · dsimp only
              rw [insM_self, knR_more rfl]
              simp [knE]
            · dsimp only
              have ek : kn = (abc.take i).map (fun t' => (t', V.dct (knR (rs ++ [⟨rs.length, t, k, na, nb⟩]) t'))) ++ [(t, .val (.ref D))] := by
                rw [hkn]
                congr 1
                refine List.map_congr_left fun t' ht' => ?_
                have tne : t' ≠ t := fun e => htk (e ▸ ht')
                rw [knR_other (r := ⟨rs.length, t, k, na, nb⟩) tne]
              rw [← ek]
              simpa using W2
          · rintro Lc Dc xs q x ys st2 hx ⟨rfl, rfl, hmu⟩
            obtain ⟨l8, m8⟩ := st2
            dsimp only at hmu
            subst hmu
            have hq : q < 1000 := by
              have h1 := (List.getElem?_eq_some_iff.mp hx).1
              rw [List.length_map] at h1
              have := ps_len ⟨rs.length, t, k, na, nb⟩
              omega
            obtain ⟨p, hp, rfl⟩ : ∃ p, (RowS.ps ⟨rs.length, t, k, na, nb⟩)[q]? = some p ∧ V.tup [.str p.1, needV p.2] = x := by simpa using hx
            repeat kas_types
            refine trs_nil ?_
            refine accj_emit (by simp; omega) ?_
            repeat kas_types
            refine ⟨rfl, ?_, rfl⟩
            rw [List.take_add_one, hp, List.map_append]
            rfl
        · rintro Lc Dc xs q x ys st2 hx ⟨rfl, ts, rfl, hts, hok, hDm, hkm, W⟩
          obtain ⟨l6, m6⟩ := st2
          dsimp only at W hDm hkm
          obtain ⟨u0, u1, hs6, ha6⟩ := W.src
          refine asg_Name (sto_loc (by kernel_rfl) (by kernel_rfl) ?_)
          refine trs_nil ?_
          have fin : ∀ (ts' : List Str) v0 v1, (∀ z ∈ ts', z ∈ abc) → ts'.length ≤ 3 → SrcOk v0 v1 → [V.str "T", V.str "U"] = [V.str "T", V.str "U"] ∧ ∃ ts1 : List (List Str), ts.map needV ++ [V.tup (ts'.map V.str)] = ts1.map needV ∧ ts1.length = q + 1 ∧ (∀ z ∈ ts1, NeedOk z) ∧ insM m6 a (srcM v0 v1) D = some (.dct (knR rs t)) ∧ insM m6 a (srcM v0 v1) (L' + 2) = some (.cell (some (.str (kdN k)))) ∧ LW a d I D0 (L' + 1) (L' + 2) st.mu (insM m6 a (srcM v0 v1)) rs kn :=
            fun ts' v0 v1 h1 h2 h3 => ⟨rfl, ts ++ [ts'], by simp [needV], by simp [hts], fun z hz => by
              rcases List.mem_append.mp hz with hz | hz
              · exact hok z hz
              · rw [List.mem_singleton] at hz; subst hz; exact ⟨h1, h2⟩, by rw [insM_other _ _ (ne_mu hDm ha6 (by simp))]; exact hDm, by rw [insM_other _ _ (ne_mu hkm ha6 (by simp))]; exact hkm, W.draw h3⟩
          have hq : q < 2 := (List.getElem?_eq_some_iff.mp hx).1
          refine accj_emit (by simp; omega) ?_
          repeat kas_types
          refine ev_cell (c := L' + 1) (v := .val (.ref a)) (by rfl) (.inl (by rfl)) (by rfl) W.ce (by kernel_rfl) (by kernel_rfl) ?_
          repeat kas_types
          refine ev_cell (c := L' + 2) (v := .str (kdN k)) (by rfl) (.inl (by rfl)) (by rfl) hkm (by kernel_rfl) (by kernel_rfl) ?_
          repeat kas_types
          split
          all_goals repeat kas_types
          · refine cl_of (needs_c (most := 2) hK ha6 hs6 fun ts' v0 v1 hin' hl1 hl2 hv => ?_)
            exact fin _ _ _ hin' hl2 hv
          · refine cl_of (needs_c (most := 1) hK ha6 hs6 fun ts' v0 v1 hin' hl1 hl2 hv => ?_)
            exact fin _ _ _ hin' hl2 hv
      · rw [if_neg (by simpa using hr)]
        repeat kas_types
        refine ⟨rfl, hw, hk, htr, rs, hrs, fun q hq => (hin q hq).imp id fun z => ⟨z.1, ?_⟩, by omega, ?_, W.draw h2⟩
        · exact List.mem_of_mem_take (i := j) (by rw [List.take_take]; simpa using z.2)
        · show insM m4 a (srcM u0 u1) D = _
          rw [insM_other _ _ (ne_mu hDm ha4 (by simp))]; exact hDm
    · rintro xs st3 ⟨rfl, hw, hk, htr, rs, hrs, hin, hlen, hDm, W⟩
      refine ex_post ?_
      repeat kas_types
      refine ⟨_, ups_dctD (Ne.symm dD0) W.kno hDm, ?_⟩
      have hDf : st.mu D = none := ex hD
      refine ⟨rfl, hw, hk, rs, hrs, fun r hr => ?_, ?_, ?_⟩
      · rw [List.take_add_one, ht]
        rcases hin r hr with h1 | ⟨h1, _⟩
        · exact List.mem_append_left _ h1
        · rw [h1]; simp
      · have : (kds.map fun k => V.str (kdN k)).length = 4 := rfl
        omega
      · have W2 := (W.del (ne_mu hDm W.src.choose_spec.choose_spec.2 (by simp)) (ne_mu hDm W.wor (by simp)) (ne_mu hDm W.imp (by simp)) dD0 (ne_mu hDm W.ce (by simp)) (ne_mu hDm W.ck.choose_spec (by simp)) hDf).known (kn' := (abc.take i).map (fun t => (t, V.dct (knR rs t))) ++ [(t, .dct (knR rs t))])
        rw [List.take_add_one, ht, List.map_append]
        exact W2
  · rintro xs st2 ⟨rfl, hw, hk, rs, hrs, hin, hlen, W⟩
    repeat kas_types
    obtain ⟨t0, t1, hs2, ha2⟩ := W.src
    have aI := W.ai
    have ad : a ≠ d := ne_mu ha2 W.wor (by simp)
    have aD : a ≠ D0 := ne_mu ha2 W.kno (by simp)
    have dD : d ≠ D0 := Ne.symm d0d
    have ID : I ≠ D0 := Ne.symm d0i
    obtain ⟨f1, f2, f3, _, _⟩ := W.fr
    have etk : abc.take (abc.map V.str).length = abc := rfl
    rw [etk] at W
    refine ⟨insM (insM (insM (insM st.mu a (srcM t0 t1)) I (.lst (rs.map rowS))) d (.ns (worN (.val (.ref I))))) D0 (.dct (abc.map fun t => (t, .dct (knR rs t)))), fun b o hb => ?_, ?_⟩
    · show st2.mu b = some o
      by_cases q1 : b = D0
      · subst q1; rw [insM_self] at hb; rw [W.kno]; exact hb
      rw [insM_other _ _ q1] at hb
      by_cases q2 : b = d
      · subst q2; rw [insM_self] at hb; rw [W.wor]; exact hb
      rw [insM_other _ _ q2] at hb
      by_cases q3 : b = I
      · subst q3; rw [insM_self] at hb; rw [W.imp]; exact hb
      rw [insM_other _ _ q3] at hb
      by_cases q4 : b = a
      · subst q4; rw [insM_self] at hb; rw [ha2]; exact hb
      rw [insM_other _ _ q4] at hb
      exact W.keep _ _ hb q4
    · refine ⟨_, _, .trans (up_tup1 (up_nsL (l1 := [("bodies", .dct []), ("consts", .dct [])]) (k := "impls") (l2 := [("traits", .dct []), ("sigs", .dct []), ("variants", .dct []), ("adts", .dct []), ("modules", .none)]) (xs := rs.map rowS) (I := I) hdI ?_ ?_)) (up_tup2 (up_dct (l := abc.map fun t => (t, .dct (knR rs t))) ?_)), ?_⟩
      · simp [insM, dD]
      · simp [insM, ID, Ne.symm hdI]
      · simp [insM, delM, d0d, d0i]
      · have := h rs t0 t1 hrs hs2
        have e : delM (delM (delM (insM (insM (insM (insM st.mu a (srcM t0 t1)) I (.lst (rs.map rowS))) d (.ns (worN (.val (.ref I))))) D0 (.dct (abc.map fun t => (t, .dct (knR rs t))))) I) d) D0 = insM st.mu a (srcM t0 t1) := by
          funext b
          unfold delM insM
          by_cases q1 : b = D0
          · subst q1; simp [Ne.symm aD, f3]
          by_cases q2 : b = d
          · subst q2; simp [q1, Ne.symm ad, f1]
          by_cases q3 : b = I
          · subst q3; simp [q1, q2, Ne.symm aI, f2]
          simp [q1, q2, q3]
        dsimp only
        rw [e]
        exact this
theorem ev_bt {x : Str} {i : String} {pos : Pos} {Q : V → ST → Prop} (g : nsIn C.K mainGlobals x = some none) (hv : bootBuiltins x = some (.type i)) (hn : (x == ("__name__" : Str)) = false) (hk : env.scope.kind = .function) (hx : env.kindOf x = some .globalImplicit) (hg : env.globals = mainGlobals) (hb : env.builtins = builtinsNs) (hd : (x == ("__debug__" : Str)) = false)
    (h : Q (.val (.type i)) st) : ev C n env (.Name x pos) st Q := ev_boot hk hx hg hb g hv (by simpa using hn) hd h
def kdOf : Ty → Option Kd
  | .u8 => some .u8 | .boo => some .boo | .par => none | .var => none | .box _ => some .box | .pair _ _ => some .pair
def tyTag : Ty → Str
  | .u8 => "int" | .boo => "bool" | .par => "param" | .var => "var" | .box _ => "box" | .pair _ _ => "tuple"
def kdTag : Kd → Str
  | .u8 => "int" | .boo => "bool" | .box => "box" | .pair => "tuple"
def tyPs : Ty → List (Str × Ty)
  | .box t => [("T", t)] | .pair a b => [("T", a), ("U", b)] | _ => []
def parts (T : Ty) : List Ty := (tyPs T).map (·.2)
def ppV (p : Str × Ty) : V := .tup [.tup [.str "param", .str p.1], tyV p.2]
theorem tyV_hd (T : Ty) : ∃ l, tyV T = .tup (.str (tyTag T) :: l) := by cases T <;> exact ⟨_, rfl⟩
theorem kdH_hd (k : Kd) : ∃ l, kdH k = .tup (.str (kdTag k) :: l) := by cases k <;> exact ⟨_, rfl⟩
theorem sub_tag {value slice : Expr} {T : Ty} {Q : V → ST → Prop} (hs : ∀ o i, subscripted slice false o i = operate [o, i] (getItem o i)) (h : Q (.str (tyTag T)) st) : sub C n env value slice (tyV T) (.int 0) st Q := by
  obtain ⟨l, e⟩ := tyV_hd T
  rw [e]
  exact sub_tup (j := 0) hs rfl (by decide) rfl h
theorem sub_ktag {value slice : Expr} {k : Kd} {Q : V → ST → Prop} (hs : ∀ o i, subscripted slice false o i = operate [o, i] (getItem o i)) (h : Q (.str (kdTag k)) st) : sub C n env value slice (kdH k) (.int 0) st Q := by
  obtain ⟨l, e⟩ := kdH_hd k
  rw [e]
  exact sub_tup (j := 0) hs rfl (by decide) rfl h
theorem sub_b1 {value slice : Expr} {t : Ty} {Q : V → ST → Prop} (hs : ∀ o i, subscripted slice false o i = operate [o, i] (getItem o i)) (h : Q (tyV t) st) : sub C n env value slice (tyV (.box t)) (.int 1) st Q := sub_tup (j := 1) hs rfl (by decide) rfl h
theorem sub_p1 {value slice : Expr} {a b : Ty} {Q : V → ST → Prop} (hs : ∀ o i, subscripted slice false o i = operate [o, i] (getItem o i)) (h : Q (.tup [tyV a, tyV b]) st) : sub C n env value slice (tyV (.pair a b)) (.int 1) st Q := sub_tup (j := 1) hs rfl (by decide) rfl h
theorem parts_c (hK : C.K = KK C.w.params) {T : Ty} {Q : V → ST → Prop} (h : Q (.lst ((parts T).map tyV)) st) : clc C (n + 1) env (.val (.ref 276)) [tyV T] st Q := by
  refine clc_dk (f := 276) [("T", tyV T)] [("T", tyV T)] (by rw [hK]; rfl) (by rw [hK]; kernel_rfl) (binds1 fun _ => rfl) (by kernel_rfl) (by kernel_rfl) (by kernel_rfl) (by kernel_rfl) (by kernel_rfl) rfl fun L' => ?_
  refine ex_cons ?_
  repeat kas_types
  refine sub_tag (fun _ _ => rfl) ?_
  repeat kas_types
  by_cases hb : ∃ t, T = .box t
  · obtain ⟨t, rfl⟩ := hb
    rw [if_pos (by simp only [tyTag]; decide +kernel)]
    repeat kas_types
    refine sub_b1 (fun _ _ => rfl) ?_
    repeat kas_types
    exact fin_ret h
  rw [if_neg (by cases T <;> first | exact absurd ⟨_, rfl⟩ hb | (simp only [tyTag]; decide +kernel))]
  repeat kas_types
  refine sub_tag (fun _ _ => rfl) ?_
  repeat kas_types
  by_cases hp : ∃ a b, T = .pair a b
  · obtain ⟨a, b, rfl⟩ := hp
    rw [if_pos (by simp only [tyTag]; decide +kernel)]
    repeat kas_types
    refine sub_p1 (fun _ _ => rfl) ?_
    repeat kas_types
    refine cl_list_tup (by simp) ?_
    repeat kas_types
    exact fin_ret h
  rw [if_neg (by cases T <;> first | exact absurd ⟨_, _, rfl⟩ hp | (simp only [tyTag]; decide +kernel))]
  repeat kas_types
  have e : (parts T).map tyV = [] := by
    cases T <;> first | rfl | exact absurd ⟨_, rfl⟩ hb | exact absurd ⟨_, _, rfl⟩ hp
  rw [e] at h
  exact fin_ret h
theorem names_c (hK : C.K = KK C.w.params) {r : RowS} {Q : V → ST → Prop} (h : Q (.lst (r.ps.map fun p => .str p.1)) st) : clc C (n + 1) env (.val (.ref 87)) [rowS r] st Q := by
  refine clc_dk (f := 87) [("impl", rowS r)] [("impl", rowS r)] (by rw [hK]; rfl) (by rw [hK]; kernel_rfl) (binds1 fun _ => rfl) (by kernel_rfl) (by kernel_rfl) (by kernel_rfl) (by kernel_rfl) (by kernel_rfl) rfl fun L' => ?_
  refine ex_cons ?_
  repeat kas_types
  refine ev_ListComp (k := fun D L => do let _ ← call (.builtin "list.append") [.ref D, ← eval _ (compEnvC _ _ L _)]) (fun _ => rfl) (cl := []) (by rfl) (by rfl) (by decide +kernel) (by decide +kernel) (fun I D L => by rfl)
    (fun xs i ys st2 => xs = r.ps.map (fun p => V.tup [.str p.1, needV p.2]) ∧ ys = (r.ps.take i).map (fun p => .str p.1) ∧ st2.mu = st.mu) ?_ ?_
  · refine itr_ev ?_
    refine ev_AttrI (fun _ => rfl) ?_
    repeat kas_types
    refine ⟨_, _, psV r.ps, rfl, ao_row_params hK, rfl, rfl, ?_⟩
    refine ⟨_, rfl, by rw [List.length_map]; have := ps_len r; omega, ⟨rfl, rfl, rfl⟩, ?_⟩
    rintro ys st2 ⟨_, rfl, hmu⟩
    refine ⟨st2.mu, LeM.refl _, ?_⟩
    rw [hmu]
    repeat kas_types
    refine fin_ret ?_
    rw [List.length_map, List.take_length]
    exact h
  · rintro Lc Dc xs q x ys st2 hx ⟨rfl, rfl, hmu⟩
    obtain ⟨l8, m8⟩ := st2
    dsimp only at hmu
    subst hmu
    have hq : q < 1000 := by
      have h1 := (List.getElem?_eq_some_iff.mp hx).1
      rw [List.length_map] at h1
      have := ps_len r
      omega
    obtain ⟨p, hp, rfl⟩ : ∃ p, r.ps[q]? = some p ∧ V.tup [.str p.1, needV p.2] = x := by simpa using hx
    repeat kas_types
    refine trs_nil ?_
    refine accj_emit (by simp; omega) ?_
    repeat kas_types
    refine ⟨rfl, ?_, rfl⟩
    rw [List.take_add_one, hp, List.map_append]
    rfl
def hpV (k : Kd) (T : Ty) : V := if kdOf T = some k then .lst ((tyPs T).map ppV) else .none
theorem tag_ne {k : Kd} {T : Ty} (h : kdOf T ≠ some k) : (kdTag k == tyTag T) = false := by
  cases k <;> cases T <;> first | exact absurd rfl h | (simp only [kdTag, tyTag]; decide +kernel)
theorem hp_c (hK : C.K = KK C.w.params) {k : Kd} {T : Ty} {Q : V → ST → Prop} (h : Q (hpV k T) st) : clc C (n + 1) env (.val (.ref 61)) [kdH k, tyV T] st Q := by
  refine clc_dk (f := 61) [("one", kdH k), ("other", tyV T)] [("other", tyV T), ("one", kdH k)] (by rw [hK]; rfl) (by rw [hK]; kernel_rfl) (binds2 fun _ _ => rfl) (by kernel_rfl) (by kernel_rfl) (by kernel_rfl) (by kernel_rfl) (by kernel_rfl) rfl fun L' => ?_
  refine ex_cons ?_
  repeat kas_types
  refine sub_ktag (fun _ _ => rfl) ?_
  repeat kas_types
  refine sub_tag (fun _ _ => rfl) ?_
  repeat kas_types
  by_cases hk : kdOf T = some k
  · have e : (kdTag k == tyTag T) = true := by
      cases T <;> simp only [kdOf, Option.some.injEq, reduceCtorEq] at hk <;> subst hk <;> (simp only [kdTag, tyTag]; decide +kernel)
    unfold hpV at h
    rw [if_pos hk] at h
    rw [if_neg (by simp [e, bne])]
    repeat kas_types
    refine sub_ktag (fun _ _ => rfl) ?_
    repeat kas_types
    refine in_tup (ys := ["int", "param", "var", "intvar"]) ?_
    repeat kas_types
    cases T <;> simp only [kdOf, Option.some.injEq, reduceCtorEq] at hk <;> subst hk
    · rw [if_pos (by decide +kernel)]
      repeat kas_types
      refine sub_tup (j := 1) (fun _ _ => rfl) rfl (by decide) rfl ?_
      repeat kas_types
      refine sub_tup (j := 1) (fun _ _ => rfl) rfl (by decide) rfl ?_
      repeat kas_types
      exact fin_ret h
    · rw [if_neg (by decide +kernel)]
      repeat kas_types
      exact fin_ret h
    · rename_i t
      rw [if_neg (by decide +kernel)]
      repeat kas_types
      refine sub_tup (j := 1) (fun _ _ => rfl) rfl (by decide) rfl ?_
      repeat kas_types
      refine sub_tup (j := 1) (fun _ _ => rfl) rfl (by decide) rfl ?_
      repeat kas_types
      exact fin_ret h
    · rename_i a b
      rw [if_neg (by decide +kernel)]
      repeat kas_types
      refine sub_tup (j := 1) (fun _ _ => rfl) rfl (by decide) rfl ?_
      repeat kas_types
      refine cl_len_tup (by simp) ?_
      repeat kas_types
      refine sub_tup (j := 1) (fun _ _ => rfl) rfl (by decide) rfl ?_
      repeat kas_types
      refine cl_len_tup (by simp) ?_
      refine cmp_eq ?_
      refine tru_bool ?_
      rw [if_pos (by simp)]
      refine ev_ListZip (by rfl) (by rfl) (by rfl) (by rfl) (by rfl) (by rfl) ?_
      refine ev_bt (b_list hK) v_list (by kernel_rfl) (by kernel_rfl) (by kernel_rfl) (by kernel_rfl) (by kernel_rfl) (by kernel_rfl) ⟨rfl, ?_⟩
      refine ev_bt (b_zip hK) v_zip (by kernel_rfl) (by kernel_rfl) (by kernel_rfl) (by kernel_rfl) (by kernel_rfl) (by kernel_rfl) ⟨rfl, ?_⟩
      repeat kas_types
      refine sub_tup (j := 1) (fun _ _ => rfl) rfl (by decide) rfl ?_
      repeat kas_types
      refine sub_p1 (fun _ _ => rfl) ?_
      repeat kas_types
      refine ⟨_, _, _, _, rfl, rfl, rfl, trivial, by simp, ?_⟩
      repeat kas_types
      exact fin_ret h
  · rw [if_pos (by simp [tag_ne hk, bne])]
    repeat kas_types
    unfold hpV at h
    rw [if_neg hk] at h
    exact fin_ret h
theorem size0 {xs : Array Value} {g : OH} (h : RepL C g [] xs.toList) : xs.size = 0 := by
  generalize hv : xs.toList = vs at h
  cases h
  rw [← Array.length_toList, hv]; rfl
theorem ne_nil {A : Around} {s : Shared} {l b : Addr} {xs ys : Array Value} {va : List V} {g g' : OH} (hu : A.units < cLine) (h1 : s.heap.IsList l xs) (h2 : s.heap.IsList b ys) (r1 : RepL C g va xs.toList) (r2 : RepL C g' [] ys.toList) : RcNeAt A s (.ref l) (.ref b) (!va.isEmpty) := by
  have z := size0 r2
  cases va with
  | nil =>
    have z1 := size0 r1
    have := RcNeAt.lists (e := fun _ => true) h1 h2 (by rw [z, z1]) hu (fun j j1 => by rw [z1] at j1; exact absurd j1 (Nat.not_lt_zero _))
    rw [z1] at this
    exact this
  | cons x l' =>
    refine RcNeAt.lists_lengths h1 h2 ?_ hu
    have := r1.size
    simp at this
    simp [z, this]
theorem eq_nil {A : Around} {s : Shared} {l b : Addr} {xs ys : Array Value} {va : List V} {g g' : OH} (hu : A.units < cLine) (h1 : s.heap.IsList l xs) (h2 : s.heap.IsList b ys) (r1 : RepL C g va xs.toList) (r2 : RepL C g' [] ys.toList) : RcAt A s (.ref l) (.ref b) va.isEmpty := by
  have z := size0 r2
  cases va with
  | nil =>
    have z1 := size0 r1
    have := RcAt.lists (e := fun _ => true) h1 h2 (by rw [z, z1]) hu (fun j j1 => by rw [z1] at j1; exact absurd j1 (Nat.not_lt_zero _))
    rw [z1] at this
    exact this
  | cons x l' =>
    refine RcAt.lists_lengths h1 h2 ?_ hu
    have := r1.size
    simp at this
    simp [z, this]
theorem Ok.u0 {A : Around} (h : Ok n A) : A.units < cLine := by have := h.units; omega
theorem cmp_nilM {a : Addr} {l : List V} {Q : V → ST → Prop} (hm : st.mu a = some (.lst l)) (h : Q (.bool (!l.isEmpty)) st) : op2 C n env (compareOp .NotEq) (.val (.ref a)) (.lst []) st Q := fun fz va vb ra rb A hA kp s r => by
  (first | obtain ⟨_, rfl⟩ := ra.inv | obtain rfl := ra.inv)
  obtain ⟨xs, m, h1, h2⟩ := isLst_mu r hm
  obtain ⟨_, _, _, rfl, k1, k2⟩ := rb.inv
  exact ne_nil hA.u0 ⟨_, h1, rfl, m, rfl⟩ (isLst_of r k1) h2 k2 _ _ _ _ ⟨fz, _, st, Le.refl _, .bool _, r, h⟩
theorem cmp_nilF {l : List V} {Q : V → ST → Prop} (h : Q (.bool (!l.isEmpty)) st) : op2 C n env (compareOp .NotEq) (.lst l) (.lst []) st Q := fun fz va vb ra rb A hA kp s r => by
  obtain ⟨_, _, _, rfl, h1, h2⟩ := ra.inv
  obtain ⟨_, _, _, rfl, k1, k2⟩ := rb.inv
  exact ne_nil hA.u0 (isLst_of r h1) (isLst_of r k1) h2 k2 _ _ _ _ ⟨fz, _, st, Le.refl _, .bool _, r, h⟩
theorem cmp_nilE {l : List V} {Q : V → ST → Prop} (h : Q (.bool l.isEmpty) st) : op2 C n env (compareOp .Eq) (.lst l) (.lst []) st Q := fun fz va vb ra rb A hA kp s r => by
  obtain ⟨_, _, _, rfl, h1, h2⟩ := ra.inv
  obtain ⟨_, _, _, rfl, k1, k2⟩ := rb.inv
  exact eq_nil hA.u0 (isLst_of r h1) (isLst_of r k1) h2 k2 _ _ _ _ ⟨fz, _, st, Le.refl _, .bool _, r, h⟩
def fndV (T : Ty) (m : Nat) : List (Str × V) := (((tyPs T).drop m).reverse).map fun p => (p.1, tyV p.2)
theorem fnd_step {T : Ty} {m : Nat} {p : Str × Ty} (h : (tyPs T)[m]? = some p) : (fndV T (m + 1)).lookup p.1 = none ∧ fndV T m = fndV T (m + 1) ++ [(p.1, tyV p.2)] := by
  cases T with
  | box t =>
    rcases m with _ | m
    · cases h; exact ⟨rfl, rfl⟩
    · simp [tyPs] at h
  | pair a b =>
    rcases m with _ | _ | m
    · cases h; exact ⟨by simp [fndV, tyPs]; decide +kernel, rfl⟩
    · cases h; exact ⟨rfl, rfl⟩
    · simp [tyPs] at h
  | _ => simp [tyPs] at h
theorem mtype_c (hK : C.K = KK C.w.params) {k : Kd} {T : Ty} {F : Addr} {ns : List Str} {Q : V → ST → Prop} (hT : T ≠ .var) (hns : kdOf T = some k → ∀ p ∈ tyPs T, p.1 ∈ ns) (hF : st.mu F = some (.dct []))
    (hn : kdOf T ≠ some k → Q (.str "no") st) (hy : kdOf T = some k → Q (.str "yes") ⟨st.loc, insM st.mu F (.dct (fndV T 0))⟩) : clc C (n + 2) env (.val (.ref 75)) [kdH k, tyV T, .lst (ns.map V.str), .val (.ref F)] st Q := by
  refine clc_dk (f := 75) [("pattern", kdH k), ("subject", tyV T), ("names", .lst (ns.map V.str)), ("found", .val (.ref F))] [("found", .val (.ref F)), ("names", .lst (ns.map V.str)), ("subject", tyV T), ("pattern", kdH k)] (by rw [hK]; rfl) (by rw [hK]; kernel_rfl) (binds4 fun _ _ _ _ => rfl) (by kernel_rfl) (by kernel_rfl) (by kernel_rfl) (by kernel_rfl) (by kernel_rfl) rfl fun L' => ?_
  refine ex_cons ?_
  iterate 5 kas_types
  refine ev_ListM ?_
  repeat kas_types
  intro Lf hL
  dsimp only at hL
  have LF : Lf ≠ F := Ne.symm (ne_fr hF hL)
  repeat kas_types
  refine ex1_While (fun m st2 => List.lookup ("answer" : Str) st2.loc = some (.str "yes") ∧ List.lookup ("left" : Str) st2.loc = some (.val (.ref Lf)) ∧ List.lookup ("names" : Str) st2.loc = some (.lst (ns.map V.str)) ∧ List.lookup ("found" : Str) st2.loc = some (.val (.ref F)) ∧
    ((m = 3 ∧ st2.mu = insM st.mu Lf (.lst [.tup [kdH k, tyV T]])) ∨ (kdOf T = some k ∧ m ≤ (tyPs T).length ∧ st2.mu = insM (insM st.mu Lf (.lst (((tyPs T).take m).map ppV))) F (.dct (fndV T m))))) 3 ?_ ?_
  · refine ⟨?_, ?_, ?_, ?_, .inl ⟨rfl, rfl⟩⟩
    · o_fieldsN
    · o_fieldsN
    · o_fieldsN
    · o_fieldsN
  · rintro m st2 ⟨ha, hl, hnm, hf, hJ⟩
    obtain ⟨l2, m2⟩ := st2
    dsimp only at ha hl hnm hf hJ
    repeat kas_types
    rcases hJ with ⟨rfl, rfl⟩ | ⟨hk, hm, rfl⟩
    · refine cmp_nilM (insM_self _ _ _) ?_
      refine tru_bool ?_
      rw [if_pos (by rfl)]
      repeat kas_types
      refine ⟨Lf, [], .tup [kdH k, tyV T], rfl, insM_self _ _ _, by simp, ?_⟩
      dsimp only
      rw [insM_insM]
      repeat kas_types
      refine sub_ktag (fun _ _ => rfl) ?_
      repeat kas_types
      rw [if_neg (by cases k <;> decide +kernel)]
      repeat kas_types
      refine sub_tag (fun _ _ => rfl) ?_
      repeat kas_types
      refine in_tup (ys := ["var", "intvar"]) ?_
      repeat kas_types
      rw [if_neg (by cases T <;> first | exact absurd rfl hT | (simp only [tyTag]; decide +kernel))]
      repeat kas_types
      refine ev_call2 (hp_c hK ?_) (Nat.le_refl _)
      repeat kas_types
      refine cmp_is ?_
      refine tru_bool ?_
      by_cases hk : kdOf T = some k
      · have ev0 : hpV k T = .lst ((tyPs T).map ppV) := if_pos hk
        rw [ev0, if_neg (by simp [isNone])]
        have pl : (tyPs T).length ≤ 2 := by cases T <;> simp [tyPs]
        repeat kas_types
        refine ⟨Lf, [], rfl, insM_self _ _ _, ?_⟩
        refine ev_or ?_
        repeat kas_types
        refine tru_lst (by simp; omega) ?_
        have emu : insM (insM st.mu Lf (.lst [])) Lf (.lst ([] ++ (tyPs T).map ppV)) = insM (insM st.mu Lf (.lst (((tyPs T).take (tyPs T).length).map ppV))) F (.dct (fndV T (tyPs T).length)) := by
          rw [insM_insM, List.take_length]
          have : fndV T (tyPs T).length = [] := by unfold fndV; rw [List.drop_length]; rfl
          rw [this]
          funext b
          by_cases q : b = F
          · subst q; rw [insM_self, insM_other _ _ (Ne.symm LF)]; exact hF
          · rw [insM_other _ _ q]; rfl
        split
        · refine ⟨[], _, rfl, insM_self _ _ _, by simp; omega, ?_⟩
          dsimp only
          rw [emu]
          repeat kas_types
          refine ⟨(tyPs T).length, by omega, ?_, ?_, ?_, ?_, .inr ⟨hk, Nat.le_refl _, rfl⟩⟩
          · o_fieldsN
          · o_fieldsN
          · o_fieldsN
          · o_fieldsN
        · rename_i he
          have h0 : (tyPs T).map ppV = [] := by simpa using he
          rw [h0] at emu
          refine ev_or1 ?_
          repeat kas_types
          refine ⟨[], _, rfl, insM_self _ _ _, by simp, ?_⟩
          dsimp only
          rw [emu]
          repeat kas_types
          refine ⟨(tyPs T).length, by omega, ?_, ?_, ?_, ?_, .inr ⟨hk, Nat.le_refl _, rfl⟩⟩
          · o_fieldsN
          · o_fieldsN
          · o_fieldsN
          · o_fieldsN
      · have ev0 : hpV k T = .none := if_neg hk
        rw [ev0, if_pos (by rfl)]
        repeat kas_types
        refine ⟨Lf, [], rfl, insM_self _ _ _, ?_⟩
        refine ev_or ?_
        repeat kas_types
        refine tru_none ?_
        rw [if_neg (by decide)]
        refine ev_or1 ?_
        repeat kas_types
        refine ⟨[], [], rfl, insM_self _ _ _, by simp, ?_⟩
        repeat kas_types
        refine ⟨st.mu, ?_, hn hk⟩
        dsimp only
        rw [insM_insM]
        exact LeM.ins2 hL
    · rcases m with _ | m
      · refine cmp_nilM (l := ((tyPs T).take 0).map ppV) ?_ ?_
        · show insM (insM st.mu Lf _) F _ Lf = _
          rw [insM_other _ _ LF, insM_self]
        refine tru_bool ?_
        rw [if_neg (by simp)]
        repeat kas_types
        refine ⟨insM st.mu F (.dct (fndV T 0)), ?_, hy hk⟩
        intro b o hb
        show insM (insM st.mu Lf _) F _ b = _
        by_cases q : b = F
        · subst q; rw [insM_self] at hb ⊢; exact hb
        · rw [insM_other _ _ q] at hb ⊢
          rw [insM_other _ _ (fun e => by subst e; rw [hL] at hb; cases hb)]; exact hb
      · obtain ⟨p, hp⟩ : ∃ p, (tyPs T)[m]? = some p := ⟨_, List.getElem?_eq_getElem (by omega)⟩
        have et : ((tyPs T).take (m + 1)).map ppV = ((tyPs T).take m).map ppV ++ [ppV p] := by rw [List.take_add_one, hp, List.map_append]; rfl
        refine cmp_nilM (l := ((tyPs T).take (m + 1)).map ppV) ?_ ?_
        · show insM (insM st.mu Lf _) F _ Lf = _
          rw [insM_other _ _ LF, insM_self]
        refine tru_bool ?_
        rw [if_pos (by rw [et]; simp)]
        repeat kas_types
        have pl : (tyPs T).length ≤ 2 := by cases T <;> simp [tyPs]
        refine ⟨Lf, ((tyPs T).take m).map ppV, .tup [.tup [.str "param", .str p.1], tyV p.2], rfl, ?_, by simp; omega, ?_⟩
        · show insM (insM st.mu Lf _) F _ Lf = _
          rw [insM_other _ _ LF, insM_self, et]; rfl
        repeat kas_types
        refine sub_tup (j := 0) (fun _ _ => rfl) rfl (by decide) rfl ?_
        repeat kas_types
        refine sub_tup (j := 1) (fun _ _ => rfl) rfl (by decide) rfl ?_
        repeat kas_types
        refine in_lst ?_
        repeat kas_types
        rw [if_pos (by
          rw [List.any_eq_true]
          exact ⟨p.1, hns hk p (List.mem_of_getElem? hp), beq_self_eq_true _⟩)]
        repeat kas_types
        refine sub_tup (j := 1) (fun _ _ => rfl) rfl (by decide) rfl ?_
        repeat kas_types
        obtain ⟨f1, f2⟩ := fnd_step hp
        refine in_dctM (l := fndV T (m + 1)) ?_ ?_
        · show insM (insM (insM st.mu Lf _) F _) Lf _ F = _
          rw [insM_other _ _ (Ne.symm LF), insM_self]
        refine tru_bool ?_
        rw [f1, if_neg (by simp)]
        repeat kas_types
        refine sub_tup (j := 1) (fun _ _ => rfl) rfl (by decide) rfl ?_
        refine setI_dct (l := fndV T (m + 1)) ?_ ?_ ?_
        · show insM (insM (insM st.mu Lf _) F _) Lf _ F = _
          rw [insM_other _ _ (Ne.symm LF), insM_self]
        · unfold fndV
          simp; omega
        rw [stoD_new f1, ← f2]
        repeat kas_types
        refine ⟨m, by omega, ?_, ?_, ?_, ?_, .inr ⟨hk, by omega, ?_⟩⟩
        · o_fieldsN
        · o_fieldsN
        · o_fieldsN
        · o_fieldsN
        · dsimp only
          funext b
          unfold insM
          by_cases q1 : b = F
          · simp [q1]
          by_cases q2 : b = Lf
          · simp [q2]
          simp [q1, q2]
theorem mall_c (hK : C.K = KK C.w.params) {k : Kd} {T : Ty} {F : Addr} {ns : List Str} {Q : V → ST → Prop} (hT : T ≠ .var) (hns : kdOf T = some k → ∀ p ∈ tyPs T, p.1 ∈ ns) (hF : st.mu F = some (.dct []))
    (hn : kdOf T ≠ some k → Q (.str "no") st) (hy : kdOf T = some k → Q (.str "yes") ⟨st.loc, insM st.mu F (.dct (fndV T 0))⟩) : clc C (n + 3) env (.val (.ref 82)) [.tup [kdH k], .tup [tyV T], .lst (ns.map V.str), .val (.ref F)] st Q := by
  refine clc_dk (f := 82) [("patterns", .tup [kdH k]), ("subjects", .tup [tyV T]), ("names", .lst (ns.map V.str)), ("found", .val (.ref F))] [("found", .val (.ref F)), ("names", .lst (ns.map V.str)), ("subjects", .tup [tyV T]), ("patterns", .tup [kdH k])] (by rw [hK]; rfl) (by rw [hK]; kernel_rfl) (binds4 fun _ _ _ _ => rfl) (by kernel_rfl) (by kernel_rfl) (by kernel_rfl) (by kernel_rfl) (by kernel_rfl) rfl fun L' => ?_
  refine ex_cons ?_
  repeat kas_types
  refine cl_len_tup (by simp) ?_
  repeat kas_types
  refine cl_len_tup (by simp) ?_
  repeat kas_types
  rw [if_neg (by simp)]
  repeat kas_types
  refine ex1_For (fun xs i st2 => xs = [.tup [kdH k, tyV T]] ∧ List.lookup ("answer" : Str) st2.loc = some (.str "yes") ∧ List.lookup ("names" : Str) st2.loc = some (.lst (ns.map V.str)) ∧ List.lookup ("found" : Str) st2.loc = some (.val (.ref F)) ∧
    ((i = 0 ∧ st2.mu = st.mu) ∨ (i = 1 ∧ kdOf T = some k ∧ st2.mu = insM st.mu F (.dct (fndV T 0))))) (fun _ => rfl) ?_ ?_ ?_
  · refine itr_CallT (by rfl) (by rfl) (by rfl) ?_
    refine ev_bt (b_zip hK) v_zip (by kernel_rfl) (by kernel_rfl) (by kernel_rfl) (by kernel_rfl) (by kernel_rfl) (by kernel_rfl) ⟨_, rfl, ?_⟩
    repeat kas_types
    refine itc_zip (xs := [kdH k]) (ys := [tyV T]) rfl rfl (by simp) ⟨rfl, ?_, ?_, ?_, .inl ⟨rfl, rfl⟩⟩
    · o_fieldsN
    · o_fieldsN
    · o_fieldsN
  · rintro xs i x st2 hx ⟨rfl, ha, hnm, hf, hJ⟩
    obtain ⟨l2, m2⟩ := st2
    dsimp only at ha hnm hf hJ
    rcases hJ with ⟨rfl, rfl⟩ | ⟨rfl, _⟩
    · obtain rfl : V.tup [kdH k, tyV T] = x := by simpa using hx
      repeat kas_types
      refine cl_of (mtype_c hK hT hns hF (fun h => ?_) (fun h => ?_))
      · repeat kas_types
        exact ⟨st.mu, LeM.refl _, hn h⟩
      · repeat kas_types
        refine ⟨rfl, ?_, ?_, ?_, .inr ⟨rfl, h, rfl⟩⟩
        · o_fieldsN
        · o_fieldsN
        · o_fieldsN
    · simp at hx
  · rintro xs st2 ⟨rfl, ha, hnm, hf, hJ⟩
    obtain ⟨l2, m2⟩ := st2
    dsimp only at ha hnm hf hJ
    rcases hJ with ⟨h0, _⟩ | ⟨_, hk, rfl⟩
    · simp at h0
    · repeat kas_types
      exact ⟨_, LeM.refl _, hy hk⟩
def mword (r : RowS) (T : Ty) : Str := if kdOf T = some r.kd then "yes" else "no"
def mfound (r : RowS) (T : Ty) : List (Str × V) := if kdOf T = some r.kd then fndV T 0 else []
theorem ps_names {r : RowS} {T : Ty} (h : kdOf T = some r.kd) : ∀ p ∈ tyPs T, p.1 ∈ r.ps.map (·.1) := by
  obtain ⟨_, _, kd, _, _⟩ := r
  dsimp only at h
  intro p hp
  cases T <;> simp only [kdOf, Option.some.injEq, reduceCtorEq] at h <;> subst h
  · cases hp
  · cases hp
  · simp only [tyPs, List.mem_singleton] at hp; subst hp; simp [RowS.ps]
  · simp only [tyPs, List.mem_cons, List.not_mem_nil, or_false] at hp
    rcases hp with rfl | rfl <;> simp [RowS.ps]
theorem mimpl_c (hK : C.K = KK C.w.params) {r : RowS} {T : Ty} {Q : V → ST → Prop} (hT : T ≠ .var) (h : Q (.tup [.str (mword r T), .dct (mfound r T)]) st) : clc C (n + 4) env (.val (.ref 94)) [rowS r, .tup [], tyV T] st Q := by
  refine clc_post (clc_dk (f := 94) [("impl", rowS r), ("trait_args", .tup []), ("T", tyV T)] [("T", tyV T), ("trait_args", .tup []), ("impl", rowS r)] (by rw [hK]; rfl) (by rw [hK]; kernel_rfl) (binds3 fun _ _ _ => rfl) (by kernel_rfl) (by kernel_rfl) (by kernel_rfl) (by kernel_rfl) (by kernel_rfl) rfl fun L' => ?_)
  refine ex_cons ?_
  refine ex1_AssignName (by kernel_rfl) ?_
  refine ev_DictM fun F hF => ?_
  have hF : st.mu F = none := hF
  repeat kas_types
  refine ev_AttrI (fun _ => rfl) ?_
  repeat kas_types
  refine ⟨_, _, kdH r.kd, rfl, ao_row_self_type hK, rfl, by cases r.kd <;> rfl, ?_⟩
  repeat kas_types
  refine cl_len_tup (by simp) ?_
  repeat kas_types
  refine cl_tuple_tup ?_
  repeat kas_types
  refine bop_add0T ?_
  repeat kas_types
  refine ev_call2 (names_c hK ?_) (Nat.le_refl _)
  repeat kas_types
  have en : (r.ps.map fun p => V.str p.1) = (r.ps.map (·.1)).map V.str := by rw [List.map_map]; rfl
  rw [en]
  refine ev_call2 (mall_c hK hT ps_names (insM_self _ _ _) (fun hn => ?_) (fun hy => ?_)) (Nat.le_refl _)
  · repeat kas_types
    refine ⟨_, LeM.refl _, _, _, up_tup2 (up_dct (insM_self _ _ _)), ?_⟩
    dsimp only
    rw [delM_ins hF]
    unfold mword mfound at h
    rw [if_neg hn, if_neg hn] at h
    exact h
  · repeat kas_types
    refine ⟨_, LeM.refl _, _, _, up_tup2 (up_dct (insM_self _ _ _)), ?_⟩
    dsimp only
    rw [insM_insM, delM_ins hF]
    unfold mword mfound at h
    rw [if_pos hy, if_pos hy] at h
    exact h
abbrev selL (K0 : Addr) (BL W : List (Str × V)) : List (Str × V) := [("known", .val (.ref K0)), ("bounds", .dct BL), ("world", .ins 221 W)]
theorem sel_init (hK : C.K = KK C.w.params) {BL W : List (Str × V)} {Q : V → ST → Prop} (h : ∀ d K0, d ≠ K0 → st.mu d = none → st.mu K0 = none → Q (.obj 149 d) ⟨st.loc, insM (insM st.mu K0 (.tdct [])) d (.ns (selL K0 BL W))⟩) : clc C (n + 2) env (.val (.ref 149)) [.ins 221 W, .dct BL] st Q := by
  refine clc_cls (f := 115) (by rw [hK]; kernel_rfl) (by rw [hK]; kernel_rfl) (by rw [hK]; kernel_rfl) fun d hd => ?_
  refine clc_dk (f := 115) [("self", .obj 149 d), ("world", .ins 221 W), ("bounds", .dct BL)] [("bounds", .dct BL), ("world", .ins 221 W), ("self", .obj 149 d)]
    (by rw [hK]; rfl) (by rw [hK]; kernel_rfl) (binds3 fun _ _ _ => rfl) (by kernel_rfl) (by kernel_rfl) (by kernel_rfl) (by kernel_rfl) (by kernel_rfl) rfl fun L' => ?_
  refine ex_cons ?_
  repeat kas_types
  refine ⟨_, d, _, rfl, insM_self _ _ _, so_sel_world hK, Nat.le_of_ble_eq_true rfl, ?_⟩
  rw [insM_insM]
  repeat kas_types
  refine ⟨_, d, _, rfl, insM_self _ _ _, so_sel_bounds hK, Nat.le_of_ble_eq_true rfl, ?_⟩
  rw [insM_insM]
  iterate 2 kas_types
  refine ev_DictT fun K0 h0 => ?_
  have h0 : insM st.mu d _ K0 = none := h0
  have dK : d ≠ K0 := fun e => by subst e; rw [insM_self] at h0; cases h0
  have hK0 : st.mu K0 = none := by rw [insM_other _ _ (Ne.symm dK)] at h0; exact h0
  dsimp only
  rw [insM_comm dK]
  repeat kas_types
  refine ⟨_, d, _, rfl, insM_self _ _ _, so_sel_known hK, Nat.le_of_ble_eq_true rfl, ?_⟩
  rw [insM_insM]
  repeat kas_types
  exact ⟨_, LeM.refl _, rfl, h d K0 dK hd hK0⟩
def BOk (BL : List (Str × V)) (bd : List Str) : Prop := (List.lookup ("X" : Str) BL).getD (V.tup []) = V.tup (bd.map V.str)
theorem bound_c (hK : C.K = KK C.w.params) {ds K0 : Addr} {BL W : List (Str × V)} {bd : List Str} {T : Ty} {tr : Str} {Q : V → ST → Prop} (hd : st.mu ds = some (.ns (selL K0 BL W))) (hb : BOk BL bd)
    (h : Q (if T = .par ∧ tr ∈ bd then .tup [.str "bound", .str "X"] else .none) st) : clc C (n + 1) env (.val (.ref 122)) [.obj 149 ds, .str tr, tyV T] st Q := by
  refine clc_dk (f := 122) [("self", .obj 149 ds), ("trait", .str tr), ("T", tyV T)] [("T", tyV T), ("trait", .str tr), ("self", .obj 149 ds)] (by rw [hK]; rfl) (by rw [hK]; kernel_rfl) (binds3 fun _ _ _ => rfl) (by kernel_rfl) (by kernel_rfl) (by kernel_rfl) (by kernel_rfl) (by kernel_rfl) rfl fun L' => ?_
  refine ex_cons ?_
  repeat kas_types
  refine sub_tag (fun _ _ => rfl) ?_
  repeat kas_types
  by_cases hp : T = .par
  · subst hp
    rw [if_pos (by simp only [tyTag]; decide +kernel)]
    repeat kas_types
    refine ev_AttrO (fun _ => rfl) ?_
    repeat kas_types
    refine ⟨_, ds, _, .dct BL, rfl, hd, ao_sel_bounds hK, rfl, rfl, ?_⟩
    refine ⟨BL, rfl, ?_⟩
    repeat kas_types
    refine sub_tup (j := 1) (fun _ _ => rfl) rfl (by decide) rfl ?_
    repeat kas_types
    refine cl_get2F ?_
    have hb' : (List.lookup ("X" : Str) BL).getD (V.tup []) = V.tup (bd.map V.str) := hb
    rw [hb']
    refine in_tup ?_
    repeat kas_types
    by_cases hi : tr ∈ bd
    · rw [if_pos (by simpa using hi)]
      rw [if_pos ⟨rfl, hi⟩] at h
      repeat kas_types
      refine sub_tup (j := 1) (fun _ _ => rfl) rfl (by decide) rfl ?_
      repeat kas_types
      exact fin_ret h
    · rw [if_neg (by simpa using hi)]
      rw [if_neg (fun e => hi e.2)] at h
      repeat kas_types
      exact fin_ret h
  · rw [if_neg (by cases T <;> first | exact absurd rfl hp | (simp only [tyTag]; decide +kernel))]
    rw [if_neg (fun e => hp e.1)] at h
    repeat kas_types
    exact fin_ret h
def nds (r : RowS) (T : Ty) : List (Str × Ty) := (r.ps.zip (tyPs T)).flatMap fun q => q.1.2.map fun t => (t, q.2.2)
def ndV (p : Str × Ty) : V := .tup [.str p.1, tyV p.2]
def ndsAt (r : RowS) (T : Ty) (i : Nat) : List (Str × Ty) := ((r.ps.zip (tyPs T)).take i).flatMap fun q => q.1.2.map fun t => (t, q.2.2)
theorem ps_at {r : RowS} {T : Ty} (h : kdOf T = some r.kd) {i : Nat} {p : Str × List Str} (hp : r.ps[i]? = some p) : ∃ t, (r.ps.zip (tyPs T))[i]? = some (p, (p.1, t)) ∧ (fndV T 0).lookup p.1 = some (tyV t) := by
  obtain ⟨_, _, kd, nt, nu⟩ := r
  dsimp only at h
  have tu : ((Str.ofString "T" : Str) == Str.ofString "U") = false := by decide +kernel
  cases T <;> simp only [kdOf, Option.some.injEq, reduceCtorEq] at h <;> subst h
  · simp [RowS.ps] at hp
  · simp [RowS.ps] at hp
  · rcases i with _ | i
    · simp only [RowS.ps, List.getElem?_cons_zero, Option.some.injEq] at hp
      subst hp
      exact ⟨_, rfl, lk_here⟩
    · simp [RowS.ps] at hp
  · rcases i with _ | _ | i
    · simp only [RowS.ps, List.getElem?_cons_zero, Option.some.injEq] at hp
      subst hp
      exact ⟨_, rfl, lk_there tu lk_here⟩
    · simp only [RowS.ps, List.getElem?_cons_succ, List.getElem?_cons_zero, Option.some.injEq] at hp
      subst hp
      exact ⟨_, rfl, lk_here⟩
    · simp [RowS.ps] at hp
theorem ndsAt_step {r : RowS} {T : Ty} {i : Nat} {p : Str × List Str} {t : Ty} (h : (r.ps.zip (tyPs T))[i]? = some (p, (p.1, t))) : ndsAt r T (i + 1) = ndsAt r T i ++ p.2.map fun x => (x, t) := by
  unfold ndsAt
  rw [List.take_add_one, h, List.flatMap_append]
  simp
theorem ndsAt_len (r : RowS) (T : Ty) (h1 : r.nt.length ≤ 3) (h2 : r.nu.length ≤ 3) (i : Nat) : (ndsAt r T i).length ≤ 6 := by
  have e : (ndsAt r T i).length ≤ (nds r T).length := by
    unfold ndsAt nds
    have : (r.ps.zip (tyPs T)) = (r.ps.zip (tyPs T)).take i ++ (r.ps.zip (tyPs T)).drop i := (List.take_append_drop _ _).symm
    conv => rhs; rw [this, List.flatMap_append, List.length_append]
    exact Nat.le_add_right _ _
  refine Nat.le_trans e ?_
  unfold nds
  obtain ⟨_, _, kd, nt, nu⟩ := r
  cases kd <;> cases T <;> simp [RowS.ps, tyPs] at * <;> omega
theorem ndsAt_all {r : RowS} {T : Ty} (h : kdOf T = some r.kd) : ndsAt r T r.ps.length = nds r T := by
  unfold ndsAt nds
  rw [List.take_of_length_le]
  rw [List.length_zip]
  omega
theorem needs_of_c (hK : C.K = KK C.w.params) {ds : Addr} {r : RowS} {T : Ty} {Q : V → ST → Prop} (hk : kdOf T = some r.kd) (h1 : r.nt.length ≤ 3) (h2 : r.nu.length ≤ 3) (h : Q (.lst ((nds r T).map ndV)) st) : clc C (n + 1) env (.val (.ref 127)) [.obj 149 ds, rowS r, .dct (fndV T 0)] st Q := by
  refine clc_post (clc_dkC (f := 127) [("self", .obj 149 ds), ("impl", rowS r), ("found", .dct (fndV T 0))] [("self", .obj 149 ds), ("impl", rowS r)] ["self", "impl", "found"] (by rw [hK]; rfl) (by rw [hK]; kernel_rfl) (binds3 fun _ _ _ => rfl) rfl (by kernel_rfl) (by decide +kernel) (by decide +kernel) (by decide +kernel) (by kernel_rfl) (by kernel_rfl) (by kernel_rfl) (by rfl) fun L' mu' hcell hle => ?_)
  obtain ⟨c1, n1⟩ := hcell "found" (L' + 1) (by rfl)
  obtain ⟨c2, n2⟩ := hcell "name" (L' + 2) (by rfl)
  have e1 : List.lookup (Str.ofString "found") [(Str.ofString "self", V.obj 149 ds), (Str.ofString "impl", rowS r), (Str.ofString "found", V.dct (fndV T 0))] = some (V.dct (fndV T 0)) := by with_unfolding_all exact rfl
  have e2 : List.lookup (Str.ofString "name") [(Str.ofString "self", V.obj 149 ds), (Str.ofString "impl", rowS r), (Str.ofString "found", V.dct (fndV T 0))] = none := by with_unfolding_all exact rfl
  rw [e1] at c1
  rw [e2] at c2
  refine ex_cons ?_
  refine ex1_AssignName (by kernel_rfl) ?_
  refine ev_ListM ?_
  refine evl_nil ⟨Nat.zero_le _, fun N hN => ?_⟩
  have hN : mu' N = none := hN
  have n1' : N ≠ L' + 1 := Ne.symm (ne_fr c1 hN)
  have n2' : N ≠ L' + 2 := Ne.symm (ne_fr c2 hN)
  repeat kas_types
  refine ex1_For (fun xs i st2 => xs = r.ps.map (fun p => V.tup [.str p.1, needV p.2]) ∧ List.lookup ("needs" : Str) st2.loc = some (.val (.ref N)) ∧ st2.mu N = some (.lst ((ndsAt r T i).map ndV)) ∧ st2.mu (L' + 1) = some (.cell (some (.dct (fndV T 0)))) ∧ (∃ o, st2.mu (L' + 2) = some (.cell o)) ∧ LeM st.mu st2.mu) (fun _ => rfl) ?_ ?_ ?_
  · refine itr_ev ?_
    refine ev_AttrI (fun _ => rfl) ?_
    repeat kas_types
    refine ⟨_, _, psV r.ps, rfl, ao_row_params hK, rfl, rfl, ?_⟩
    refine ⟨_, rfl, by rw [List.length_map]; have := ps_len r; omega, rfl, ?_, ?_, ?_, ⟨none, ?_⟩, ?_⟩
    · o_fieldsN
    · exact insM_self _ _ _
    · dsimp only; rw [insM_other _ _ (Ne.symm n1')]; exact c1
    · dsimp only; rw [insM_other _ _ (Ne.symm n2')]; exact c2
    · exact hle.trans (LeM.ins2 hN)
  · rintro xs i x st2 hx ⟨rfl, hn, hm, hc1, ⟨o, hc2⟩, hl⟩
    obtain ⟨l2, m2⟩ := st2
    dsimp only at hn hm hc1 hc2 hl
    obtain ⟨p, hp, rfl⟩ : ∃ p, r.ps[i]? = some p ∧ V.tup [.str p.1, needV p.2] = x := by simpa using hx
    obtain ⟨t, ht, hf⟩ := ps_at hk hp
    have hz := ndsAt_len r T h1 h2 i
    have hst := ndsAt_step ht
    have hz2 := ndsAt_len r T h1 h2 (i + 1)
    iterate 2 kas_types
    refine sto_cell (c := L' + 2) (by kernel_rfl) (by kernel_rfl) (by rfl) hc2 ?_
    repeat kas_types
    have hm3 : insM m2 (L' + 2) (.cell (some (.str p.1))) N = some (.lst ((ndsAt r T i).map ndV)) := by rw [insM_other _ _ n2']; exact hm
    have hc13 : insM m2 (L' + 2) (.cell (some (.str p.1))) (L' + 1) = some (.cell (some (.dct (fndV T 0)))) := by rw [insM_other _ _ (Nat.ne_of_lt (Nat.lt_succ_self (L' + 1)))]; exact hc1
    have hc23 : insM m2 (L' + 2) (.cell (some (.str p.1))) (L' + 2) = some (.cell (some (.str p.1))) := insM_self ..
    have hl3 : LeM st.mu (insM m2 (L' + 2) (.cell (some (.str p.1)))) := fun b o' hb => by
      rw [insM_other _ _ (ne_fr hb n2)]; exact hl _ _ hb
    dsimp only
    generalize insM m2 (L' + 2) (.cell (some (.str p.1))) = m3 at hm3 hc13 hc23 hl3 ⊢
    refine ev_cell (c := L' + 2) (v := .str p.1) (by rfl) (.inl (by rfl)) (by rfl) hc23 (by kernel_rfl) (by kernel_rfl) ?_
    refine ev_cell (c := L' + 1) (v := .dct (fndV T 0)) (by rfl) (.inl (by rfl)) (by rfl) hc13 (by kernel_rfl) (by kernel_rfl) ?_
    refine in_dctF ?_
    repeat kas_types
    rw [hf, if_pos (by rfl)]
    repeat kas_types
    refine ⟨N, _, rfl, hm3, ?_⟩
    refine ev_ListComp (k := fun D L => do let _ ← call (.builtin "list.append") [.ref D, ← eval _ (compEnvC _ _ L _)]) (fun _ => rfl) (cl := [("name", L' + 2), ("found", L' + 1)]) (by rfl) (by rfl) (by decide +kernel) (by decide +kernel) (fun I D L => by rfl)
      (fun xs q ys st2 => xs = p.2.map V.str ∧ ys = (p.2.take q).map (fun x => ndV (x, t)) ∧ st2.mu = m3) ?_ ?_
    · refine itr_ev ?_
      repeat kas_types
      have hpl : p.2.length ≤ 3 := by
        have := List.mem_of_getElem? hp
        unfold RowS.ps at this
        split at this <;> simp at this
        · rw [this]; exact h1
        · rcases this with e | e <;> (rw [e]; assumption)
      refine ⟨p.2.map V.str, rfl, by rw [List.length_map]; omega, ⟨rfl, rfl, rfl⟩, ?_⟩
      rintro ys st2 ⟨_, rfl, hmu⟩
      refine ⟨st2.mu, LeM.refl _, ?_⟩
      rw [hmu]
      refine ⟨_, _, rfl, hm3, ?_, ?_⟩
      · have := hz2
        rw [hst] at this
        simp at this ⊢
        omega
      repeat kas_types
      refine ⟨rfl, ?_, ?_, ?_, ⟨some (.str p.1), ?_⟩, ?_⟩
      · o_fieldsN
      · dsimp only
        rw [insM_self, hst]
        simp [ndV]
      · dsimp only; rw [insM_other _ _ (Ne.symm n1')]; exact hc13
      · dsimp only; rw [insM_other _ _ (Ne.symm n2')]; exact hc23
      · intro b o' hb
        dsimp only
        rw [insM_other _ _ (ne_fr hb (by cases e : st.mu N with | none => rfl | some o => rw [hle _ _ e] at hN; cases hN))]
        exact hl3 _ _ hb
    · rintro Lc Dc xs q x ys st2 hx ⟨rfl, rfl, hmu⟩
      obtain ⟨l8, m8⟩ := st2
      dsimp only at hmu
      subst hmu
      have hq : q < p.2.length := by
        have h1 := (List.getElem?_eq_some_iff.mp hx).1
        rwa [List.length_map] at h1
      have hpl : p.2.length ≤ 3 := by
        have := List.mem_of_getElem? hp
        unfold RowS.ps at this
        split at this <;> simp at this
        · rw [this]; exact h1
        · rcases this with e | e <;> (rw [e]; assumption)
      obtain ⟨y, hy, rfl⟩ : ∃ y, p.2[q]? = some y ∧ V.str y = x := by simpa using hx
      repeat kas_types
      refine trs_nil ?_
      refine accj_emit (by simp; omega) ?_
      repeat kas_types
      refine ev_cell (c := L' + 1) (v := .dct (fndV T 0)) (by rfl) (.inl (by rfl)) (by rfl) hc13 (by kernel_rfl) (by kernel_rfl) ?_
      refine ev_cell (c := L' + 2) (v := .str p.1) (by rfl) (.inl (by rfl)) (by rfl) hc23 (by kernel_rfl) (by kernel_rfl) ?_
      refine sub_dctF (fun _ _ => rfl) hf ?_
      repeat kas_types
      refine ⟨rfl, ?_, rfl⟩
      rw [List.take_add_one, hy, List.map_append]
      rfl
  · rintro xs st2 ⟨rfl, hn, hm, hc1, ⟨o, hc2⟩, hl⟩
    obtain ⟨l2, m2⟩ := st2
    dsimp only at hn hm hc1 hc2 hl
    repeat kas_types
    have hNf : st.mu N = none := by cases e : st.mu N with | none => rfl | some o => rw [hle _ _ e] at hN; cases hN
    rw [List.length_map, ndsAt_all hk] at hm
    refine ⟨insM st.mu N (.lst ((nds r T).map ndV)), LeM.ins (fun b o hb e => hl _ _ e) hm, _, _, up_lst (insM_self _ _ _), ?_⟩
    dsimp only
    rw [delM_ins hNf]
    exact h
section
variable {C : Cx} {n : Nat} {env : Env} {st : ST}
abbrev blk (Q : AF → ST → Prop) : AF → ST → Prop := Q
theorem ex1.mono {e : Stmt} {Q Q' : AF → ST → Prop} (h : ex1 C n env e st (blk Q)) (hQ : ∀ b st', Q b st' → Q' b st') : ex1 C n env e st Q' := fun fz => (h fz).mono hQ
theorem insM_mid {mu : Mu} {a b : Addr} {x y z : MO} (h : a ≠ b) : insM (insM (insM mu a x) b y) a z = insM (insM mu a z) b y := by
  rw [insM_comm h, insM_insM, insM_comm (Ne.symm h)]
def word : Nat → Str
  | 0 => "no" | 1 => "maybe" | _ => "yes"
def lst2 (l : List Nat) : Nat := l.foldr min 2
def rowMin (r : RowS) (inner : List (Str → Nat)) : Nat := lst2 ((r.ps.zip inner).flatMap fun q => q.1.2.map q.2)
def hitT (T : Ty) (tr : Str) (r : RowS) : Bool := r.tr == tr && decide (kdOf T = some r.kd)
def ansK (rs : List RowS) (k : Kd) (tr : Str) (inner : List (Str → Nat)) : Nat := match rs.filter (fun r => r.tr == tr && decide (some k = some r.kd)) with
  | [] => 0
  | r :: _ => rowMin r inner
def ans (rs : List RowS) (bd : List Str) : Ty → Str → Nat
  | .par => fun tr => if tr ∈ bd then 2 else 0
  | .var => fun _ => 1
  | .u8 => fun tr => ansK rs .u8 tr []
  | .boo => fun tr => ansK rs .boo tr []
  | .box t => fun tr => ansK rs .box tr [ans rs bd t]
  | .pair a b => fun tr => ansK rs .pair tr [ans rs bd a, ans rs bd b]
theorem ans_row {rs : List RowS} {bd : List Str} {T : Ty} {k : Kd} {tr : Str} (h : kdOf T = some k) : ans rs bd T tr = ansK rs k tr ((parts T).map (ans rs bd)) := by
  cases T <;> simp only [kdOf, Option.some.injEq, reduceCtorEq] at h <;> subst h <;> rfl
def rowA (rs : List RowS) (bd : List Str) (r : RowS) (T : Ty) : Nat := lst2 ((nds r T).map fun p => ans rs bd p.2 p.1)
theorem rowA_eq {rs : List RowS} {bd : List Str} {r : RowS} {T : Ty} : rowMin r ((parts T).map (ans rs bd)) = rowA rs bd r T := by
  unfold rowMin rowA
  congr 1
  obtain ⟨_, _, kd, nt, nu⟩ := r
  cases kd <;> cases T <;> simp [nds, RowS.ps, tyPs, parts, Function.comp_def]
theorem lst2_le (l : List Nat) : lst2 l ≤ 2 := by
  unfold lst2
  induction l with
  | nil => exact Nat.le_refl _
  | cons x l ih => rw [List.foldr_cons]; exact Nat.le_trans (Nat.min_le_right _ _) ih
theorem lst2_snoc (l : List Nat) (x : Nat) : lst2 (l ++ [x]) = min x (lst2 l) := by
  unfold lst2
  induction l with
  | nil => rfl
  | cons y l ih => rw [List.cons_append, List.foldr_cons, ih, List.foldr_cons, Nat.min_left_comm]
theorem lst2_app (l l' : List Nat) : lst2 (l ++ l') = min (lst2 l) (lst2 l') := by
  unfold lst2
  induction l with
  | nil => exact (Nat.min_eq_right (lst2_le l')).symm
  | cons y l ih => rw [List.cons_append, List.foldr_cons, ih, List.foldr_cons, Nat.min_assoc]
theorem ans_le (rs : List RowS) (bd : List Str) (T : Ty) (tr : Str) : ans rs bd T tr ≤ 2 := by
  cases hk : kdOf T with
  | none => cases T <;> simp only [kdOf, reduceCtorEq] at hk <;> unfold ans
            · split <;> omega
            · omega
  | some k =>
    rw [ans_row hk]
    unfold ansK
    split
    · omega
    · exact lst2_le _
def rowsV (rs : List RowS) (bd : List Str) (T : Ty) (tr : Str) (l : List RowS) : List V := ((l.filter (hitT T tr)).filter fun r => rowA rs bd r T != 0).map fun r => .tup [.str (word (rowA rs bd r T)), .int r.num, .dct (fndV T 0)]
theorem nodup_same {α β : Type} {f : α → β} {c : β} : ∀ {l : List α}, (l.map f).Nodup → (∀ x ∈ l, f x = c) → l.length ≤ 1
  | [], _, _ => Nat.zero_le _
  | [_], _, _ => Nat.le_refl _
  | x :: y :: l, h, e => by
    simp only [List.map_cons, List.nodup_cons, List.mem_cons, not_or] at h
    exact absurd ((e x (by simp)).trans (e y (by simp)).symm) h.1.1
theorem hit_once {rs : List RowS} (h : RowsOk rs) (T : Ty) (tr : Str) : (rs.filter (hitT T tr)).length ≤ 1 := by
  cases hk : kdOf T with
  | none =>
    have : rs.filter (hitT T tr) = [] := List.filter_eq_nil_iff.mpr fun r _ => by simp [hitT, hk]
    rw [this]; exact Nat.zero_le _
  | some k =>
    refine nodup_same (f := fun r : RowS => (r.tr, r.kd)) (c := (tr, k)) ((List.filter_sublist.map _).nodup h.nd) fun x hx => ?_
    have := (List.mem_filter.mp hx).2
    simp [hitT, hk] at this
    rw [this.1, this.2]
theorem filter_take_le {α : Type} (p : α → Bool) (l : List α) (i : Nat) : ((l.take i).filter p).length ≤ (l.filter p).length :=
  ((List.take_sublist i l).filter p).length_le
def cst : Nat → Nat
  | 0 => 1
  | h + 1 => 6 * cst h + 1
theorem cst_mono : ∀ {a b : Nat}, a ≤ b → cst a ≤ cst b := by
  intro a b h
  induction h with
  | refl => exact Nat.le_refl _
  | step _ ih => simp only [cst]; omega
theorem hgt_part {T t : Ty} (h : t ∈ parts T) : ∃ k, hgt T = k + 1 ∧ hgt t ≤ k := by
  cases T <;> simp [parts, tyPs] at h
  · subst h; exact ⟨_, rfl, Nat.le_refl _⟩
  · rcases h with rfl | rfl
    · exact ⟨_, rfl, Nat.le_max_left _ _⟩
    · exact ⟨_, rfl, Nat.le_max_right _ _⟩
theorem nds_mem {r : RowS} {T : Ty} {p : Str × Ty} (h : p ∈ nds r T) : p.2 ∈ parts T ∧ (p.1 ∈ r.nt ∨ p.1 ∈ r.nu) := by
  obtain ⟨_, _, kd, nt, nu⟩ := r
  obtain ⟨s, t⟩ := p
  cases kd <;> cases T <;> simp [nds, RowS.ps, tyPs, parts] at h ⊢
  · obtain ⟨_, h, rfl, rfl⟩ := h; exact ⟨rfl, .inl h⟩
  · obtain ⟨_, h, rfl, rfl⟩ := h; exact ⟨.inl rfl, .inl h⟩
  · obtain ⟨_, h, rfl, rfl⟩ := h; exact ⟨rfl, .inl h⟩
  · rcases h with ⟨_, h, rfl, rfl⟩ | ⟨_, h, rfl, rfl⟩
    · exact ⟨.inl rfl, .inl h⟩
    · exact ⟨.inr rfl, .inr h⟩
structure KnOk (rs : List RowS) (bd : List Str) (m : List (Key × V)) : Prop where
  ok : ∀ p ∈ m, okKey p.1 ∧ p.2 = .str (word (ans rs bd p.1.2 p.1.1))
  nd : (m.map (·.1)).Nodup
/-- what asked answers, for one type -/
def Asked (C : Cx) (n : Nat) (ds K0 : Addr) (BL W : List (Str × V)) (rs : List RowS) (bd : List Str) (T : Ty) (deep : Int) : Prop :=
  ∀ (env : Env) (st : ST) (m : List (Key × V)) (tr : Str) (Q : V → ST → Prop), tr ∈ abc → st.mu ds = some (.ns (selL K0 BL W)) → st.mu K0 = some (.tdct (encT m)) → KnOk rs bd m → m.length + cst (hgt T) ≤ 900 →
    (∀ m', KnOk rs bd m' → m'.length ≤ m.length + cst (hgt T) → Q (.str (word (ans rs bd T tr))) ⟨st.loc, insM st.mu K0 (.tdct (encT m'))⟩) → clc C n env (.val (.ref 141)) [.obj 149 ds, .str tr, .tup [], tyV T, .int deep] st Q
end
theorem word_no {a : Nat} (h : a ≤ 2) : (word a == Str.ofString "no") = decide (a = 0) := by
  obtain rfl | rfl | rfl : a = 0 ∨ a = 1 ∨ a = 2 := by omega
  all_goals decide +kernel
theorem word_may {a : Nat} (h : a ≤ 2) : (word a == Str.ofString "maybe") = decide (a = 1) := by
  obtain rfl | rfl | rfl : a = 0 ∨ a = 1 ∨ a = 2 := by omega
  all_goals decide +kernel
theorem word_yes {a : Nat} (h : a ≤ 2) : (word a == Str.ofString "yes") = decide (a = 2) := by
  obtain rfl | rfl | rfl : a = 0 ∨ a = 1 ∨ a = 2 := by omega
  all_goals decide +kernel
theorem rows_snoc {rs : List RowS} {bd : List Str} {T : Ty} {tr : Str} {l : List RowS} {i : Nat} {r : RowS} (h : rs[i]? = some r) :
    rowsV rs bd T tr (rs.take (i + 1)) = rowsV rs bd T tr (rs.take i) ++ (if hitT T tr r = true ∧ rowA rs bd r T ≠ 0 then [V.tup [.str (word (rowA rs bd r T)), .int r.num, .dct (fndV T 0)]] else []) := by
  unfold rowsV
  rw [List.take_add_one, h, List.filter_append, List.filter_append, List.map_append]
  congr 1
  by_cases h1 : hitT T tr r = true
  · by_cases h2 : rowA rs bd r T = 0
    · simp [h1, h2]
    · simp [h1, h2]
  · simp [h1]
theorem sm_needs_of (hK : C.K = KK C.w.params) : plainGet C.K 149 (Str.ofString "needs_of") = true ∧ findIn C.K (.ref 149) (Str.ofString "needs_of") = some (some (.ref 127)) ∧ isFn C.K (.ref 127) = true ∧ keepIn C.K (.ref 127) = true := by
  rw [hK]; exact ⟨by kernel_rfl, by kernel_rfl, by kernel_rfl, by kernel_rfl⟩
theorem sm_asked (hK : C.K = KK C.w.params) : plainGet C.K 149 (Str.ofString "asked") = true ∧ findIn C.K (.ref 149) (Str.ofString "asked") = some (some (.ref 141)) ∧ isFn C.K (.ref 141) = true ∧ keepIn C.K (.ref 141) = true := by
  rw [hK]; exact ⟨by kernel_rfl, by kernel_rfl, by kernel_rfl, by kernel_rfl⟩
theorem sm_answer_of (hK : C.K = KK C.w.params) : plainGet C.K 149 (Str.ofString "answer_of") = true ∧ findIn C.K (.ref 149) (Str.ofString "answer_of") = some (some (.ref 146)) ∧ isFn C.K (.ref 146) = true ∧ keepIn C.K (.ref 146) = true := by
  rw [hK]; exact ⟨by kernel_rfl, by kernel_rfl, by kernel_rfl, by kernel_rfl⟩
theorem sm_candidates (hK : C.K = KK C.w.params) : plainGet C.K 149 (Str.ofString "candidates") = true ∧ findIn C.K (.ref 149) (Str.ofString "candidates") = some (some (.ref 134)) ∧ isFn C.K (.ref 134) = true ∧ keepIn C.K (.ref 134) = true := by
  rw [hK]; exact ⟨by kernel_rfl, by kernel_rfl, by kernel_rfl, by kernel_rfl⟩
theorem sm_bound_of (hK : C.K = KK C.w.params) : plainGet C.K 149 (Str.ofString "bound_of") = true ∧ findIn C.K (.ref 149) (Str.ofString "bound_of") = some (some (.ref 122)) ∧ isFn C.K (.ref 122) = true ∧ keepIn C.K (.ref 122) = true := by
  rw [hK]; exact ⟨by kernel_rfl, by kernel_rfl, by kernel_rfl, by kernel_rfl⟩
theorem cand_c (hK : C.K = KK C.w.params) {ds K0 : Addr} {BL W : List (Str × V)} {rs : List RowS} {bd : List Str} {T : Ty} {deep : Int} {m : List (Key × V)} {tr : Str} {Q : V → ST → Prop} (hW : List.lookup ("impls" : Str) W = some (.lst (rs.map rowS))) (hrs : RowsOk rs) (hT : T ≠ .var)
    (rec : ∀ t ∈ parts T, Asked C n ds K0 BL W rs bd t (deep + 1)) (htr : tr ∈ abc) (hd : st.mu ds = some (.ns (selL K0 BL W))) (hk : st.mu K0 = some (.tdct (encT m))) (hm : KnOk rs bd m) (hl : m.length + cst (hgt T) ≤ 901)
    (h : ∀ m', KnOk rs bd m' → m'.length + 1 ≤ m.length + cst (hgt T) → Q (.lst (rowsV rs bd T tr rs)) ⟨st.loc, insM st.mu K0 (.tdct (encT m'))⟩) : clc C (n + 5) env (.val (.ref 134)) [.obj 149 ds, .str tr, .tup [], tyV T, .int deep] st Q := by
  refine clc_post (clc_dk (f := 134) [("self", .obj 149 ds), ("trait", .str tr), ("args", .tup []), ("T", tyV T), ("deep", .int deep)] [("deep", .int deep), ("T", tyV T), ("args", .tup []), ("trait", .str tr), ("self", .obj 149 ds)] (by rw [hK]; rfl) (by rw [hK]; kernel_rfl) (binds5 fun _ _ _ _ _ => rfl) (by kernel_rfl) (by kernel_rfl) (by kernel_rfl) (by kernel_rfl) (by kernel_rfl) rfl fun L' => ?_)
  have cpos : 1 ≤ cst (hgt T) := by cases hgt T <;> simp [cst]
  have dK : ds ≠ K0 := ne_mu hd hk (by simp)
  refine ex_cons ?_
  refine ex1_AssignName (by kernel_rfl) ?_
  refine ev_ListM ?_
  refine evl_nil ⟨Nat.zero_le _, fun R hR => ?_⟩
  have hR : st.mu R = none := hR
  have dR : ds ≠ R := ne_fr hd hR
  have KR : K0 ≠ R := ne_fr hk hR
  repeat kas_types
  refine ex1_For (fun xs i st2 => xs = rs.map rowS ∧ List.lookup ("self" : Str) st2.loc = some (.obj 149 ds) ∧ List.lookup ("trait" : Str) st2.loc = some (.str tr) ∧ List.lookup ("args" : Str) st2.loc = some (.tup []) ∧ List.lookup ("T" : Str) st2.loc = some (tyV T) ∧ List.lookup ("deep" : Str) st2.loc = some (.int deep) ∧ List.lookup ("rows" : Str) st2.loc = some (.val (.ref R)) ∧
    ∃ m', KnOk rs bd m' ∧ m'.length ≤ m.length + ((rs.take i).filter (hitT T tr)).length * (cst (hgt T) - 1) ∧ st2.mu = insM (insM st.mu K0 (.tdct (encT m'))) R (.lst (rowsV rs bd T tr (rs.take i)))) (fun _ => rfl) ?_ ?_ ?_
  · refine itr_ev ?_
    refine ev_AttrI (fun _ => rfl) ?_
    refine ev_AttrO (fun _ => rfl) ?_
    repeat kas_types
    refine ⟨_, ds, _, .ins 221 W, rfl, by dsimp only; rw [insM_other _ _ dR]; exact hd, ao_sel_world hK, rfl, rfl, ?_⟩
    refine ⟨_, _, _, rfl, ao_wor_impls hK, hW, rfl, ?_⟩
    refine ⟨_, rfl, by rw [List.length_map]; have := hrs.len; omega, rfl, ?_, ?_, ?_, ?_, ?_, ?_, m, hm, by simp, ?_⟩
    · o_fieldsN
    · o_fieldsN
    · o_fieldsN
    · o_fieldsN
    · o_fieldsN
    · o_fieldsN
    · dsimp only
      congr 1
      funext b
      by_cases q : b = K0
      · subst q; rw [insM_self]; exact hk
      · rw [insM_other _ _ q]
  · rintro xs i x st2 hx ⟨rfl, hs1, hs2, hs3, hs4, hs5, hs6, m', hm', hl', hmu⟩
    obtain ⟨l2, m2⟩ := st2
    dsimp only at hs1 hs2 hs3 hs4 hs5 hs6 hmu
    subst hmu
    obtain ⟨r, hr, rfl⟩ : ∃ r, rs[i]? = some r ∧ rowS r = x := by simpa using hx
    have rok := hrs.ok r (List.mem_of_getElem? hr)
    have hsn := rows_snoc (l := rs) (bd := bd) (T := T) (tr := tr) hr
    have hmr : ∀ {b : Addr} {o : MO}, insM (insM st.mu K0 (.tdct (encT m'))) R (.lst (rowsV rs bd T tr (rs.take i))) R = some (.lst (rowsV rs bd T tr (rs.take i))) := insM_self ..
    refine asg_Name (sto_loc (by kernel_rfl) (by kernel_rfl) ?_)
    repeat kas_types
    refine ev_AttrI (fun _ => rfl) ?_
    repeat kas_types
    refine ⟨_, _, .str r.tr, rfl, ao_row_trait hK, rfl, rfl, ?_⟩
    repeat kas_types
    by_cases htq : r.tr = tr
    · rw [if_pos (by simpa using htq)]
      repeat kas_types
      refine ev_call2 (mimpl_c hK hT ?_) (Nat.le_refl _)
      by_cases hkd : kdOf T = some r.kd
      · have ew : mword r T = Str.ofString "yes" := if_pos hkd
        have ef : mfound r T = fndV T 0 := if_pos hkd
        rw [ew, ef]
        have hit : hitT T tr r = true := by simp [hitT, htq, hkd]
        have hF : (rs.take i).filter (hitT T tr) = [] ∧ ((rs.take (i + 1)).filter (hitT T tr)).length = 1 := by
          have h1 := Nat.le_trans (filter_take_le (hitT T tr) rs (i + 1)) (hit_once hrs T tr)
          rw [List.take_add_one, hr, List.filter_append] at h1 ⊢
          simp [hit] at h1 ⊢
          exact h1
        rw [hF.1] at hl'
        have hl0 : m'.length ≤ m.length := by simpa using hl'
        have nl : (nds r T).length ≤ 6 := by rw [← ndsAt_all hkd]; exact ndsAt_len r T rok.2.1.2 rok.2.2.2 _
        repeat kas_types
        refine ex1.mono (Q := fun f st3 => f = .next ∧ List.lookup ("self" : Str) st3.loc = some (.obj 149 ds) ∧ List.lookup ("trait" : Str) st3.loc = some (.str tr) ∧ List.lookup ("args" : Str) st3.loc = some (.tup []) ∧ List.lookup ("T" : Str) st3.loc = some (tyV T) ∧ List.lookup ("deep" : Str) st3.loc = some (.int deep) ∧ List.lookup ("rows" : Str) st3.loc = some (.val (.ref R)) ∧ List.lookup ("impl" : Str) st3.loc = some (rowS r) ∧ List.lookup ("found" : Str) st3.loc = some (.dct (fndV T 0)) ∧ List.lookup ("answer" : Str) st3.loc = some (.str (word (rowA rs bd r T))) ∧
          ∃ m3, KnOk rs bd m3 ∧ m3.length + 1 ≤ m.length + cst (hgt T) ∧ st3.mu = insM (insM st.mu K0 (.tdct (encT m3))) R (.lst (rowsV rs bd T tr (rs.take i)))) ?_ ?_
        · refine ex1_For (fun xs j st3 => xs = (nds r T).map (fun p => V.tup [.str p.1, tyV p.2]) ∧ List.lookup ("self" : Str) st3.loc = some (.obj 149 ds) ∧ List.lookup ("trait" : Str) st3.loc = some (.str tr) ∧ List.lookup ("args" : Str) st3.loc = some (.tup []) ∧ List.lookup ("T" : Str) st3.loc = some (tyV T) ∧ List.lookup ("deep" : Str) st3.loc = some (.int deep) ∧ List.lookup ("rows" : Str) st3.loc = some (.val (.ref R)) ∧ List.lookup ("impl" : Str) st3.loc = some (rowS r) ∧ List.lookup ("found" : Str) st3.loc = some (.dct (fndV T 0)) ∧
            List.lookup ("answer" : Str) st3.loc = some (.str (word (lst2 (((nds r T).take j).map fun p => ans rs bd p.2 p.1)))) ∧ lst2 (((nds r T).take j).map fun p => ans rs bd p.2 p.1) ≠ 0 ∧
            ∃ m3, KnOk rs bd m3 ∧ m3.length ≤ m.length + j * cst (hgt T - 1) ∧ st3.mu = insM (insM st.mu K0 (.tdct (encT m3))) R (.lst (rowsV rs bd T tr (rs.take i)))) (fun _ => rfl) ?_ ?_ ?_
          · refine itr_ev ?_
            repeat kas_types
            refine ⟨149, ds, _, 127, rfl, by dsimp only; rw [insM_other _ _ dR, insM_other _ _ dK]; exact hd, (sm_needs_of hK).1, (sm_needs_of hK).2.1, (sm_needs_of hK).2.2.1, (sm_needs_of hK).2.2.2, by kernel_rfl, ?_⟩
            repeat kas_types
            refine ev_call2 (needs_of_c hK hkd rok.2.1.2 rok.2.2.2 ?_) (by omega : 1 ≤ n + 4)
            refine ⟨_, rfl, by rw [List.length_map]; omega, rfl, ?_, ?_, ?_, ?_, ?_, ?_, ?_, ?_, ?_, ?_, m', hm', by omega, rfl⟩
            all_goals first | o_fieldsN | (show List.lookup _ _ = some (V.str (Str.ofString "yes")); o_fieldsN) | exact Nat.succ_ne_zero 1
          · rintro xs j x st3 hx ⟨rfl, hs1, hs2, hs3, hs4, hs5, hs6, hs7, hs8, hs9, hne, m3, hm3, hl3, hmu⟩
            obtain ⟨l3, mu3⟩ := st3
            dsimp only at hs1 hs2 hs3 hs4 hs5 hs6 hs7 hs8 hs9 hmu
            subst hmu
            obtain ⟨p, hp, rfl⟩ : ∃ p, (nds r T)[j]? = some p ∧ V.tup [.str p.1, tyV p.2] = x := by simpa using hx
            obtain ⟨hpp, hpn⟩ := nds_mem (List.mem_of_getElem? hp)
            obtain ⟨hh, eh, hth⟩ := hgt_part hpp
            have hj : j < (nds r T).length := (List.getElem?_eq_some_iff.mp hp).1
            have hcm := cst_mono hth
            have ec : cst (hgt T) = 6 * cst hh + 1 := by rw [eh]; rfl
            have eh1 : hgt T - 1 = hh := by rw [eh]; rfl
            rw [eh1] at hl3
            have hj6 : (j + 1) * cst hh ≤ 6 * cst hh := Nat.mul_le_mul_right _ (by omega)
            have hj1 : (j + 1) * cst hh = j * cst hh + cst hh := Nat.succ_mul _ _
            have hla := ans_le rs bd p.2 p.1
            have hlc := lst2_le (((nds r T).take j).map fun p => ans rs bd p.2 p.1)
            have hst : ((nds r T).take (j + 1)).map (fun p => ans rs bd p.2 p.1) = ((nds r T).take j).map (fun p => ans rs bd p.2 p.1) ++ [ans rs bd p.2 p.1] := by rw [List.take_add_one, hp, List.map_append]; rfl
            have hall : rowA rs bd r T ≤ lst2 (((nds r T).take (j + 1)).map fun p => ans rs bd p.2 p.1) := by
              unfold rowA
              conv => lhs; rw [← List.take_append_drop (j + 1) (nds r T), List.map_append, lst2_app]
              exact Nat.min_le_left _ _
            have hst2 := congrArg lst2 hst
            rw [lst2_snoc] at hst2
            rw [hst2] at hall
            generalize lst2 (((nds r T).take j).map fun p => ans rs bd p.2 p.1) = cur at hs9 hne hlc hall hst2
            repeat kas_types
            refine ⟨149, ds, _, 141, rfl, by dsimp only; rw [insM_other _ _ dR, insM_other _ _ dK]; exact hd, (sm_asked hK).1, (sm_asked hK).2.1, (sm_asked hK).2.2.1, (sm_asked hK).2.2.2, by kernel_rfl, ?_⟩
            repeat kas_types
            refine ev_call2 (rec p.2 hpp _ _ m3 p.1 _ ?_ ?_ ?_ hm3 ?_ fun m4 hm4 hl4 => ?_) (by omega : n ≤ n + 4)
            · rcases hpn with hpn | hpn
              · exact rok.2.1.1 _ hpn
              · exact rok.2.2.1 _ hpn
            · dsimp only; rw [insM_other _ _ dR, insM_other _ _ dK]; exact hd
            · dsimp only; rw [insM_other _ _ KR, insM_self]
            · omega
            dsimp only
            rw [insM_mid KR]
            refine sto_loc (by kernel_rfl) (by kernel_rfl) ?_
            refine ex_cons ?_
            generalize ans rs bd p.2 p.1 = a at hla hall hst2 ⊢
            refine ex1.mono (Q := fun f st4 => f = .next ∧ st4 = ⟨(Str.ofString "answer", .str (word (min a cur))) :: (Str.ofString "told", .str (word a)) :: (Str.ofString "part", tyV p.2) :: (Str.ofString "other", .str p.1) :: l3, insM (insM st.mu K0 (.tdct (encT m4))) R (.lst (rowsV rs bd T tr (rs.take i)))⟩) ?_ ?_
            · repeat kas_types
              rw [word_no hla]
              by_cases a0 : a = 0
              · rw [if_pos (by simpa using a0)]
                repeat kas_types
                subst a0
                rw [Nat.zero_min]
                exact ⟨rfl, rfl⟩
              rw [if_neg (by simpa using a0)]
              repeat kas_types
              rw [word_may hla]
              by_cases a1 : a = 1
              · rw [if_pos (by simpa using a1)]
                repeat kas_types
                rw [word_yes hlc]
                by_cases c2 : cur = 2
                · rw [if_pos (by simpa using c2)]
                  repeat kas_types
                  subst a1 c2
                  exact ⟨rfl, rfl⟩
                · rw [if_neg (by simpa using c2)]
                  repeat kas_types
                  have : min a cur = cur := by omega
                  rw [this]
                  exact ⟨rfl, rfl⟩
              · rw [if_neg (by simpa using a1)]
                repeat kas_types
                have : min a cur = cur := by omega
                rw [this]
                exact ⟨rfl, rfl⟩
            · rintro _ _ ⟨rfl, rfl⟩
              repeat kas_types
              rw [word_no (by omega)]
              by_cases hz : min a cur = 0
              · rw [if_pos (by simpa using hz)]
                repeat kas_types
                have hA : rowA rs bd r T = min a cur := by omega
                refine ⟨rfl, ?_, ?_, ?_, ?_, ?_, ?_, ?_, ?_, ?_, m4, hm4, by omega, rfl⟩
                all_goals first | o_fieldsN | (rw [hA]; o_fieldsN)
              · rw [if_neg (by simpa using hz)]
                repeat kas_types
                refine ⟨rfl, ?_, ?_, ?_, ?_, ?_, ?_, ?_, ?_, ?_, by rw [hst2]; exact hz, m4, hm4, by rw [eh1]; omega, rfl⟩
                all_goals first | o_fieldsN | (rw [hst2]; o_fieldsN)
          · rintro xs st3 ⟨rfl, hs1, hs2, hs3, hs4, hs5, hs6, hs7, hs8, hs9, hne, m3, hm3, hl3, hmu⟩
            rw [List.length_map, List.take_length] at hs9
            refine ⟨rfl, hs1, hs2, hs3, hs4, hs5, hs6, hs7, hs8, hs9, m3, hm3, ?_, hmu⟩
            rw [List.length_map] at hl3
            cases hh : hgt T with
            | zero =>
              have : nds r T = [] := by
                cases e : nds r T with
                | nil => rfl
                | cons p l =>
                  obtain ⟨h1, _⟩ := nds_mem (r := r) (T := T) (p := p) (by rw [e]; exact .head _)
                  obtain ⟨_, h2, _⟩ := hgt_part h1
                  omega
              rw [this] at hl3
              simp [cst] at hl3 ⊢
              omega
            | succ k =>
              rw [hh] at hl3
              have : (nds r T).length * cst k ≤ 6 * cst k := Nat.mul_le_mul_right _ nl
              simp [cst] at hl3 ⊢
              omega
        · rintro _ st3 ⟨rfl, hs1, hs2, hs3, hs4, hs5, hs6, hs7, hs8, hs9, m3, hm3, hl3, hmu⟩
          obtain ⟨l3, mu3⟩ := st3
          dsimp only at hs1 hs2 hs3 hs4 hs5 hs6 hs7 hs8 hs9 hmu
          subst hmu
          have hz : rowA rs bd r T ≤ 2 := lst2_le _
          repeat kas_types
          have hF2 := hF.2
          by_cases h0 : rowA rs bd r T = 0
          · rw [if_neg (by rw [bne, word_no hz]; simp [h0])]
            rw [if_neg (by simp [h0])] at hsn
            repeat kas_types
            refine ⟨rfl, ?_, ?_, ?_, ?_, ?_, ?_, m3, hm3, ?_, ?_⟩
            all_goals first | o_fieldsN | skip
            · rw [hF2]; omega
            · rw [hsn, List.append_nil]
          · rw [if_pos (by rw [bne, word_no hz]; simp [h0])]
            rw [if_pos ⟨hit, h0⟩] at hsn
            repeat kas_types
            refine ⟨R, _, rfl, insM_self .., ?_⟩
            repeat kas_types
            refine ev_AttrI (fun _ => rfl) ?_
            repeat kas_types
            refine ⟨_, _, .int r.num, rfl, ao_row_number hK, rfl, rfl, ?_⟩
            repeat kas_types
            refine ⟨_, insM_self .., ?_, ?_⟩
            · unfold rowsV
              rw [List.length_map]
              have h1 := List.length_filter_le (fun r => rowA rs bd r T != 0) ((rs.take i).filter (hitT T tr))
              have h2 := Nat.le_trans (filter_take_le (hitT T tr) rs i) (hit_once hrs T tr)
              omega
            dsimp only
            rw [insM_insM, ← hsn]
            repeat kas_types
            refine ⟨rfl, ?_, ?_, ?_, ?_, ?_, ?_, m3, hm3, ?_, rfl⟩
            all_goals first | o_fieldsN | skip
            · rw [hF2]; omega
      · have ew : mword r T = Str.ofString "no" := if_neg hkd
        have ef : mfound r T = [] := if_neg hkd
        rw [ew, ef]
        have hno : hitT T tr r = false := by simp [hitT, hkd]
        rw [if_neg (by simp [hno])] at hsn
        repeat kas_types
        refine ex1.mono (Q := fun f st3 => f = .next ∧ st3 = ⟨(Str.ofString "found", .dct []) :: (Str.ofString "answer", .str "no") :: (Str.ofString "impl", rowS r) :: l2, insM (insM st.mu K0 (.tdct (encT m'))) R (.lst (rowsV rs bd T tr (rs.take i)))⟩) ?_ ?_
        · refine ex1_For (fun xs j st3 => xs = [] ∧ st3 = ⟨(Str.ofString "found", .dct []) :: (Str.ofString "answer", .str "no") :: (Str.ofString "impl", rowS r) :: l2, insM (insM st.mu K0 (.tdct (encT m'))) R (.lst (rowsV rs bd T tr (rs.take i)))⟩) (fun _ => rfl) ?_ ?_ ?_
          · refine itr_ev ?_
            repeat kas_types
            exact ⟨[], rfl, Nat.zero_le _, rfl, rfl⟩
          · rintro xs j x st3 hx ⟨rfl, _⟩
            simp at hx
          · rintro xs st3 ⟨rfl, rfl⟩
            exact ⟨rfl, rfl⟩
        · rintro _ _ ⟨rfl, rfl⟩
          repeat kas_types
          refine ⟨rfl, ?_, ?_, ?_, ?_, ?_, ?_, m', hm', ?_, ?_⟩
          all_goals first | o_fieldsN | skip
          · rw [List.take_add_one, hr, List.filter_append]; simp [hno]; exact hl'
          · rw [hsn, List.append_nil]
    · rw [if_neg (by simpa using htq)]
      have hno : hitT T tr r = false := by simp [hitT, htq]
      rw [if_neg (by simp [hno])] at hsn
      repeat kas_types
      refine ⟨rfl, ?_, ?_, ?_, ?_, ?_, ?_, m', hm', ?_, ?_⟩
      · o_fieldsN
      · o_fieldsN
      · o_fieldsN
      · o_fieldsN
      · o_fieldsN
      · o_fieldsN
      · rw [List.take_add_one, hr, List.filter_append]; simp [hno]; exact hl'
      · rw [hsn, List.append_nil]
  · rintro xs st2 ⟨rfl, hs1, hs2, hs3, hs4, hs5, hs6, m', hm', hl', hmu⟩
    obtain ⟨l2, m2⟩ := st2
    dsimp only at hs6 hmu
    subst hmu
    repeat kas_types
    have ho := hit_once hrs T tr
    rw [List.length_map, List.take_length] at hl'
    refine ⟨insM (insM st.mu K0 (.tdct (encT m'))) R (.lst (rowsV rs bd T tr rs)), ?_, _, _, up_lst (insM_self _ _ _), ?_⟩
    · rw [List.length_map, List.take_length]; exact LeM.refl _
    · dsimp only
      rw [delM_ins (by rw [insM_other _ _ (Ne.symm KR)]; exact hR)]
      refine h m' hm' ?_
      have : ((rs.filter (hitT T tr)).length) * (cst (hgt T) - 1) ≤ 1 * (cst (hgt T) - 1) := Nat.mul_le_mul_right _ ho
      omega
theorem insM_same {mu : Mu} {a : Addr} {o : MO} (h : mu a = some o) : insM mu a o = mu := by
  funext b
  by_cases q : b = a
  · subst q; rw [insM_self]; exact h.symm
  · rw [insM_other _ _ q]
theorem g_MOST_DEEP (hK : C.K = KK C.w.params) : nsIn C.K mainGlobals (Str.ofString "MOST_DEEP") = some (some (.int 60 304)) := by rw [hK]; kernel_rfl
theorem ev_MOST_DEEP (hK : C.K = KK C.w.params) {pos : Pos} {Q : V → ST → Prop} (hk : env.scope.kind = .function) (hx : env.kindOf (Str.ofString "MOST_DEEP") = some .globalImplicit) (hg : env.globals = mainGlobals) (h : Q (.int 60) st) : ev C n env (.Name (Str.ofString "MOST_DEEP") pos) st Q :=
  ev_post (ev_g (g_MOST_DEEP hK) hk hx hg (by kernel_rfl) ⟨_, _, fun fz kp v s rv r => by cases rv; exact ⟨fz, Le.refl _, .int _ _, r⟩, h⟩)
theorem rows_cases {rs : List RowS} {bd : List Str} {T : Ty} {tr : Str} (hrs : RowsOk rs) (hT : T ≠ .var) (hp : ¬ (T = .par ∧ tr ∈ bd)) :
    (rowsV rs bd T tr rs = [] ∧ ans rs bd T tr = 0) ∨ ∃ r, rowsV rs bd T tr rs = [.tup [.str (word (ans rs bd T tr)), .int r.num, .dct (fndV T 0)]] ∧ ans rs bd T tr ≠ 0 ∧ r ∈ rs ∧ hitT T tr r = true := by
  have ho := hit_once hrs T tr
  cases hk : kdOf T with
  | none =>
    have e : rs.filter (hitT T tr) = [] := List.filter_eq_nil_iff.mpr fun r _ => by simp [hitT, hk]
    refine .inl ⟨by unfold rowsV; rw [e]; rfl, ?_⟩
    cases T <;> simp only [kdOf, reduceCtorEq] at hk
    · unfold ans; rw [if_neg fun h => hp ⟨rfl, h⟩]
    · exact absurd rfl hT
  | some k =>
    have ef : (fun r : RowS => r.tr == tr && decide (some k = some r.kd)) = hitT T tr := by funext r; unfold hitT; rw [hk]
    have ea := ans_row (rs := rs) (bd := bd) (tr := tr) hk
    unfold ansK at ea
    rw [ef] at ea
    generalize hl : rs.filter (hitT T tr) = l at ho ea
    match l, ho with
    | [], _ => exact .inl ⟨by unfold rowsV; rw [hl]; rfl, ea⟩
    | [r], _ =>
      dsimp only at ea
      rw [rowA_eq] at ea
      have hm : r ∈ rs.filter (hitT T tr) := by rw [hl]; exact .head _
      rw [List.mem_filter] at hm
      by_cases h0 : rowA rs bd r T = 0
      · exact .inl ⟨by unfold rowsV; rw [hl]; simp [h0], by rw [ea]; exact h0⟩
      · refine .inr ⟨r, ?_, by rw [ea]; exact h0, hm.1, hm.2⟩
        unfold rowsV
        rw [hl, ea]
        simp [h0]
theorem ansof_c (hK : C.K = KK C.w.params) {ds K0 : Addr} {BL W : List (Str × V)} {rs : List RowS} {bd : List Str} {T : Ty} {deep : Int} {m : List (Key × V)} {tr : Str} {Q : V → ST → Prop} (hW : List.lookup ("impls" : Str) W = some (.lst (rs.map rowS))) (hB : BOk BL bd) (hrs : RowsOk rs)
    (rec : ∀ t ∈ parts T, Asked C n ds K0 BL W rs bd t (deep + 1)) (htr : tr ∈ abc) (hd : st.mu ds = some (.ns (selL K0 BL W))) (hk : st.mu K0 = some (.tdct (encT m))) (hm : KnOk rs bd m) (hl : m.length + cst (hgt T) ≤ 901)
    (h : ∀ m', KnOk rs bd m' → m'.length + 1 ≤ m.length + cst (hgt T) → Q (.str (word (ans rs bd T tr))) ⟨st.loc, insM st.mu K0 (.tdct (encT m'))⟩) : clc C (n + 6) env (.val (.ref 146)) [.obj 149 ds, .str tr, .tup [], tyV T, .int deep] st Q := by
  refine clc_dkC (f := 146) [("self", .obj 149 ds), ("trait", .str tr), ("args", .tup []), ("T", tyV T), ("deep", .int deep)] [("args", .tup []), ("T", tyV T)] ["self", "trait", "args", "T", "deep"] (by rw [hK]; rfl) (by rw [hK]; kernel_rfl) (binds5 fun _ _ _ _ _ => rfl) rfl (by kernel_rfl) (by decide +kernel) (by decide +kernel) (by decide +kernel) (by kernel_rfl) (by kernel_rfl) (by kernel_rfl) (by rfl) fun L' mu' hcell hle => ?_
  obtain ⟨c1, n1⟩ := hcell "self" (L' + 1) (by rfl)
  obtain ⟨c2, n2⟩ := hcell "trait" (L' + 2) (by rfl)
  obtain ⟨c3, n3⟩ := hcell "deep" (L' + 3) (by rfl)
  have e1 : List.lookup (Str.ofString "self") [(Str.ofString "self", V.obj 149 ds), (Str.ofString "trait", V.str tr), (Str.ofString "args", V.tup []), (Str.ofString "T", tyV T), (Str.ofString "deep", V.int deep)] = some (V.obj 149 ds) := by with_unfolding_all exact rfl
  have e2 : List.lookup (Str.ofString "trait") [(Str.ofString "self", V.obj 149 ds), (Str.ofString "trait", V.str tr), (Str.ofString "args", V.tup []), (Str.ofString "T", tyV T), (Str.ofString "deep", V.int deep)] = some (V.str tr) := by with_unfolding_all exact rfl
  have e3 : List.lookup (Str.ofString "deep") [(Str.ofString "self", V.obj 149 ds), (Str.ofString "trait", V.str tr), (Str.ofString "args", V.tup []), (Str.ofString "T", tyV T), (Str.ofString "deep", V.int deep)] = some (V.int deep) := by with_unfolding_all exact rfl
  rw [e1] at c1
  rw [e2] at c2
  rw [e3] at c3
  have cpos : 1 ≤ cst (hgt T) := by cases hgt T <;> simp [cst]
  have same : ∀ {v : V}, v = .str (word (ans rs bd T tr)) → ∃ mu1, LeM mu1 mu' ∧ Q v ⟨st.loc, mu1⟩ := fun e => ⟨st.mu, hle, by
    have := h m hm (by omega)
    rw [insM_same hk] at this
    rw [e]; exact this⟩
  have hd' := hle _ _ hd
  have hk' := hle _ _ hk
  refine ex_cons ?_
  repeat kas_types
  refine ev_cell (c := L' + 1) (v := .obj 149 ds) (by rfl) (.inl (by rfl)) (by rfl) c1 (by kernel_rfl) (by kernel_rfl) ?_
  refine ⟨149, ds, _, 122, rfl, hd', (sm_bound_of hK).1, (sm_bound_of hK).2.1, (sm_bound_of hK).2.2.1, (sm_bound_of hK).2.2.2, by kernel_rfl, ?_⟩
  repeat kas_types
  refine ev_cell (c := L' + 2) (v := .str tr) (by rfl) (.inl (by rfl)) (by rfl) c2 (by kernel_rfl) (by kernel_rfl) ?_
  repeat kas_types
  refine ev_call2 (bound_c hK hd' hB ?_) (by omega : 1 ≤ n + 5)
  repeat kas_types
  refine cmp_isnot ?_
  refine tru_bool ?_
  by_cases hp : T = .par ∧ tr ∈ bd
  · rw [if_pos hp, if_pos (by rfl)]
    repeat kas_types
    refine same ?_
    obtain ⟨rfl, hp⟩ := hp
    unfold ans
    rw [if_pos hp]
    rfl
  rw [if_neg hp, if_neg (by simp [isNone])]
  repeat kas_types
  refine sub_tag (fun _ _ => rfl) ?_
  repeat kas_types
  by_cases hT : T = .var
  · rw [if_pos (by subst hT; simp only [tyTag]; decide +kernel)]
    repeat kas_types
    refine same ?_
    subst hT
    rfl
  rw [if_neg (by cases T <;> first | exact absurd rfl hT | (simp only [tyTag]; decide +kernel))]
  repeat kas_types
  refine ev_cell (c := L' + 2) (v := .str tr) (by rfl) (.inl (by rfl)) (by rfl) c2 (by kernel_rfl) (by kernel_rfl) ?_
  refine ev_COPY hK (by kernel_rfl) (by kernel_rfl) (by kernel_rfl) ?_
  repeat kas_types
  rw [if_neg (by
    have : ∀ t ∈ abc, (t == Str.ofString "Copy") = false := by decide +kernel
    rw [this _ htr]; decide)]
  repeat kas_types
  refine cmp_isnot ?_
  refine tru_bool ?_
  rw [if_neg (by simp [isNone])]
  repeat kas_types
  refine ev_cell (c := L' + 1) (v := .obj 149 ds) (by rfl) (.inl (by rfl)) (by rfl) c1 (by kernel_rfl) (by kernel_rfl) ?_
  refine ⟨149, ds, _, 134, rfl, hd', (sm_candidates hK).1, (sm_candidates hK).2.1, (sm_candidates hK).2.2.1, (sm_candidates hK).2.2.2, by kernel_rfl, ?_⟩
  repeat kas_types
  refine ev_cell (c := L' + 2) (v := .str tr) (by rfl) (.inl (by rfl)) (by rfl) c2 (by kernel_rfl) (by kernel_rfl) ?_
  repeat kas_types
  refine ev_cell (c := L' + 3) (v := .int deep) (by rfl) (.inl (by rfl)) (by rfl) c3 (by kernel_rfl) (by kernel_rfl) ?_
  repeat kas_types
  refine ev_call2 (cand_c hK hW hrs hT rec htr hd' hk' hm hl fun m' hm' hl' => ?_) (Nat.le_refl _)
  repeat kas_types
  have done' : ∀ {v : V}, v = .str (word (ans rs bd T tr)) → ∃ mu1, LeM mu1 (insM mu' K0 (.tdct (encT m'))) ∧ Q v ⟨st.loc, mu1⟩ := fun e => ⟨insM st.mu K0 (.tdct (encT m')), LeM.ins (fun b o hb e => by show insM mu' K0 _ b = some o; rw [insM_other _ _ hb]; exact hle _ _ e) (insM_self ..), by
    rw [e]; exact h m' hm' hl'⟩
  refine cmp_nilE ?_
  refine tru_bool ?_
  have ha2 := ans_le rs bd T tr
  rcases rows_cases hrs hT hp with ⟨er, ea⟩ | ⟨r, er, ea, _, _⟩
  · rw [er, if_pos (by rfl)]
    repeat kas_types
    refine done' ?_
    rw [ea]; rfl
  · rw [er, if_neg (by simp)]
    generalize ans rs bd T tr = a at er ea ha2 done' ⊢
    repeat kas_types
    refine ev_ListComp (k := fun D L => do let _ ← call (.builtin "list.append") [.ref D, ← eval _ (compEnvC _ _ L _)]) (fun _ => rfl) (cl := []) (by rfl) (by rfl) (by decide +kernel) (by decide +kernel) (fun I D L => by rfl)
      (fun xs i ys st2 => xs = [.tup [.str (word a), .int r.num, .dct (fndV T 0)]] ∧ ys = ([V.str (word a)].take i) ∧ st2.mu = insM mu' K0 (.tdct (encT m'))) ?_ ?_
    · refine itr_ev ?_
      repeat kas_types
      refine ⟨_, rfl, by simp, ⟨rfl, rfl, rfl⟩, ?_⟩
      rintro ys st2 ⟨_, rfl, hmu⟩
      refine ⟨st2.mu, LeM.refl _, ?_⟩
      rw [hmu]
      refine in_lst (ys := [word a]) ?_
      repeat kas_types
      rw [show ([word a].any fun x => x == Str.ofString "yes") = decide (a = 2) by rw [← word_yes ha2]; simp]
      by_cases h2 : a = 2
      · rw [if_pos (by simpa using h2)]
        repeat kas_types
        refine done' ?_
        rw [h2]; rfl
      · rw [if_neg (by simpa using h2)]
        repeat kas_types
        refine done' ?_
        have : a = 1 := by omega
        rw [this]; rfl
    · rintro Lc Dc xs q x ys st2 hx ⟨rfl, rfl, hmu⟩
      obtain ⟨l8, m8⟩ := st2
      dsimp only at hmu
      subst hmu
      have hq : q < 1 := (List.getElem?_eq_some_iff.mp hx).1
      obtain rfl : q = 0 := by omega
      obtain rfl : V.tup [.str (word a), .int r.num, .dct (fndV T 0)] = x := by simpa using hx
      repeat kas_types
      refine trs_nil ?_
      refine accj_emit (by simp) ?_
      repeat kas_types
      exact ⟨rfl, rfl, rfl⟩
theorem rep_put {fz : OH} {k : Key} {v : V} {va : Value} (rv : RepV C fz v va) : ∀ {m : List (Key × V)} {xs : List (Key × Addr × Value)}, xs.map (·.1) = m.map (·.1) → (∀ p ∈ m, p.1 = k → p.2 = v) → RepT C fz (encT m) (xs.map fun x => (keyV x.1, x.2)) → RepT C fz (encT m) ((xs.map (putAt k va)).map fun x => (keyV x.1, x.2))
  | [], [], _, _, h => h
  | [], _ :: _, e, _, _ => by simp at e
  | _ :: _, [], e, _, _ => by simp at e
  | p :: m, x :: xs, e, hv, h => by
    simp only [List.map_cons, List.cons.injEq] at e
    obtain ⟨xk, xa, xv⟩ := x
    obtain ⟨pk, pv⟩ := p
    obtain ⟨e1, e2⟩ := e
    dsimp only at e1
    subst e1
    have hd := hv (xk, pv) (.head _)
    cases h with
    | cons r1 r2 r3 =>
      have ih := rep_put rv e2 (fun p hp => hv p (.tail _ hp)) r3
      by_cases q : xk = k
      · have : putAt k va (xk, xa, xv) = (xk, xa, va) := by unfold putAt; rw [if_pos q]
        rw [List.map_cons, List.map_cons, this]
        refine .cons r1 ?_ ih
        have := hd q
        dsimp only at this
        rw [this]; exact rv
      · have : putAt k va (xk, xa, xv) = (xk, xa, xv) := by unfold putAt; rw [if_neg q]
        rw [List.map_cons, List.map_cons, this]
        exact .cons r1 r2 ih
theorem setI_T2 {a : Addr} {k : Key} {v v0 : V} {m : List (Key × V)} {Q : ST → Prop} (hm : st.mu a = some (.tdct (encT m))) (hok : ∀ p ∈ m, okKey p.1) (hn : (m.map (·.1)).Nodup) (hk : okKey k) (hv : m.lookup k = some v0) (hvv : ∀ p ∈ m, p.1 = k → p.2 = v) (hz : m.length < 1000)
    (h : Q ⟨st.loc, insM st.mu a (.tdct (encT m))⟩) : setI C n env (.val (.ref a)) (keyV k) v st Q := fun fz vo vi va ro ri ra A hA kp s r => by
  (first | obtain ⟨_, rfl⟩ := ro.inv | obtain rfl := ro.inv)
  obtain ⟨xs, h1, h2, h3, h4⟩ := tdct_mu r hm hok hn
  obtain ⟨ka, rfl⟩ : ∃ ka, vi = .ref ka := by unfold keyV at ri; obtain ⟨a0, _, _, e0, _⟩ := ri.inv; exact ⟨a0, e0⟩
  have hlen : xs.length = m.length := by have := congrArg List.length h2; simpa using this
  obtain ⟨p0, hp0, _⟩ := h4 _ _ hv
  refine wpAny_setItem_heap (knd := keyKind C) (roomK hA) ⟨hk, ri.mono r.fzs⟩ h1 (fun h' hm' hs' => ?_) (by rw [sizeLine_eq]; omega)
  obtain ⟨o, es, ep, ho, hx, hd, he, his, hnn⟩ := hm'
  rw [storedH_old hp0] at he
  refine ⟨fz, (), _, Le.refl _, trivial, r.upd _ hm (fun b x hb e => (hs'.2 b hb).trans e) ho (.tdct (kvs := (xs.map (putAt k va)).map fun x => (keyV x.1, x.2)) hx hd (by rw [he]; simp only [List.map_map]; rfl) ?_), h⟩
  obtain ⟨ob, g1, g2⟩ := r.mus _ _ hm
  cases g2 with
  | @tdct o' es' ep' kvs l hx' hd' he' hr' =>
    obtain ⟨o2, es2, ep2, ho2, hx2, hd2, he2, his2, hn2⟩ := h1
    rw [g1] at ho2; cases ho2
    rw [hd'] at hd2; cases hd2
    have e5 : kvs = xs.map fun x => (keyV x.1, x.2) := by
      have e6 := he'.symm.trans he2
      exact same_pairs hr' h2 e6
    rw [e5] at hr'
    exact rep_put ra h2 hvv hr'
theorem lookup_mem {m : List (Key × V)} {k : Key} {v : V} (h : m.lookup k = some v) : (k, v) ∈ m := by
  induction m with
  | nil => cases h
  | cons p m ih =>
    obtain ⟨a, b⟩ := p
    rw [List.lookup_cons] at h
    cases e : k == a with
    | true => rw [e] at h; cases h; rw [beq_iff_eq.mp e]; exact .head _
    | false => rw [e] at h; exact .tail _ (ih h)
theorem lookup_nomem {m : List (Key × V)} {k : Key} (h : m.lookup k = none) : k ∉ m.map (·.1) := fun hm => by
  obtain ⟨⟨a, b⟩, hp, e⟩ := List.mem_map.mp hm
  dsimp only at e; subst e
  have := List.lookup_eq_none_iff.mp h (a, b) hp
  simp at this
theorem lookup_snocK {m : List (Key × V)} {k : Key} {v : V} (h : m.lookup k = none) : (m ++ [(k, v)]).lookup k = some v := by
  rw [List.lookup_append, h]; simp
theorem kn_snoc {rs : List RowS} {bd : List Str} {m : List (Key × V)} {k : Key} (hm : KnOk rs bd m) (hk : okKey k) (h : m.lookup k = none) : KnOk rs bd (m ++ [(k, .str (word (ans rs bd k.2 k.1)))]) := by
  refine ⟨fun p hp => ?_, ?_⟩
  · rcases List.mem_append.mp hp with hp | hp
    · exact hm.ok p hp
    · rw [List.mem_singleton] at hp; subst hp; exact ⟨hk, rfl⟩
  · rw [List.map_append, List.nodup_append]
    refine ⟨hm.nd, by simp, ?_⟩
    intro x hx y hy e
    simp only [List.map_cons, List.map_nil, List.mem_singleton] at hy
    subst hy
    subst e
    exact lookup_nomem h hx
theorem okAbc {tr : Str} (h : tr ∈ abc) : PyData.strOk tr = true := by
  have : ∀ t ∈ abc, PyData.strOk t = true := by decide +kernel
  exact this _ h
theorem asked_c (hK : C.K = KK C.w.params) {ds K0 : Addr} {BL W : List (Str × V)} {rs : List RowS} {bd : List Str} {T : Ty} {deep : Int} (hW : List.lookup ("impls" : Str) W = some (.lst (rs.map rowS))) (hB : BOk BL bd) (hrs : RowsOk rs) (hT : hgt T ≤ 3) (hdp : deep ≤ 60)
    (rec : ∀ t ∈ parts T, Asked C n ds K0 BL W rs bd t (deep + 1)) : Asked C (n + 7) ds K0 BL W rs bd T deep := by
  intro env st m tr Q htr hd hk hm hl h
  refine clc_dk (f := 141) [("self", .obj 149 ds), ("trait", .str tr), ("args", .tup []), ("T", tyV T), ("deep", .int deep)] [("deep", .int deep), ("T", tyV T), ("args", .tup []), ("trait", .str tr), ("self", .obj 149 ds)] (by rw [hK]; rfl) (by rw [hK]; kernel_rfl) (binds5 fun _ _ _ _ _ => rfl) (by kernel_rfl) (by kernel_rfl) (by kernel_rfl) (by kernel_rfl) (by kernel_rfl) rfl fun L' => ?_
  have cpos : 1 ≤ cst (hgt T) := by cases hgt T <;> simp [cst]
  have okk : okKey (tr, T) := ⟨okAbc htr, hT⟩
  refine ex_cons ?_
  repeat kas_types
  refine ev_MOST_DEEP hK (by kernel_rfl) (by kernel_rfl) (by kernel_rfl) ?_
  repeat kas_types
  rw [if_neg (by simp; omega)]
  repeat kas_types
  refine ev_AttrO (fun _ => rfl) ?_
  repeat kas_types
  refine ⟨_, ds, _, .val (.ref K0), rfl, hd, ao_sel_known hK, rfl, rfl, ?_⟩
  refine cmp_notinT (k := (tr, T)) hk (fun p hp => (hm.ok p hp).1) hm.nd okk ?_
  refine tru_bool ?_
  cases hlk : m.lookup (tr, T) with
  | some v =>
    have hv := (hm.ok _ (lookup_mem hlk)).2
    dsimp only at hv
    rw [if_neg (by simp)]
    repeat kas_types
    refine ev_AttrO (fun _ => rfl) ?_
    repeat kas_types
    refine ⟨_, ds, _, .val (.ref K0), rfl, hd, ao_sel_known hK, rfl, rfl, ?_⟩
    repeat kas_types
    refine sub_T (k := (tr, T)) (fun _ _ => rfl) hk (fun p hp => (hm.ok p hp).1) hm.nd okk hlk ?_
    repeat kas_types
    have := h m hm (by omega)
    rw [insM_same hk, ← hv] at this
    exact ⟨st.mu, LeM.refl _, this⟩
  | none =>
    rw [if_pos (by simp)]
    repeat kas_types
    refine ⟨149, ds, _, 146, rfl, hd, (sm_answer_of hK).1, (sm_answer_of hK).2.1, (sm_answer_of hK).2.2.1, (sm_answer_of hK).2.2.2, by kernel_rfl, ?_⟩
    repeat kas_types
    refine ev_call2 (ansof_c hK hW hB hrs rec htr hd hk hm (by omega) fun m' hm' hl' => ?_) (Nat.le_refl _)
    have dK : ds ≠ K0 := ne_mu hd hk (by simp)
    have hd' : insM st.mu K0 (.tdct (encT m')) ds = some (.ns (selL K0 BL W)) := by rw [insM_other _ _ dK]; exact hd
    repeat kas_types
    refine ev_AttrO (fun _ => rfl) ?_
    repeat kas_types
    refine ⟨_, ds, _, .val (.ref K0), rfl, hd', ao_sel_known hK, rfl, rfl, ?_⟩
    repeat kas_types
    have fin : ∀ m2 v, KnOk rs bd m2 → m2.length ≤ m.length + cst (hgt T) → m2.lookup (tr, T) = some v → v = .str (word (ans rs bd T tr)) →
        ex C (n + 6) (envX (Str.ofString "Selection.asked") (sOf (inAt 15 4)) L' 141 (Value.ref 140) []) (bOf (inAt 15 4) |>.drop 2) ⟨[(Str.ofString "deep", V.int deep), (Str.ofString "T", tyV T), (Str.ofString "args", V.tup []), (Str.ofString "trait", V.str tr), (Str.ofString "self", V.obj 149 ds)], insM st.mu K0 (.tdct (encT m2))⟩
          fun fl st' => ∃ mu1, LeM mu1 st'.mu ∧ Q (match fl with | .ret v => v | _ => .none) ⟨st.loc, mu1⟩ := fun m2 v h1 h2 h3 h4 => by
      have hd2 : insM st.mu K0 (.tdct (encT m2)) ds = some (.ns (selL K0 BL W)) := by rw [insM_other _ _ dK]; exact hd
      refine ex_cons ?_
      repeat kas_types
      refine ev_AttrO (fun _ => rfl) ?_
      repeat kas_types
      refine ⟨_, ds, _, .val (.ref K0), rfl, hd2, ao_sel_known hK, rfl, rfl, ?_⟩
      repeat kas_types
      refine sub_T (k := (tr, T)) (fun _ _ => rfl) (insM_self ..) (fun p hp => (h1.ok p hp).1) h1.nd okk h3 ?_
      repeat kas_types
      rw [h4]
      exact ⟨_, LeM.refl _, h m2 h1 h2⟩
    cases hlk' : m'.lookup (tr, T) with
    | some v' =>
      have hv := (hm'.ok _ (lookup_mem hlk')).2
      refine setI_T2 (k := (tr, T)) (insM_self ..) (fun p hp => (hm'.ok p hp).1) hm'.nd okk hlk' (fun p hp e => by have := (hm'.ok p hp).2; rw [e] at this; exact this) (by omega) ?_
      dsimp only
      rw [insM_insM]
      refine ex_nil ?_
      exact fin m' v' hm' (by omega) hlk' hv
    | none =>
      refine setI_T (k := (tr, T)) (insM_self ..) (fun p hp => (hm'.ok p hp).1) hm'.nd okk hlk' (by omega) ?_
      dsimp only
      rw [insM_insM]
      refine ex_nil ?_
      exact fin _ _ (kn_snoc hm' okk hlk') (by simp; omega) (lookup_snocK hlk') rfl
theorem asked_all (hK : C.K = KK C.w.params) {ds K0 : Addr} {BL W : List (Str × V)} {rs : List RowS} {bd : List Str} (hW : List.lookup ("impls" : Str) W = some (.lst (rs.map rowS))) (hB : BOk BL bd) (hrs : RowsOk rs) : ∀ (h : Nat) (T : Ty) (deep : Int), hgt T ≤ h → h ≤ 3 → deep + h ≤ 60 → Asked C (7 * h + 7) ds K0 BL W rs bd T deep := by
  intro h
  induction h with
  | zero =>
    intro T deep h1 h2 h3
    refine asked_c hK hW hB hrs (by omega) (by omega) fun t ht => ?_
    obtain ⟨_, e, _⟩ := hgt_part ht
    omega
  | succ h ih =>
    intro T deep h1 h2 h3
    refine asked_c (n := 7 * h + 7) hK hW hB hrs (by omega) (by omega) fun t ht => ?_
    obtain ⟨_, e, _⟩ := hgt_part ht
    exact ih t (deep + 1) (by omega) (by omega) (by omega)
theorem cst_le3 {T : Ty} (h : hgt T ≤ 3) : cst (hgt T) ≤ 259 := cst_mono h
/-- a world and a bound table that the law may build -/
structure Sx (BL W : List (Str × V)) (rs : List RowS) (bd : List Str) : Prop where
  w : List.lookup ("impls" : Str) W = some (.lst (rs.map rowS))
  b : BOk BL bd
  r : RowsOk rs
theorem LeM.ins2' {mu mu' : Mu} {a : Addr} {o : MO} (h : LeM mu mu') (h0 : mu a = none) : LeM mu (insM mu' a o) := fun b o' e => by
  rw [insM_other _ _ (ne_fr e h0)]; exact h _ _ e
/-- one question to a new selection -/
theorem ask_new (hK : C.K = KK C.w.params) {BL W : List (Str × V)} {rs : List RowS} {bd : List Str} {T : Ty} {tr : Str} {Q : V → ST → Prop} {d K0 : Addr} (S : Sx BL W rs bd) (hT : hgt T ≤ 3) (htr : tr ∈ abc) (hdK : d ≠ K0) (hd : st.mu d = none) (hk0 : st.mu K0 = none)
    (h : ∀ mu', LeM st.mu mu' → Q (.str (word (ans rs bd T tr))) ⟨st.loc, mu'⟩) : clc C (n + 28) env (.val (.ref 141)) [.obj 149 d, .str tr, .tup [], tyV T, .int 0] ⟨st.loc, insM (insM st.mu K0 (.tdct [])) d (.ns (selL K0 BL W))⟩ Q := by
  have hc := cst_le3 hT
  refine clc_le (asked_all hK S.w S.b S.r 3 T 0 hT (by omega) (by omega) _ _ [] tr _ htr (insM_self ..) (by dsimp only; rw [insM_other _ _ (Ne.symm hdK), insM_self]; rfl) ⟨by simp, by simp⟩ (by simp; omega) fun m' hm' hl' => ?_) (by omega : 28 ≤ n + 28)
  exact h _ (((LeM.ins2 hk0).ins2' hd).ins2' hk0)
theorem holds_c (hK : C.K = KK C.w.params) {BL W : List (Str × V)} {rs : List RowS} {bd : List Str} {T : Ty} {tr : Str} {Q : V → ST → Prop} (S : Sx BL W rs bd) (hT : hgt T ≤ 3) (htr : tr ∈ abc)
    (h : Q (.bool (decide (ans rs bd T tr = 2))) st) : clc C (n + 29) env (.val (.ref 167)) [.ins 221 W, .str tr, .tup [], tyV T, .dct BL] st Q := by
  refine clc_dk (f := 167) [("world", .ins 221 W), ("trait", .str tr), ("args", .tup []), ("T", tyV T), ("bounds", .dct BL)] [("bounds", .dct BL), ("T", tyV T), ("args", .tup []), ("trait", .str tr), ("world", .ins 221 W)] (by rw [hK]; rfl) (by rw [hK]; kernel_rfl) (binds5 fun _ _ _ _ _ => rfl) (by kernel_rfl) (by kernel_rfl) (by kernel_rfl) (by kernel_rfl) (by kernel_rfl) rfl fun L' => ?_
  refine ex_cons ?_
  repeat kas_types
  refine ev_call2 (sel_init hK fun d K0 hdK hd hK0 => ?_) (by omega : 2 ≤ n + 28)
  refine ⟨149, d, _, 141, rfl, insM_self .., (sm_asked hK).1, (sm_asked hK).2.1, (sm_asked hK).2.2.1, (sm_asked hK).2.2.2, by kernel_rfl, ?_⟩
  repeat kas_types
  refine ev_call2 (ask_new hK S hT htr hdK hd hK0 fun mu' hle => ?_) (Nat.le_refl _)
  repeat kas_types
  refine ⟨st.mu, hle, ?_⟩
  rw [← word_yes (ans_le rs bd T tr)] at h
  exact h
theorem select_c (hK : C.K = KK C.w.params) {BL W : List (Str × V)} {rs : List RowS} {bd : List Str} {T : Ty} {tr : Str} {Q : V → ST → Prop} (S : Sx BL W rs bd) (hT : hgt T ≤ 3) (htr : tr ∈ abc) (hv : T ≠ .var)
    (h1 : T = .par ∧ tr ∈ bd → Q (.tup [.str "bound", .str "X"]) st) (h2 : ¬ (T = .par ∧ tr ∈ bd) → ans rs bd T tr = 0 → Q .none st) (h3 : ¬ (T = .par ∧ tr ∈ bd) → ∀ r ∈ rs, hitT T tr r = true → ans rs bd T tr ≠ 0 → Q (.tup [.str "impl", .int r.num, .dct (fndV T 0)]) st) :
    clc C (n + 29) env (.val (.ref 160)) [.ins 221 W, .str tr, .tup [], tyV T, .dct BL] st Q := by
  refine clc_dk (f := 160) [("world", .ins 221 W), ("trait", .str tr), ("args", .tup []), ("T", tyV T), ("bounds", .dct BL)] [("bounds", .dct BL), ("T", tyV T), ("args", .tup []), ("trait", .str tr), ("world", .ins 221 W)] (by rw [hK]; rfl) (by rw [hK]; kernel_rfl) (binds5 fun _ _ _ _ _ => rfl) (by kernel_rfl) (by kernel_rfl) (by kernel_rfl) (by kernel_rfl) (by kernel_rfl) rfl fun L' => ?_
  refine ex_cons ?_
  repeat kas_types
  refine ev_call2 (sel_init hK fun d K0 hdK hd hK0 => ?_) (by omega : 2 ≤ n + 28)
  repeat kas_types
  refine sub_tag (fun _ _ => rfl) ?_
  repeat kas_types
  rw [if_neg (by cases T <;> first | exact absurd rfl hv | (simp only [tyTag]; decide +kernel))]
  repeat kas_types
  refine ⟨149, d, _, 122, rfl, insM_self .., (sm_bound_of hK).1, (sm_bound_of hK).2.1, (sm_bound_of hK).2.2.1, (sm_bound_of hK).2.2.2, by kernel_rfl, ?_⟩
  repeat kas_types
  refine ev_call2 (bound_c hK (insM_self ..) S.b ?_) (by omega : 1 ≤ n + 28)
  repeat kas_types
  refine cmp_isnot ?_
  refine tru_bool ?_
  have hle : LeM st.mu (insM (insM st.mu K0 (.tdct [])) d (.ns (selL K0 BL W))) := (LeM.ins2 hK0).ins2' hd
  by_cases hp : T = .par ∧ tr ∈ bd
  · rw [if_pos hp, if_pos (by rfl)]
    repeat kas_types
    exact ⟨st.mu, hle, h1 hp⟩
  rw [if_neg hp, if_neg (by simp [isNone])]
  repeat kas_types
  rw [if_neg (by
    have : ∀ t ∈ abc, (t == Str.ofString "Copy") = false := by decide +kernel
    rw [this _ htr]; decide)]
  rw [if_neg (by decide)]
  repeat kas_types
  refine ⟨149, d, _, 134, rfl, insM_self .., (sm_candidates hK).1, (sm_candidates hK).2.1, (sm_candidates hK).2.2.1, (sm_candidates hK).2.2.2, by kernel_rfl, ?_⟩
  repeat kas_types
  have hc := cst_le3 hT
  refine ev_call2 (cand_c (n := 21) (m := []) hK S.w S.r hv (fun t ht => asked_all hK S.w S.b S.r 2 t (0 + 1) (by obtain ⟨k, e1, e2⟩ := hgt_part ht; omega) (by omega) (by omega)) htr (insM_self ..) (by dsimp only; rw [insM_other _ _ (Ne.symm hdK), insM_self]; rfl) ⟨by simp, by simp⟩ (by simp; omega) fun m' hm' hl' => ?_) (by omega : 26 ≤ n + 28)
  have hle2 := hle.ins2' (o := .tdct (encT m')) hK0
  repeat kas_types
  rcases rows_cases S.r hv hp with ⟨er, ea⟩ | ⟨r, er, ea, hr, hh⟩
  · rw [er]
    refine cl_len_lstF (by simp) ?_
    repeat kas_types
    refine cmp_nilF ?_
    refine tru_bool ?_
    rw [if_neg (by simp)]
    repeat kas_types
    exact ⟨st.mu, hle2, h2 hp ea⟩
  · rw [er]
    refine cl_len_lstF (by simp) ?_
    repeat kas_types
    rw [if_neg (by simp)]
    repeat kas_types
    refine cmp_nilF ?_
    refine tru_bool ?_
    rw [if_pos (by simp)]
    repeat kas_types
    refine sub_lstF (j := 0) (fun _ _ => rfl) rfl (by decide) rfl ?_
    repeat kas_types
    refine sub_tup (j := 1) (fun _ _ => rfl) rfl (by decide) rfl ?_
    repeat kas_types
    refine sub_lstF (j := 0) (fun _ _ => rfl) rfl (by decide) rfl ?_
    repeat kas_types
    refine sub_tup (j := 2) (fun _ _ => rfl) rfl (by decide) rfl ?_
    repeat kas_types
    exact ⟨st.mu, hle2, h3 hp r hr hh ea⟩
def umV (rs : List RowS) (bd : List Str) (p : Str × List Str × Ty) : List V := (p.2.1.filter fun t => decide (ans rs bd p.2.2 t = 0)).map fun t => .tup [.str t, tyV p.2.2]
theorem umV_len (rs : List RowS) (bd : List Str) (p : Str × List Str × Ty) : (umV rs bd p).length ≤ p.2.1.length := by
  unfold umV; rw [List.length_map]; exact List.length_filter_le _ _
theorem unmet_c (hK : C.K = KK C.w.params) {BL W : List (Str × V)} {rs : List RowS} {bd : List Str} {ps : List (Str × List Str × Ty)} {fl : List (Str × V)} {Q : V → ST → Prop} (S : Sx BL W rs bd) (h1 : ps.length ≤ 3) (h2 : ∀ p ∈ ps, p.2.1.length ≤ 3 ∧ (∀ t ∈ p.2.1, t ∈ abc) ∧ hgt p.2.2 ≤ 3 ∧ fl.lookup p.1 = some (tyV p.2.2))
    (h : Q (.lst (ps.flatMap (umV rs bd))) st) : clc C (n + 29) env (.val (.ref 174)) [.ins 221 W, .lst (ps.map fun p => .tup [.str p.1, needV p.2.1]), .dct fl, .dct BL] st Q := by
  refine clc_post (clc_dk (f := 174) [("world", .ins 221 W), ("params", .lst (ps.map fun p => .tup [.str p.1, needV p.2.1])), ("found", .dct fl), ("bounds", .dct BL)] [("bounds", .dct BL), ("found", .dct fl), ("params", .lst (ps.map fun p => .tup [.str p.1, needV p.2.1])), ("world", .ins 221 W)] (by rw [hK]; rfl) (by rw [hK]; kernel_rfl) (binds4 fun _ _ _ _ => rfl) (by kernel_rfl) (by kernel_rfl) (by kernel_rfl) (by kernel_rfl) (by kernel_rfl) rfl fun L' => ?_)
  refine ex_cons ?_
  refine ex1_AssignName (by kernel_rfl) ?_
  refine ev_ListM ?_
  refine evl_nil ⟨Nat.zero_le _, fun U hU => ?_⟩
  have hU : st.mu U = none := hU
  repeat kas_types
  have lenB : ∀ i, ((ps.take i).flatMap (umV rs bd)).length ≤ 3 * i := by
    intro i
    induction i with
    | zero => simp
    | succ i ih =>
      rw [List.take_add_one, List.flatMap_append, List.length_append]
      cases e : ps[i]? with
      | none => rw [Option.toList_none, List.flatMap_nil, List.length_nil]; omega
      | some p =>
        have := umV_len rs bd p
        have := (h2 p (List.mem_of_getElem? e)).1
        rw [Option.toList_some, List.flatMap_singleton]; omega
  refine ex1_For (fun xs i st2 => xs = ps.map (fun p => V.tup [.str p.1, needV p.2.1]) ∧ List.lookup ("world" : Str) st2.loc = some (.ins 221 W) ∧ List.lookup ("found" : Str) st2.loc = some (.dct fl) ∧ List.lookup ("bounds" : Str) st2.loc = some (.dct BL) ∧ List.lookup ("unmet" : Str) st2.loc = some (.val (.ref U)) ∧ LeM st.mu st2.mu ∧ st2.mu U = some (.lst ((ps.take i).flatMap (umV rs bd)))) (fun _ => rfl) ?_ ?_ ?_
  · refine itr_ev ?_
    repeat kas_types
    refine ⟨_, rfl, by rw [List.length_map]; omega, rfl, ?_, ?_, ?_, ?_, LeM.ins2 hU, insM_self ..⟩
    all_goals o_fieldsN
  · rintro xs i x st2 hx ⟨rfl, hs1, hs2, hs3, hs4, hle, hm⟩
    obtain ⟨l2, m2⟩ := st2
    dsimp only at hs1 hs2 hs3 hs4 hle hm
    obtain ⟨p, hp, rfl⟩ : ∃ p, ps[i]? = some p ∧ V.tup [.str p.1, needV p.2.1] = x := by simpa using hx
    have hi : i < ps.length := (List.getElem?_eq_some_iff.mp hp).1
    obtain ⟨g1, g2, g3, g4⟩ := h2 p (List.mem_of_getElem? hp)
    have hb := lenB i
    repeat kas_types
    refine ex1_For (fun xs j st2 => xs = p.2.1.map V.str ∧ List.lookup ("world" : Str) st2.loc = some (.ins 221 W) ∧ List.lookup ("found" : Str) st2.loc = some (.dct fl) ∧ List.lookup ("bounds" : Str) st2.loc = some (.dct BL) ∧ List.lookup ("unmet" : Str) st2.loc = some (.val (.ref U)) ∧ List.lookup ("name" : Str) st2.loc = some (.str p.1) ∧ LeM st.mu st2.mu ∧ st2.mu U = some (.lst ((ps.take i).flatMap (umV rs bd) ++ umV rs bd (p.1, p.2.1.take j, p.2.2)))) (fun _ => rfl) ?_ ?_ ?_
    · refine itr_ev ?_
      repeat kas_types
      refine ⟨p.2.1.map V.str, rfl, by rw [List.length_map]; omega, rfl, ?_, ?_, ?_, ?_, ?_, hle, ?_⟩
      all_goals first | o_fieldsN | skip
      dsimp only; rw [hm]; simp [umV]
    · rintro xs j x st3 hx ⟨rfl, hs1, hs2, hs3, hs4, hs5, hle, hm⟩
      obtain ⟨l3, m3⟩ := st3
      dsimp only at hs1 hs2 hs3 hs4 hs5 hle hm
      obtain ⟨t, ht, rfl⟩ : ∃ t, p.2.1[j]? = some t ∧ V.str t = x := by simpa using hx
      have hj : j < p.2.1.length := (List.getElem?_eq_some_iff.mp ht).1
      have htb := g2 t (List.mem_of_getElem? ht)
      have hb2 := umV_len rs bd (p.1, p.2.1.take j, p.2.2)
      dsimp only at hb2
      rw [List.length_take] at hb2
      repeat kas_types
      refine ev_call2 (sel_init hK fun d K0 hdK hd hK0 => ?_) (by omega : 2 ≤ n + 28)
      have hd : m3 d = none := hd
      have hK0 : m3 K0 = none := hK0
      refine ⟨149, d, _, 141, rfl, insM_self .., (sm_asked hK).1, (sm_asked hK).2.1, (sm_asked hK).2.2.1, (sm_asked hK).2.2.2, by kernel_rfl, ?_⟩
      repeat kas_types
      refine sub_dctF (fun _ _ => rfl) g4 ?_
      repeat kas_types
      refine ev_call2 (ask_new hK S g3 htb hdK hd hK0 fun mu' hle' => ?_) (Nat.le_refl _)
      dsimp only at hle'
      repeat kas_types
      rw [word_no (ans_le _ _ _ _)]
      have hm' := hle' _ _ hm
      have est : umV rs bd (p.1, p.2.1.take (j + 1), p.2.2) = umV rs bd (p.1, p.2.1.take j, p.2.2) ++ (if ans rs bd p.2.2 t = 0 then [.tup [.str t, tyV p.2.2]] else []) := by
        unfold umV
        dsimp only
        rw [List.take_add_one, ht, List.filter_append, List.map_append]
        congr 1
        by_cases h0 : ans rs bd p.2.2 t = 0 <;> simp [h0]
      have hm3U : ∀ {o}, st.mu U = some o → False := fun e => by rw [hU] at e; cases e
      by_cases h0 : ans rs bd p.2.2 t = 0
      · rw [if_pos (by simpa using h0)]
        rw [if_pos h0] at est
        repeat kas_types
        refine ⟨U, _, rfl, hm', ?_⟩
        repeat kas_types
        refine sub_dctF (fun _ _ => rfl) g4 ?_
        repeat kas_types
        refine ⟨_, hm', by rw [List.length_append]; omega, ?_⟩
        repeat kas_types
        refine ⟨rfl, ?_, ?_, ?_, ?_, ?_, ?_, ?_⟩
        all_goals first | o_fieldsN | skip
        · exact (hle.trans hle').ins2' hU
        · dsimp only; rw [insM_self, est, List.append_assoc]
      · rw [if_neg (by simpa using h0)]
        rw [if_neg h0, List.append_nil] at est
        repeat kas_types
        refine ⟨rfl, ?_, ?_, ?_, ?_, ?_, hle.trans hle', ?_⟩
        all_goals first | o_fieldsN | skip
        dsimp only; rw [hm', est]
    · rintro xs st3 ⟨rfl, hs1, hs2, hs3, hs4, hs5, hle, hm⟩
      repeat kas_types
      refine ⟨rfl, hs1, hs2, hs3, hs4, hle, ?_⟩
      rw [hm, List.length_map, List.take_length, List.take_add_one, hp, List.flatMap_append]
      simp
  · rintro xs st2 ⟨rfl, hs1, hs2, hs3, hs4, hle, hm⟩
    obtain ⟨l2, m2⟩ := st2
    dsimp only at hs1 hs2 hs3 hs4 hle hm
    repeat kas_types
    rw [List.length_map, List.take_length] at hm
    refine ⟨insM st.mu U (.lst (ps.flatMap (umV rs bd))), LeM.ins (fun b o hb e => hle _ _ e) hm, _, _, up_lst (insM_self _ _ _), ?_⟩
    dsimp only
    rw [delM_ins hU]
    exact h
def ansV (rs : List RowS) (bd : List Str) (T : Ty) : List (Str × V) := abc.map fun t => (t, V.int (ans rs bd T t : Nat))
def kwV (rs : List RowS) : List (Str × V) := abc.map fun t => (t, V.dct (knR rs t))
theorem look_abc {f : Str → V} {t : Str} (h : t ∈ abc) : (abc.map fun t => (t, f t)).lookup t = some (f t) := by
  have gen : ∀ l : List Str, t ∈ l → (l.map fun t => (t, f t)).lookup t = some (f t) := by
    intro l
    induction l with
    | nil => intro h; cases h
    | cons x l ih =>
      intro h
      rw [List.map_cons, List.lookup_cons]
      cases e : t == x with
      | true => rw [beq_iff_eq.mp e]
      | false =>
        rcases List.mem_cons.mp h with h | h
        · rw [h] at e; simp at e
        · exact ih h
  exact gen abc h
theorem knR_look {rs : List RowS} {t : Str} {k : Kd} : (knR rs t).lookup (kdN k) = (rs.filter fun r => r.tr == t && decide (some k = some r.kd)).head?.map fun r => (knE r).2 := by
  unfold knR
  induction rs with
  | nil => rfl
  | cons r rs ih =>
    rw [List.filter_cons, List.filter_cons]
    by_cases h1 : r.tr = t
    · rw [if_pos (by simpa using h1), List.map_cons]
      by_cases h2 : k = r.kd
      · rw [if_pos (by simp [h1, h2])]
        subst h2
        exact lk_here
      · rw [if_neg (by simp [h2])]
        have : (kdN k == kdN r.kd) = false := beq_eq_false_iff_ne.mpr fun e => h2 (kdN_inj e)
        have e : List.lookup (kdN k) (knE r :: List.map knE (List.filter (fun r => r.tr == t) rs)) = List.lookup (kdN k) (List.map knE (List.filter (fun r => r.tr == t) rs)) := by
          show List.lookup (kdN k) ((kdN r.kd, (knE r).2) :: _) = _
          rw [List.lookup_cons, this]
        rw [e]; exact ih
    · rw [if_neg (by simpa using h1), if_neg (by simp [h1])]
      exact ih
def prs (r : RowS) (T : Ty) : List (Ty × List Str) := (parts T).zip (r.ps.map (·.2))
theorem prs_min {rs : List RowS} {bd : List Str} {r : RowS} {T : Ty} : ((prs r T).flatMap fun q => q.2.map fun t => ans rs bd q.1 t) = (nds r T).map fun p => ans rs bd p.2 p.1 := by
  obtain ⟨_, _, kd, nt, nu⟩ := r
  cases kd <;> cases T <;> simp [prs, nds, RowS.ps, tyPs, parts, Function.comp_def]
theorem prs_mem {r : RowS} {T : Ty} {q : Ty × List Str} (h : q ∈ prs r T) : q.2 = r.nt ∨ q.2 = r.nu := by
  have : q.2 ∈ r.ps.map (·.2) := (List.of_mem_zip (a := q.1) (b := q.2) h).2
  unfold RowS.ps at this
  split at this <;> simp at this
  · exact .inl this
  · exact this
theorem prs_zip {rs : List RowS} {bd : List Str} {r : RowS} {T : Ty} : zipV ((parts T).map fun t => V.dct (ansV rs bd t)) (r.ps.map fun p => needV p.2) = (prs r T).map fun q => V.tup [.dct (ansV rs bd q.1), needV q.2] := by
  obtain ⟨_, _, kd, nt, nu⟩ := r
  cases kd <;> cases T <;> rfl
theorem lst2_mem (l : List Nat) : lst2 l ∈ 2 :: l := by
  unfold lst2
  induction l with
  | nil => simp
  | cons x l ih =>
    rw [List.foldr_cons]
    rcases Nat.le_total x (l.foldr min 2) with h | h
    · rw [Nat.min_eq_left h]; simp
    · rw [Nat.min_eq_right h]
      rcases List.mem_cons.mp ih with h | h
      · rw [h]; simp
      · exact List.mem_cons_of_mem _ (List.mem_cons_of_mem _ h)
theorem lst2_low {l : List Nat} {x : Nat} (h : x ∈ l) : lst2 l ≤ x := by
  unfold lst2
  induction l with
  | nil => cases h
  | cons y l ih =>
    rw [List.foldr_cons]
    rcases List.mem_cons.mp h with h | h
    · rw [h]; exact Nat.min_le_left _ _
    · exact Nat.le_trans (Nat.min_le_right _ _) (ih h)
theorem least_lst2 {l : List Nat} {i : Int} (h : isLeast (2 :: l.map fun (a : Nat) => (a : Int)) i) : i = (lst2 l : Nat) := by
  obtain ⟨h1, h2⟩ := h
  have h3 := lst2_mem l
  have up : i ≤ (lst2 l : Nat) := h2 _ (by
    rcases List.mem_cons.mp h3 with h | h
    · rw [h]; exact .head _
    · exact .tail _ (List.mem_map.mpr ⟨_, h, rfl⟩))
  have low : ((lst2 l : Nat) : Int) ≤ i := by
    rcases List.mem_cons.mp h1 with h | h
    · rw [h]; have := lst2_le l; omega
    · obtain ⟨x, hx, rfl⟩ := List.mem_map.mp h
      have := lst2_low hx
      omega
  omega
theorem turn2 {elt tgt iter tgt2 iter2 : Expr} {ifs ifs2 : List Expr} {scope : PySem.Scope} {pos : Pos} {cenv : Env} {I D : Addr} :
    compTurn (.ListComp elt [⟨tgt, iter, ifs, 0⟩, ⟨tgt2, iter2, ifs2, 0⟩] scope pos) 0 (.ref I) (.ref D) cenv = (do
      standAt iter.pos
      match ← pyNext (.ref I) with
      | none => pure (.done .next)
      | some v =>
        letOwnedTupleGo tgt (.ref I) v
        assign tgt cenv v
        let mut ok := true
        for c in ifs do
          if ok then ok ← isTrue c cenv (eval c cenv)
        if ok then (do
          let x ← eval iter2 cenv
          standAt iter2.pos
          let x ← foldedSetIterable iter2 cenv x
          let _ ← runOwn (.compStart (.ListComp elt [⟨tgt, iter, ifs, 0⟩, ⟨tgt2, iter2, ifs2, 0⟩] scope pos) 1 (← holding [x] (pyIter x)) (.ref D) cenv) cenv)
        again (.compLoop (.ListComp elt [⟨tgt, iter, ifs, 0⟩, ⟨tgt2, iter2, ifs2, 0⟩] scope pos) 0 (.ref I) (.ref D) cenv)) := by
  have lhs : compTurn (.ListComp elt [⟨tgt, iter, ifs, 0⟩, ⟨tgt2, iter2, ifs2, 0⟩] scope pos) 0 (.ref I) (.ref D) cenv = (do
      standAt iter.pos
      match ← pyNext (.ref I) with
      | none => pure (.done .next)
      | some v =>
        letOwnedTupleGo tgt (.ref I) v
        assign tgt cenv v
        let mut ok := true
        for c in ifs do
          if ok then ok ← isTrue c cenv (eval c cenv)
        if ok then
          let x ← eval iter2 cenv
          standAt iter2.pos
          let x ← foldedSetIterable iter2 cenv x
          let _ ← runOwn (.compStart (.ListComp elt [⟨tgt, iter, ifs, 0⟩, ⟨tgt2, iter2, ifs2, 0⟩] scope pos) 1 (← holding [x] (pyIter x)) (.ref D) cenv) cenv
        again (.compLoop (.ListComp elt [⟨tgt, iter, ifs, 0⟩, ⟨tgt2, iter2, ifs2, 0⟩] scope pos) 0 (.ref I) (.ref D) cenv)) := by rfl
  rw [lhs]
  simp only [bind_assoc, pure_bind]
theorem ev_ListComp2 {elt tgt iter tgt2 iter2 : Expr} {ifs ifs2 : List Expr} {scope : PySem.Scope} {pos : Pos} {cl : List (Str × Addr)} {Q : V → ST → Prop}
    (hs : ∀ x, foldedSetIterable iter env x = pure x) (hclos : closureFor scope env = pure cl) (hkind : scope.kind = .function) (hcell : ∀ y ∈ scope.names, y.2 ≠ .cell)
    (hnames : ∀ x ∈ scope.names, x.2 = .local → scope.names.lookup x.1 = some .local)
    (J : List V → Nat → List V → ST → Prop)
    (h : itr C n env iter tgt st (compQ J Q))
    (turn : ∀ L D xs i x ys st2, xs[i]? = some x → InvC J xs i ys st2 → asg C n (compEnvC scope cl L env) tgt x st2 fun st3 => trs C n (compEnvC scope cl L env) ifs st3 fun ok st4 => if ok then
      accj C n (compEnvC scope cl L env) D (do
          let x ← eval iter2 (compEnvC scope cl L env)
          standAt iter2.pos
          let x ← foldedSetIterable iter2 (compEnvC scope cl L env) x
          let _ ← runOwn (.compStart (.ListComp elt [⟨tgt, iter, ifs, 0⟩, ⟨tgt2, iter2, ifs2, 0⟩] scope pos) 1 (← holding [x] (pyIter x)) (.ref D) (compEnvC scope cl L env)) (compEnvC scope cl L env)) ys st4 (InvC J xs (i + 1))
      else InvC J xs (i + 1) ys st4) :
    ev C n env (.ListComp elt [⟨tgt, iter, ifs, 0⟩, ⟨tgt2, iter2, ifs2, 0⟩] scope pos) st Q :=
  ev_ListComp (k := fun D L => do
          let x ← eval iter2 (compEnvC scope cl L env)
          standAt iter2.pos
          let x ← foldedSetIterable iter2 (compEnvC scope cl L env) x
          let _ ← runOwn (.compStart (.ListComp elt [⟨tgt, iter, ifs, 0⟩, ⟨tgt2, iter2, ifs2, 0⟩] scope pos) 1 (← holding [x] (pyIter x)) (.ref D) (compEnvC scope cl L env)) (compEnvC scope cl L env)) hs hclos hkind hcell hnames (fun I D L => turn2) J h turn
theorem kd_dict {T : Ty} {k : Kd} (h : kdOf T = some k) : List.lookup (tyTag T) (mrg [(Str.ofString "int", V.str (Str.ofString "u8")), (Str.ofString "bool", V.str (Str.ofString "bool")), (Str.ofString "box", V.str (Str.ofString "box")), (Str.ofString "tuple", V.str (Str.ofString "pair"))]) = some (.str (kdN k)) := by
  cases T <;> simp only [kdOf, Option.some.injEq, reduceCtorEq] at h <;> subst h <;> rfl
theorem answers_c (hK : C.K = KK C.w.params) {rs : List RowS} {bd : List Str} (hrs : RowsOk rs) : ∀ (h : Nat) {env : Env} {st : ST} {T : Ty} {Q : V → ST → Prop}, hgt T ≤ h → Q (.dct (ansV rs bd T)) st → clc C (h + 2) env (.val (.ref 281)) [.dct (kwV rs), .tup (bd.map V.str), tyV T] st Q := by
  intro h
  induction h using Nat.strongRecOn with
  | ind h ih =>
  intro env st T Q hT hQ
  refine clc_post (clc_dkC (f := 281) [("known", .dct (kwV rs)), ("bounds", .tup (bd.map V.str)), ("T", tyV T)] [("T", tyV T)] ["known", "bounds", "T"] (by rw [hK]; rfl) (by rw [hK]; kernel_rfl) (binds3 fun _ _ _ => rfl) rfl (by kernel_rfl) (by decide +kernel) (by decide +kernel) (by decide +kernel) (by kernel_rfl) (by kernel_rfl) (by kernel_rfl) (by rfl) fun L' mu' hcell hle => ?_)
  obtain ⟨c1, n1⟩ := hcell "known" (L' + 1) (by rfl)
  obtain ⟨c2, n2⟩ := hcell "bounds" (L' + 2) (by rfl)
  have e1 : List.lookup (Str.ofString "known") [(Str.ofString "known", V.dct (kwV rs)), (Str.ofString "bounds", V.tup (bd.map V.str)), (Str.ofString "T", tyV T)] = some (V.dct (kwV rs)) := by with_unfolding_all exact rfl
  have e2 : List.lookup (Str.ofString "bounds") [(Str.ofString "known", V.dct (kwV rs)), (Str.ofString "bounds", V.tup (bd.map V.str)), (Str.ofString "T", tyV T)] = some (V.tup (bd.map V.str)) := by with_unfolding_all exact rfl
  rw [e1] at c1
  rw [e2] at c2
  have pl : (parts T).length ≤ 2 := by cases T <;> simp [parts, tyPs]
  refine ex_cons ?_
  refine ex1_AssignComp (k := fun D L => do let _ ← call (.builtin "list.append") [.ref D, ← eval _ (compEnvC _ _ L _)]) (by rfl) (by rfl) (fun _ => rfl) (cl := [("known", L' + 1), ("bounds", L' + 2)]) (by rfl) (by rfl) (by decide +kernel) (by decide +kernel) (fun I D L => by rfl)
    (fun xs i ys st2 => xs = (parts T).map tyV ∧ ys = ((parts T).take i).map (fun t => V.dct (ansV rs bd t)) ∧ st2.mu = mu') ?_ ?_
  rotate_left
  · rintro Lc Dc xs q x ys st2 hx ⟨rfl, rfl, hmu⟩
    obtain ⟨l8, m8⟩ := st2
    dsimp only at hmu
    subst hmu
    obtain ⟨t, ht, rfl⟩ : ∃ t, (parts T)[q]? = some t ∧ tyV t = x := by simpa using hx
    have hq : q < (parts T).length := (List.getElem?_eq_some_iff.mp ht).1
    obtain ⟨k, ek, etk⟩ := hgt_part (List.mem_of_getElem? ht)
    repeat kas_types
    refine trs_nil ?_
    refine accj_emit (by simp; omega) ?_
    repeat kas_types
    refine ev_cell (c := L' + 1) (v := .dct (kwV rs)) (by rfl) (.inl (by rfl)) (by rfl) c1 (by kernel_rfl) (by kernel_rfl) ?_
    repeat kas_types
    refine ev_cell (c := L' + 2) (v := .tup (bd.map V.str)) (by rfl) (.inl (by rfl)) (by rfl) c2 (by kernel_rfl) (by kernel_rfl) ?_
    repeat kas_types
    refine ev_call2 (ih k (by omega) etk ?_) (by omega : k + 2 ≤ h + 1)
    refine ⟨rfl, ?_, rfl⟩
    rw [List.take_add_one, ht, List.map_append]
    rfl
  refine itr_ev ?_
  repeat kas_types
  refine ev_call2 (parts_c (n := 0) hK ?_) (by omega : 0 + 1 ≤ h + 1)
  refine ⟨(parts T).map tyV, rfl, by rw [List.length_map]; omega, ⟨rfl, rfl, rfl⟩, ?_⟩
  rintro ys st2 ⟨_, rfl, hmu⟩
  refine ⟨st2.mu, LeM.refl _, ?_⟩
  rw [hmu, List.length_map, List.take_length]
  repeat kas_types
  refine ev_DictM fun F hF => ?_
  have hF : mu' F = none := hF
  have hFs : st.mu F = none := by cases e : st.mu F with | none => rfl | some o => rw [hle _ _ e] at hF; cases hF
  have F1 : L' + 1 ≠ F := ne_fr c1 hF
  have F2 : L' + 2 ≠ F := ne_fr c2 hF
  repeat kas_types
  refine ex1_For (fun xs i st2 => xs = abc.map V.str ∧ List.lookup ("T" : Str) st2.loc = some (tyV T) ∧ List.lookup ("inner" : Str) st2.loc = some (.lst ((parts T).map fun t => V.dct (ansV rs bd t))) ∧ List.lookup ("found" : Str) st2.loc = some (.val (.ref F)) ∧ st2.mu = insM mu' F (.dct ((abc.take i).map fun t => (t, V.int (ans rs bd T t : Nat))))) (fun _ => rfl) ?_ ?_ ?_
  · refine itr_ev ?_
    repeat kas_types
    refine ⟨_, walk_abc, by decide, rfl, ?_, ?_, ?_, rfl⟩
    all_goals o_fieldsN
  · rintro xs i x st2 hx ⟨rfl, hs1, hs2, hs3, hmu⟩
    obtain ⟨l2, m2⟩ := st2
    dsimp only at hs1 hs2 hs3 hmu
    subst hmu
    obtain ⟨t, ht, rfl⟩ : ∃ t, abc[i]? = some t ∧ V.str t = x := by simpa using hx
    have hi : i < 3 := (List.getElem?_eq_some_iff.mp ht).1
    have htb : t ∈ abc := List.mem_of_getElem? ht
    have htk : t ∉ abc.take i := by
      have h3 : i = 0 ∨ i = 1 ∨ i = 2 := by omega
      rcases h3 with rfl | rfl | rfl <;> (have ht := Option.some.inj ht; subst ht; decide +kernel)
    have hl0 : ((abc.take i).map fun t => (t, V.int (ans rs bd T t : Nat))).lookup t = none := lookup_none (f := fun t => t) (g := fun t => V.int (ans rs bd T t : Nat)) fun r hr e => htk (by rw [← e]; exact hr)
    have hlen : ((abc.take i).map fun t => (t, V.int (ans rs bd T t : Nat))).length < 1000 := by
      rw [List.length_map, List.length_take]
      have : abc.length = 3 := rfl
      omega
    have fin : ∀ {w : V}, w = V.int (ans rs bd T t : Nat) → insM (insM mu' F (.dct ((abc.take i).map fun t => (t, V.int (ans rs bd T t : Nat))))) F (.dct (stoD ((abc.take i).map fun t => (t, V.int (ans rs bd T t : Nat))) t w)) = insM mu' F (.dct ((abc.take (i + 1)).map fun t => (t, V.int (ans rs bd T t : Nat)))) := fun {w} e => by
      rw [insM_insM, stoD_new hl0, List.take_add_one, ht, List.map_append, e]
      rfl
    repeat kas_types
    refine sub_tag (fun _ _ => rfl) ?_
    repeat kas_types
    refine in_lst (ys := ["param", "var"]) ?_
    repeat kas_types
    cases hk : kdOf T with
    | none =>
      rw [if_pos (by cases T <;> simp only [kdOf, reduceCtorEq] at hk <;> (simp only [tyTag]; decide +kernel))]
      repeat kas_types
      refine sub_tag (fun _ _ => rfl) ?_
      repeat kas_types
      by_cases hv : T = .var
      · rw [if_pos (by subst hv; simp only [tyTag]; decide +kernel)]
        repeat kas_types
        refine setI_dct (insM_self ..) hlen ?_
        repeat kas_types
        refine ⟨rfl, ?_, ?_, ?_, fin (by subst hv; rfl)⟩
        all_goals o_fieldsN
      · have hp : T = .par := by cases T <;> simp only [kdOf, reduceCtorEq] at hk <;> first | rfl | exact absurd rfl hv
        rw [if_neg (by subst hp; simp only [tyTag]; decide +kernel)]
        repeat kas_types
        refine ev_cell (c := L' + 2) (v := .tup (bd.map V.str)) (by rfl) (.inl (by rfl)) (by rfl) (by dsimp only; rw [insM_other _ _ F2]; exact c2) (by kernel_rfl) (by kernel_rfl) ?_
        refine in_tup ?_
        repeat kas_types
        refine cl_intb ?_
        refine bop_mul ?_ ?_
        · by_cases hb : t ∈ bd
          · rw [if_pos (by simpa using hb)]; exact mulOk_small (by decide) (by decide)
          · rw [if_neg (by simpa using hb)]; exact mulOk_small (by decide) (by decide)
        repeat kas_types
        refine setI_dct (insM_self ..) hlen ?_
        repeat kas_types
        refine ⟨rfl, ?_, ?_, ?_, fin ?_⟩
        · o_fieldsN
        · o_fieldsN
        · o_fieldsN
        · subst hp
          unfold ans
          by_cases hb : t ∈ bd
          · rw [if_pos (by simpa using hb), if_pos hb]; rfl
          · rw [if_neg (by simpa using hb), if_neg hb]; rfl
    | some k =>
      rw [if_neg (by cases T <;> simp only [kdOf, Option.some.injEq, reduceCtorEq] at hk <;> (simp only [tyTag]; decide +kernel))]
      repeat kas_types
      refine ev_cell (c := L' + 1) (v := .dct (kwV rs)) (by rfl) (.inl (by rfl)) (by rfl) (by dsimp only; rw [insM_other _ _ F1]; exact c1) (by kernel_rfl) (by kernel_rfl) ?_
      repeat kas_types
      refine sub_dctF (fun _ _ => rfl) (look_abc htb) ?_
      refine ⟨_, rfl, ?_⟩
      repeat kas_types
      refine sub_tag (fun _ _ => rfl) ?_
      refine sub_dctF (fun _ _ => rfl) (kd_dict hk) ?_
      repeat kas_types
      refine cl_get1F ?_
      rw [knR_look]
      have ea := ans_row (rs := rs) (bd := bd) (tr := t) hk
      unfold ansK at ea
      have ho := hit_once hrs T t
      have ef : (fun r : RowS => r.tr == t && decide (some k = some r.kd)) = hitT T t := by funext r; unfold hitT; rw [hk]
      rw [ef] at ea ⊢
      generalize hl : rs.filter (hitT T t) = l at ho ea
      match l, ho with
      | [], _ =>
        repeat kas_types
        refine cmp_is ?_
        refine tru_bool ?_
        rw [if_pos (by rfl)]
        repeat kas_types
        refine setI_dct (insM_self ..) hlen ?_
        repeat kas_types
        refine ⟨rfl, ?_, ?_, ?_, fin (by rw [ea]; rfl)⟩
        all_goals o_fieldsN
      | [r], _ =>
        have hm : r ∈ rs.filter (hitT T t) := by rw [hl]; exact .head _
        rw [List.mem_filter] at hm
        have rok := hrs.ok r hm.1
        dsimp only at ea
        rw [rowA_eq] at ea
        have ev0 : (Option.map (fun r => (knE r).2) [r].head?).getD V.none = V.tup [.int r.num, .lst (r.ps.map fun p => needV p.2)] := rfl
        rw [ev0]
        repeat kas_types
        refine cmp_is ?_
        refine tru_bool ?_
        rw [if_neg (by simp [isNone])]
        repeat kas_types
        have hpl : (prs r T).length ≤ 2 := by
          unfold prs; rw [List.length_zip]; omega
        have hq3 : ∀ q ∈ prs r T, q.2.length ≤ 3 ∧ ∀ y ∈ q.2, y ∈ abc := fun q hq => by
          rcases prs_mem hq with e | e
          · rw [e]; exact ⟨rok.2.1.2, rok.2.1.1⟩
          · rw [e]; exact ⟨rok.2.2.2, rok.2.2.1⟩
        generalize hmu : insM mu' F (.dct ((abc.take i).map fun t => (t, V.int (ans rs bd T t : Nat)))) = m3
        refine ev_ListComp2 (fun _ => rfl) (cl := []) (by rfl) (by rfl) (by decide +kernel) (by decide +kernel)
          (fun xs i ys st2 => xs = (prs r T).map (fun q => V.tup [.dct (ansV rs bd q.1), needV q.2]) ∧ ys = (((prs r T).take i).flatMap fun q => q.2.map fun t => ans rs bd q.1 t).map (fun (a : Nat) => V.int a) ∧ ys.length ≤ 3 * i ∧ st2.mu = m3) ?_ ?_
        · refine itr_CallT (by rfl) (by rfl) (by rfl) ?_
          refine ev_bt (b_zip hK) v_zip (by kernel_rfl) (by kernel_rfl) (by kernel_rfl) (by kernel_rfl) (by kernel_rfl) (by kernel_rfl) ⟨_, rfl, ?_⟩
          repeat kas_types
          refine sub_tup (j := 1) (fun _ _ => rfl) rfl (by decide) rfl ?_
          repeat kas_types
          refine itc_zip (xs := (parts T).map fun t => V.dct (ansV rs bd t)) (ys := r.ps.map fun (p : Str × List Str) => needV p.2) rfl rfl (by rw [List.length_map]; omega) ?_
          rw [prs_zip]
          refine ⟨⟨rfl, rfl, by simp, rfl⟩, ?_⟩
          rintro ys st2 ⟨_, rfl, hyl, hmu2⟩
          have e9 : (List.map (fun q : Ty × List Str => V.tup [.dct (ansV rs bd q.1), needV q.2]) (prs r T)).length = (prs r T).length := List.length_map _
          rw [e9] at hyl ⊢
          rw [List.take_length, List.length_map] at hyl
          rw [List.take_length]
          refine ⟨st2.mu, LeM.refl _, ?_⟩
          rw [hmu2]
          refine bop_addL (by rw [List.length_map, List.length_singleton]; omega) ?_
          repeat kas_types
          rw [prs_min]
          have e2 : [V.int 2] ++ ((nds r T).map fun p => ans rs bd p.2 p.1).map (fun (a : Nat) => V.int a) = (2 :: ((nds r T).map fun p => ans rs bd p.2 p.1).map fun (a : Nat) => (a : Int)).map V.int := by
            simp
          rw [e2]
          refine cl_min (by simp) ?_ fun j hj => ?_
          · have := ndsAt_len r T rok.2.1.2 rok.2.2.2 r.ps.length
            have hkd : kdOf T = some r.kd := by have := hm.2; simp [hitT] at this; exact this.2
            rw [ndsAt_all hkd] at this
            rw [List.length_cons, List.length_map, List.length_map]
            omega
          have hj := least_lst2 hj
          subst hj
          repeat kas_types
          subst hmu
          refine setI_dct (insM_self ..) hlen ?_
          repeat kas_types
          refine ⟨rfl, ?_, ?_, ?_, fin (by rw [ea]; rfl)⟩
          all_goals o_fieldsN
        · rintro Lc Dc xs q x ys st2 hx ⟨rfl, rfl, hyl, hmu2⟩
          obtain ⟨l8, m8⟩ := st2
          dsimp only at hmu2
          subst hmu2
          obtain ⟨p, hp, rfl⟩ : ∃ p, (prs r T)[q]? = some p ∧ V.tup [.dct (ansV rs bd p.1), needV p.2] = x := by simpa using hx
          have hq : q < (prs r T).length := (List.getElem?_eq_some_iff.mp hp).1
          obtain ⟨g1, g2⟩ := hq3 p (List.mem_of_getElem? hp)
          repeat kas_types
          refine trs_nil ?_
          refine accj_in (fun _ => rfl) (fun I => by rfl) (fun xs j ys st2 => xs = p.2.map V.str ∧ List.lookup ("part" : Str) st2.loc = some (.dct (ansV rs bd p.1)) ∧ ys = (((prs r T).take q).flatMap fun q => q.2.map fun t => ans rs bd q.1 t).map (fun (a : Nat) => V.int a) ++ ((p.2.take j).map fun t => V.int (ans rs bd p.1 t : Nat)) ∧ ys.length ≤ 3 * q + j ∧ st2.mu = m8) ?_ ?_
          · refine itr_ev ?_
            repeat kas_types
            refine ⟨p.2.map V.str, rfl, by rw [List.length_map]; omega, ⟨rfl, ?_, by simp, by omega, rfl⟩, ?_⟩
            · o_fieldsN
            rintro ys st2 ⟨_, _, rfl, hyl2, hmu3⟩
            refine ⟨rfl, ?_, ?_, hmu3⟩
            · rw [List.length_map, List.take_length, List.take_add_one, hp, List.flatMap_append, List.map_append]
              simp [Function.comp_def]
            · rw [List.length_map] at hyl2 ⊢
              omega
          · rintro xs j x ys st2 hx ⟨rfl, hpt, rfl, hyl2, hmu3⟩
            obtain ⟨l9, m9⟩ := st2
            dsimp only at hmu3 hpt
            subst hmu3
            obtain ⟨y, hy, rfl⟩ : ∃ y, p.2[j]? = some y ∧ V.str y = x := by simpa using hx
            have hj : j < p.2.length := (List.getElem?_eq_some_iff.mp hy).1
            repeat kas_types
            refine trs_nil ?_
            refine accj_emit (by omega) ?_
            repeat kas_types
            refine sub_dctF (fun _ _ => rfl) (look_abc (g2 y (List.mem_of_getElem? hy))) ?_
            refine ⟨rfl, ?_, ?_, ?_, rfl⟩
            · o_fieldsN
            · rw [List.take_add_one, hy, List.map_append, List.append_assoc]
              rfl
            · rw [List.length_append, List.length_singleton]; omega
  · rintro xs st2 ⟨rfl, hs1, hs2, hs3, hmu⟩
    obtain ⟨l2, m2⟩ := st2
    dsimp only at hs3 hmu
    subst hmu
    repeat kas_types
    refine ⟨insM st.mu F (.dct (ansV rs bd T)), LeM.ins (fun b o hb e => by dsimp only; rw [insM_other _ _ hb]; exact hle _ _ e) (insM_self ..), _, _, up_dct (insM_self ..), ?_⟩
    dsimp only
    rw [delM_ins hFs]
    exact hQ
/-- two values that == tells alike, in this world -/
def Alike (prog : Program) (w : World) (A : Around) (s : Shared) (x y : Value) : Prop := ∀ (Q : Bool → Shared → Prop) (E : Value → Shared → Prop), Q true s → wpAny (model prog w) A (eqBool x y) Q E s
theorem ne_tup3 {prog : Program} {w : World} {A : Around} {E : Value → Shared → Prop} {s : Shared} {Q : Value → Shared → Prop} {l b : Addr} {x1 x2 x3 y1 y2 y3 : Value} {m m' : Nat} (hl : s.heap.get? l = some (tupO #[x1, x2, x3] m)) (hb : s.heap.get? b = some (tupO #[y1, y2, y3] m')) (hu : A.units < cLine)
    (h1 : Alike prog w A.in1 s x1 y1) (h2 : Alike prog w A.in1 s x2 y2) (h3 : Alike prog w A.in1 s x3 y3) (h : Q (.bool false) s) : wpAny (model prog w) A (compareOp .NotEq (.ref l) (.ref b)) Q E s := by
  refine wpAny_richCompare_same_room (op := .NotEq) ⟨_, hl, rfl⟩ ⟨_, hb, rfl⟩ F.slot_tuple_ne (wpAny_call_entry F.slot_tuple_ne ⟨_, hl, rfl⟩ F.entry_tuple_ne ?_ (F.args_tuple_ne_2 _ _)) hu
  obtain ⟨hp, g, d, tk, os⟩ := s
  have f2 := AutoSeq1.sub_tuple_tuple
  unfold Alike at h1 h2 h3
  wp_walk using AutoSeq1.wpAny_loadPart' hl, AutoSeq1.wpAny_loadPart' hb, h1, h2, h3
  exact ⟨.bool false, rfl, (fun x => nomatch x), h⟩
section
variable {C : Cx} {n : Nat} {env : Env} {st : ST}
theorem alike_of {prog : Program} {w : World} {A : Around} {s : Shared} {x y : Value} (h : EqAt A s x y true) : Alike prog w A s x y := fun Q E hq => h prog w E Q hq
/-- the two found tables: the same pairs, in whatever order -/
def SameD (l1 l2 : List (Str × V)) : Prop := l1.length = l2.length ∧ ∀ p ∈ l1, ∃ t, hgt t ≤ 3 ∧ p.2 = tyV t ∧ l2.lookup p.1 = some (tyV t)
theorem hits_of {A : Around} {s : Shared} {fz : OH} (hl : Le fz s.heap.get?) (hu : A.in1.units + 64 < cLine) {l2 : List (Str × V)} {kb : List (Str × Value)} (r2 : RepD C fz l2 kb) : ∀ {l1 : List (Str × V)} {ka : List (Str × Value)}, RepD C fz l1 ka → (∀ p ∈ l1, ∃ t, hgt t ≤ 3 ∧ p.2 = tyV t ∧ l2.lookup p.1 = some (tyV t)) → KeqHits A.in1 s kb ka true
  | _, _, .nil, _ => .nil
  | _, _, @RepD.cons _ _ k x v l vs rx rl, h => by
    obtain ⟨t, ht, e, hk⟩ := h (k, x) (.head _)
    dsimp only at e
    subst e
    obtain ⟨y, hy, ry⟩ := r2.look hk
    have ih := hits_of hl hu r2 rl fun p hp => h p (.tail _ hp)
    obtain ⟨as, xa⟩ := reads_of hl rx (data_ty t)
    obtain ⟨bs, xb⟩ := reads_of hl ry (data_ty t)
    have hq := keq_at (A := A) xa xb (shaped_ty ht) (shaped_ty ht) hu
    rw [tyD_eqv, decide_eq_true rfl] at hq
    have := KeqHits.hit (by rw [valueAt_lookup]; exact hy) hq ih
    simpa using this
theorem alike_dct {A : Around} {s : Shared} {fz : OH} (hl : Le fz s.heap.get?) (hu : A.units < cLine) (hu2 : A.in1.units + 64 < cLine) {l1 l2 : List (Str × V)} {v1 v2 : Value} (r1 : RepV C fz (.dct l1) v1) (r2 : RepV C fz (.dct l2) v2) (hs : SameD l1 l2) : Alike C.prog C.w A s v1 v2 := by
  obtain ⟨a, o, kvs, rfl, h1, h2, h3, h4⟩ := r1.inv
  obtain ⟨b, o', kvs', rfl, k1, k2, k3, k4⟩ := r2.inv
  by_cases hab : a = b
  · subst hab; exact alike_of (EqAt.same _)
  · intro Q E hq
    have d1 : s.heap.DictOf (strKind C.prog C.w) a kvs := Heap.dictOf_iff.mpr ⟨_, hl _ _ h1, h2⟩
    have d2 : s.heap.DictOf (strKind C.prog C.w) b kvs' := Heap.dictOf_iff.mpr ⟨_, hl _ _ k1, k2⟩
    unfold eqBool
    refine wpAny_holding ?_
    refine wpAny_ite_split (fun e => absurd (by have := eq_of_beq e; injection this) hab) (fun _ => ?_)
    have e1 := h4.keys
    have e2 := k4.keys
    have e3 : kvs.length = kvs'.length := by
      have := congrArg List.length e1
      have := congrArg List.length e2
      have := hs.1
      simp at *; omega
    refine wpAny_bind (keq_eq h3 k3 d1 d2 hu (fun _ => hits_of hl hu2 k4 h4 hs.2) ?_)
    rw [e3, beq_self_eq_true, Bool.true_and]
    exact wpAny_truthy_bool hq
theorem ne_impl {x : Str} {i : Int} {l1 l2 : List (Str × V)} {Q : V → ST → Prop} (hs : SameD l1 l2) (h : Q (.bool false) st) : op2 C n env (compareOp .NotEq) (.tup [.str x, .int i, .dct l1]) (.tup [.str x, .int i, .dct l2]) st Q := fun fz va vb ra rb A hA kp s r => by
  obtain ⟨a, xs, m, rfl, h1, h2⟩ := ra.inv
  obtain ⟨b, ys, m', rfl, k1, k2⟩ := rb.inv
  obtain ⟨xs⟩ := xs
  obtain ⟨ys⟩ := ys
  obtain ⟨_, _, rfl, a1, h2⟩ := h2.inv
  obtain ⟨_, _, rfl, a2, h2⟩ := h2.inv
  obtain ⟨_, _, rfl, a3, h2⟩ := h2.inv
  cases h2
  obtain ⟨_, _, rfl, b1, k2⟩ := k2.inv
  obtain ⟨_, _, rfl, b2, k2⟩ := k2.inv
  obtain ⟨_, _, rfl, b3, k2⟩ := k2.inv
  cases k2
  have hu := hA.units
  refine ne_tup3 (r.fzs _ _ h1) (r.fzs _ _ k1) (by omega) ?_ ?_ (alike_dct r.fzs ?_ ?_ a3 b3 hs) ⟨fz, _, st, Le.refl _, .bool _, r, h⟩
  · obtain ⟨t, rfl⟩ := a1.inv
    obtain ⟨u, rfl⟩ := b1.inv
    exact alike_of (by have := EqAt.str_str (A := A.in1) (s := s) x t x u; rwa [beq_self_eq_true] at this)
  · obtain ⟨t, rfl⟩ := a2.inv
    obtain ⟨u, rfl⟩ := b2.inv
    exact alike_of (by have := EqAt.int_int (A := A.in1) (s := s) i t i u; rwa [beq_self_eq_true] at this)
  · have e1 : A.in1.units = A.units + 1 := rfl
    omega
  · have e1 : A.in1.in1.units = A.units + 1 + 1 := rfl
    omega
end
theorem same_dz {T : Ty} (h : hgt T ≤ 3) : SameD (fndV T 0) (dz [V.str "T", V.str "U"] ((parts T).map tyV)) := by
  have tu : ((Str.ofString "U" : Str) == Str.ofString "T") = false := by decide +kernel
  cases T with
  | box t =>
    refine ⟨rfl, fun p hp => ?_⟩
    have hp : p ∈ [((Str.ofString "T" : Str), tyV t)] := hp
    rw [List.mem_singleton] at hp
    subst hp
    exact ⟨t, by simp [hgt] at h; omega, rfl, rfl⟩
  | pair a b =>
    have e : dz [V.str "T", V.str "U"] ((parts (.pair a b)).map tyV) = [(Str.ofString "T", tyV a), (Str.ofString "U", tyV b)] := by
      show stoD [(Str.ofString "T", tyV a)] (Str.ofString "U") (tyV b) = _
      rw [stoD_new (by rw [List.lookup_cons, tu]; rfl)]
      rfl
    rw [e]
    refine ⟨rfl, fun p hp => ?_⟩
    have hp : p ∈ [((Str.ofString "U" : Str), tyV b), ((Str.ofString "T" : Str), tyV a)] := hp
    simp only [hgt] at h
    simp only [List.mem_cons, List.not_mem_nil, or_false] at hp
    rcases hp with rfl | rfl
    · exact ⟨b, by omega, rfl, lk_there tu lk_here⟩
    · exact ⟨a, by omega, rfl, lk_here⟩
  | _ => exact ⟨rfl, fun p hp => by cases hp⟩
theorem hit_uniq {rs : List RowS} {T : Ty} {tr : Str} {r r' : RowS} (hrs : RowsOk rs) (h : r ∈ rs) (hh : hitT T tr r = true) (h' : r' ∈ rs) (hh' : hitT T tr r' = true) : r = r' := by
  have ho := hit_once hrs T tr
  have m1 := List.mem_filter.mpr ⟨h, hh⟩
  have m2 := List.mem_filter.mpr ⟨h', hh'⟩
  generalize rs.filter (hitT T tr) = l at ho m1 m2
  match l, ho with
  | [], _ => cases m1
  | [x], _ =>
    rw [List.mem_singleton] at m1 m2
    rw [m1, m2]
theorem due_c (hK : C.K = KK C.w.params) {rs : List RowS} {bd : List Str} (hrs : RowsOk rs) {T : Ty} {tr : Str} {Q : V → ST → Prop} (htr : tr ∈ abc) (hv : T ≠ .var)
    (h1 : T = .par → tr ∈ bd → Q (.tup [.str "bound", .str "X"]) st) (h1' : T = .par → tr ∉ bd → Q .none st) (h2 : T ≠ .par → ans rs bd T tr = 0 → Q .none st)
    (h3 : T ≠ .par → ans rs bd T tr ≠ 0 → ∀ r ∈ rs, hitT T tr r = true → Q (.tup [.str "impl", .int r.num, .dct (dz [V.str "T", V.str "U"] ((parts T).map tyV))]) st) :
    clc C (n + 2) env (.val (.ref 288)) [.dct (kwV rs), .str tr, tyV T, .dct (ansV rs bd T), .tup (bd.map V.str)] st Q := by
  refine clc_dk (f := 288) [("known", .dct (kwV rs)), ("trait", .str tr), ("T", tyV T), ("answers", .dct (ansV rs bd T)), ("bounds", .tup (bd.map V.str))] [("bounds", .tup (bd.map V.str)), ("answers", .dct (ansV rs bd T)), ("T", tyV T), ("trait", .str tr), ("known", .dct (kwV rs))] (by rw [hK]; rfl) (by rw [hK]; kernel_rfl) (binds5 fun _ _ _ _ _ => rfl) (by kernel_rfl) (by kernel_rfl) (by kernel_rfl) (by kernel_rfl) (by kernel_rfl) rfl fun L' => ?_
  refine ex_cons ?_
  repeat kas_types
  refine sub_tag (fun _ _ => rfl) ?_
  repeat kas_types
  by_cases hp : T = .par
  · rw [if_pos (by subst hp; simp only [tyTag]; decide +kernel)]
    repeat kas_types
    refine in_tup ?_
    repeat kas_types
    by_cases hb : tr ∈ bd
    · rw [if_pos (by simpa using hb)]
      repeat kas_types
      exact fin_ret (h1 hp hb)
    · rw [if_neg (by simpa using hb)]
      repeat kas_types
      exact fin_ret (h1' hp hb)
  rw [if_neg (by cases T <;> first | exact absurd rfl hp | (simp only [tyTag]; decide +kernel))]
  repeat kas_types
  refine sub_dctF (fun _ _ => rfl) (look_abc htr) ?_
  repeat kas_types
  by_cases h0 : ans rs bd T tr = 0
  · rw [if_pos (by simp [h0])]
    repeat kas_types
    exact fin_ret (h2 hp h0)
  rw [if_neg (by simp [h0])]
  obtain ⟨_, ea⟩ | ⟨r, _, _, hr, hh⟩ := rows_cases (bd := bd) (tr := tr) hrs hv (fun e => hp e.1)
  · exact absurd ea h0
  obtain ⟨k, hk⟩ : ∃ k, kdOf T = some k := by cases T <;> first | exact ⟨_, rfl⟩ | exact absurd rfl hp | exact absurd rfl hv
  have ef : (fun r : RowS => r.tr == tr && decide (some k = some r.kd)) = hitT T tr := by funext r; unfold hitT; rw [hk]
  have el : (knR rs tr).lookup (kdN k) = some (.tup [.int r.num, .lst (r.ps.map fun p => needV p.2)]) := by
    rw [knR_look, ef]
    have ho := hit_once hrs T tr
    have m1 := List.mem_filter.mpr ⟨hr, hh⟩
    generalize rs.filter (hitT T tr) = l at ho m1
    match l, ho with
    | [], _ => cases m1
    | [x], _ =>
      rw [List.mem_singleton] at m1
      rw [m1]; rfl
  repeat kas_types
  refine sub_dctF (fun _ _ => rfl) (look_abc htr) ?_
  repeat kas_types
  refine sub_tag (fun _ _ => rfl) ?_
  refine sub_dctF (fun _ _ => rfl) (kd_dict hk) ?_
  refine sub_dctF (fun _ _ => rfl) el ?_
  repeat kas_types
  refine sub_tup (j := 0) (fun _ _ => rfl) rfl (by decide) rfl ?_
  iterate 8 kas_types
  refine evl_cons (by kernel_rfl) ?_
  refine ev_DictZip (by rfl) (by rfl) (by rfl) (by rfl) (by rfl) (by rfl) ?_
  refine ev_bt (b_dict hK) v_dict (by kernel_rfl) (by kernel_rfl) (by kernel_rfl) (by kernel_rfl) (by kernel_rfl) (by kernel_rfl) ⟨rfl, ?_⟩
  refine ev_bt (b_zip hK) v_zip (by kernel_rfl) (by kernel_rfl) (by kernel_rfl) (by kernel_rfl) (by kernel_rfl) (by kernel_rfl) ⟨rfl, ?_⟩
  repeat kas_types
  refine ev_call2 (parts_c hK ?_) (by omega : 0 + 1 ≤ n + 1)
  repeat kas_types
  refine ⟨_, _, [V.str "T", V.str "U"], (parts T).map tyV, rfl, ⟨by decide +kernel, chs_TU.symm⟩, rfl, by simp, by simp, ?_⟩
  repeat kas_types
  exact fin_ret (h3 hp h0 r hr hh)
section
variable {C : Cx} {n : Nat} {env : Env} {st : ST}
def ndD (p : Str × Ty) : PyData := .tuple [.str p.1, tyD p.2]
theorem data_nd (l : List (Str × Ty)) : dataL (l.map ndV) = some (l.map ndD) := by
  induction l with
  | nil => rfl
  | cons p l ih =>
    have e : dataV (ndV p) = some (ndD p) := by simp [ndV, ndD, dataV, dataL, data_ty]
    simp only [List.map_cons, dataL, e, ih]
theorem shaped_nd {l : List (Str × Ty)} (h : ∀ p ∈ l, p.1 ∈ abc ∧ hgt p.2 ≤ 3) : shaped (.list (l.map ndD)) = true := by
  have h1 : PyData.canLayAll0 (l.map ndD) = true := by
    induction l with
    | nil => rfl
    | cons p l ih =>
      have e : PyData.canLay0 (ndD p) = true := by
        simp [ndD, PyData.canLay0, PyData.canLayAll0, canLay_ty, okAbc (h p (.head _)).1]
      simp only [List.map_cons, PyData.canLayAll0, e, Bool.true_and]
      exact ih fun q hq => h q (.tail _ hq)
  have h2 : PyData.depthAll (l.map ndD) ≤ 20 := by
    induction l with
    | nil => simp [PyData.depthAll]
    | cons p l ih =>
      have e1 := depth_ty p.2
      have e2 := (h p (.head _)).2
      have ih := ih (fun q hq => h q (.tail _ hq)) (by simp only [List.map_cons, PyData.canLayAll0, Bool.and_eq_true] at h1; exact h1.2)
      simp only [List.map_cons, PyData.depthAll, ndD, PyData.depth]
      omega
  unfold shaped
  rw [Bool.and_eq_true]
  refine ⟨by simpa [PyData.canLay0] using h1, decide_eq_true ?_⟩
  simp only [PyData.depth]
  omega
theorem cmp_same {l : List (Str × Ty)} {Q : V → ST → Prop} (h : ∀ p ∈ l, p.1 ∈ abc ∧ hgt p.2 ≤ 3) (hq : Q (.bool true) st) : op2 C n env (compareOp .Eq) (.lst (l.map ndV)) (.lst (l.map ndV)) st Q := by
  have hd : dataV (.lst (l.map ndV)) = some (.list (l.map ndD)) := by simp [dataV, data_nd]
  have hs := shaped_nd h
  refine cmp_deq hd hd hs hs ?_
  rw [eqv_refl _ (canLay_of_shaped hs)]
  exact hq
theorem ne_none {Q : V → ST → Prop} (h : Q (.bool false) st) : op2 C n env (compareOp .NotEq) .none .none st Q := cmp_dne (da := .none) (db := .none) rfl rfl (by decide) (by decide) h
theorem ne_bound {Q : V → ST → Prop} (h : Q (.bool false) st) : op2 C n env (compareOp .NotEq) (.tup [.str "bound", .str "X"]) (.tup [.str "bound", .str "X"]) st Q :=
  cmp_dne (da := .tuple [.str "bound", .str "X"]) (db := .tuple [.str "bound", .str "X"]) (by simp [dataV, dataL]) (by simp [dataV, dataL]) (by decide +kernel) (by decide +kernel) (by
    rw [show PyData.eqv (.tuple [.str "bound", .str "X"]) (.tuple [.str "bound", .str "X"]) = true from eqv_refl _ (by decide +kernel)]; exact h)
def abV : List Str := ["A", "B"]
theorem chs_AB : chs "AB" = abV.map V.str := by
  have e : ("AB" : Str).cps.toList = [65, 66] := by decide +kernel
  unfold chs abV
  rw [e]
  have e1 : (⟨#[65]⟩ : Str) = ("A" : Str) := by decide +kernel
  have e2 : (⟨#[66]⟩ : Str) = ("B" : Str) := by decide +kernel
  simp only [List.map_cons, List.map_nil, e1, e2]
theorem walk_AB : walkable (.str "AB") (abV.map V.str) := ⟨by decide +kernel, chs_AB.symm⟩
end
def selOf (rs : List RowS) (bd : List Str) (T : Ty) (tr : Str) (l : List (Str × V)) : V := if T = .par ∧ tr ∈ bd then .tup [.str "bound", .str "X"] else if ans rs bd T tr = 0 then .none else match rs.filter (hitT T tr) with
  | r :: _ => .tup [.str "impl", .int r.num, .dct l]
  | [] => .none
theorem selOf_hit {rs : List RowS} {bd : List Str} {T : Ty} {tr : Str} {l : List (Str × V)} {r : RowS} (hrs : RowsOk rs) (hp : ¬ (T = .par ∧ tr ∈ bd)) (h0 : ans rs bd T tr ≠ 0) (hr : r ∈ rs) (hh : hitT T tr r = true) : selOf rs bd T tr l = .tup [.str "impl", .int r.num, .dct l] := by
  unfold selOf
  rw [if_neg hp, if_neg h0]
  have ho := hit_once hrs T tr
  have m1 := List.mem_filter.mpr ⟨hr, hh⟩
  generalize rs.filter (hitT T tr) = l at ho m1
  match l, ho with
  | [], _ => cases m1
  | [x], _ =>
    rw [List.mem_singleton] at m1
    rw [m1]
theorem select_v (hK : C.K = KK C.w.params) {BL W : List (Str × V)} {rs : List RowS} {bd : List Str} {T : Ty} {tr : Str} {Q : V → ST → Prop} (S : Sx BL W rs bd) (hT : hgt T ≤ 3) (htr : tr ∈ abc) (hv : T ≠ .var)
    (h : Q (selOf rs bd T tr (fndV T 0)) st) : clc C (n + 29) env (.val (.ref 160)) [.ins 221 W, .str tr, .tup [], tyV T, .dct BL] st Q :=
  select_c hK S hT htr hv (fun hp => by unfold selOf at h; rw [if_pos hp] at h; exact h) (fun hp h0 => by unfold selOf at h; rw [if_neg hp, if_pos h0] at h; exact h)
    (fun hp r hr hh h0 => by rw [selOf_hit S.r hp h0 hr hh] at h; exact h)
theorem due_v (hK : C.K = KK C.w.params) {rs : List RowS} {bd : List Str} (hrs : RowsOk rs) {T : Ty} {tr : Str} {Q : V → ST → Prop} (htr : tr ∈ abc) (hv : T ≠ .var)
    (h : Q (selOf rs bd T tr (dz [V.str "T", V.str "U"] ((parts T).map tyV))) st) : clc C (n + 2) env (.val (.ref 288)) [.dct (kwV rs), .str tr, tyV T, .dct (ansV rs bd T), .tup (bd.map V.str)] st Q :=
  due_c hK hrs htr hv (fun e hb => by unfold selOf at h; rw [if_pos ⟨e, hb⟩] at h; exact h)
    (fun e hb => by
      have h0 : ans rs bd T tr = 0 := by subst e; unfold ans; rw [if_neg hb]
      unfold selOf at h; rw [if_neg (fun x => hb x.2), if_pos h0] at h; exact h)
    (fun e h0 => by unfold selOf at h; rw [if_neg (fun x => e x.1), if_pos h0] at h; exact h)
    (fun e h0 r hr hh => by rw [selOf_hit hrs (fun x => e x.1) h0 hr hh] at h; exact h)
theorem ne_sel {rs : List RowS} {bd : List Str} {T : Ty} {tr : Str} {Q : V → ST → Prop} (hrs : RowsOk rs) (hT : hgt T ≤ 3) (hv : T ≠ .var) (h : Q (.bool false) st) : op2 C n env (compareOp .NotEq) (selOf rs bd T tr (fndV T 0)) (selOf rs bd T tr (dz [V.str "T", V.str "U"] ((parts T).map tyV))) st Q := by
  by_cases hp : T = .par ∧ tr ∈ bd
  · unfold selOf
    rw [if_pos hp, if_pos hp]
    exact ne_bound h
  by_cases h0 : ans rs bd T tr = 0
  · unfold selOf
    rw [if_neg hp, if_pos h0, if_neg hp, if_pos h0]
    exact ne_none h
  obtain ⟨_, ea⟩ | ⟨r, _, _, hr, hh⟩ := rows_cases (bd := bd) (tr := tr) hrs hv hp
  · exact absurd ea h0
  rw [selOf_hit hrs hp h0 hr hh, selOf_hit hrs hp h0 hr hh]
  exact ne_impl (same_dz hT) h
def dueL (rs : List RowS) (bd : List Str) (T : Ty) : List (Str × Ty) := ((abV.filter fun t => decide (ans rs bd T t = 0)).map fun t => (t, T)) ++ (if ans rs bd .boo "C" = 0 then [(Str.ofString "C", Ty.boo)] else [])
def unPs (T : Ty) : List (Str × List Str × Ty) := [("N", abV, T), ("M", [Str.ofString "C"], .boo)]
theorem un_eq (rs : List RowS) (bd : List Str) (T : Ty) : (unPs T).flatMap (umV rs bd) = (dueL rs bd T).map ndV := by
  unfold unPs dueL
  rw [List.flatMap_cons, List.flatMap_cons, List.flatMap_nil, List.append_nil, List.map_append]
  congr 1
  · unfold umV
    rw [List.map_map]
    rfl
  · unfold umV
    by_cases h : ans rs bd .boo (Str.ofString "C") = 0
    · rw [if_pos h]; simp [h]; rfl
    · rw [if_neg h]; simp [h]
theorem dueL_ok {rs : List RowS} {bd : List Str} {T : Ty} (hT : hgt T ≤ 3) : ∀ p ∈ dueL rs bd T, p.1 ∈ abc ∧ hgt p.2 ≤ 3 := by
  intro p hp
  unfold dueL at hp
  rcases List.mem_append.mp hp with hp | hp
  · obtain ⟨t, ht, rfl⟩ := List.mem_map.mp hp
    have := (List.mem_filter.mp ht).1
    exact ⟨by revert this; have : ∀ t ∈ abV, t ∈ abc := by decide +kernel
              exact this t, hT⟩
  · split at hp
    · rw [List.mem_singleton] at hp; subst hp; exact ⟨by decide +kernel, by decide⟩
    · cases hp
theorem unPs_ok {T : Ty} (hT : hgt T ≤ 3) : ∀ p ∈ unPs T, p.2.1.length ≤ 3 ∧ (∀ t ∈ p.2.1, t ∈ abc) ∧ hgt p.2.2 ≤ 3 ∧ (mrg [(Str.ofString "N", tyV T), (Str.ofString "M", tyV .boo)]).lookup p.1 = some (tyV p.2.2) := by
  intro p hp
  unfold unPs at hp
  simp only [List.mem_cons, List.not_mem_nil, or_false] at hp
  rcases hp with rfl | rfl
  · exact ⟨Nat.le_of_ble_eq_true rfl, (by decide +kernel : ∀ t ∈ abV, t ∈ abc), hT, rfl⟩
  · exact ⟨Nat.le_of_ble_eq_true rfl, (by decide +kernel : ∀ t ∈ [Str.ofString "C"], t ∈ abc), by decide, rfl⟩
theorem right_c (hK : C.K = KK C.w.params) {W : List (Str × V)} {rs : List RowS} {bd : List Str} {T : Ty} {tr : Str} {Q : V → ST → Prop} (hW : List.lookup ("impls" : Str) W = some (.lst (rs.map rowS))) (hrs : RowsOk rs) (hT : hgt T ≤ 3) (htr : tr ∈ abc) (h : Q (.bool true) st) : clc C (n + 40) env (.val (.ref 293)) [.ins 221 W, .dct (kwV rs), .tup (bd.map V.str), tyV T, .str tr] st Q := by
  have S : Sx [(Str.ofString "X", .tup (bd.map V.str))] W rs bd := ⟨hW, rfl, hrs⟩
  refine clc_dkC (f := 293) [("world", .ins 221 W), ("known", .dct (kwV rs)), ("bounds", .tup (bd.map V.str)), ("T", tyV T), ("trait", .str tr)] [("world", .ins 221 W), ("known", .dct (kwV rs)), ("bounds", .tup (bd.map V.str)), ("trait", .str tr)] ["world", "known", "bounds", "T", "trait"] (by rw [hK]; rfl) (by rw [hK]; kernel_rfl) (binds5 fun _ _ _ _ _ => rfl) rfl (by kernel_rfl) (by decide +kernel) (by decide +kernel) (by decide +kernel) (by kernel_rfl) (by kernel_rfl) (by kernel_rfl) (by rfl) fun L' mu' hcell hle => ?_
  obtain ⟨c1, n1⟩ := hcell "T" (L' + 1) (by rfl)
  obtain ⟨c2, n2⟩ := hcell "answers" (L' + 2) (by rfl)
  have e1 : List.lookup (Str.ofString "T") [(Str.ofString "world", V.ins 221 W), (Str.ofString "known", V.dct (kwV rs)), (Str.ofString "bounds", V.tup (bd.map V.str)), (Str.ofString "T", tyV T), (Str.ofString "trait", V.str tr)] = some (tyV T) := by with_unfolding_all exact rfl
  have e2 : List.lookup (Str.ofString "answers") [(Str.ofString "world", V.ins 221 W), (Str.ofString "known", V.dct (kwV rs)), (Str.ofString "bounds", V.tup (bd.map V.str)), (Str.ofString "T", tyV T), (Str.ofString "trait", V.str tr)] = none := by with_unfolding_all exact rfl
  rw [e1] at c1
  rw [e2] at c2
  refine ex_cons ?_
  repeat kas_types
  refine ev_cell (c := L' + 1) (v := tyV T) (by rfl) (.inl (by rfl)) (by rfl) c1 (by kernel_rfl) (by kernel_rfl) ?_
  repeat kas_types
  refine ev_call2 (answers_c hK hrs 3 hT ?_) (by omega : 3 + 2 ≤ n + 39)
  refine sto_cell (c := L' + 2) (by kernel_rfl) (by kernel_rfl) (by rfl) c2 ?_
  dsimp only
  have d1 : insM mu' (L' + 2) (.cell (some (.dct (ansV rs bd T)))) (L' + 1) = some (.cell (some (tyV T))) := by rw [insM_other _ _ (Nat.ne_of_lt (Nat.lt_succ_self (L' + 1)))]; exact c1
  have d2 : insM mu' (L' + 2) (.cell (some (.dct (ansV rs bd T)))) (L' + 2) = some (.cell (some (.dct (ansV rs bd T)))) := insM_self ..
  have hle2 : LeM st.mu (insM mu' (L' + 2) (.cell (some (.dct (ansV rs bd T))))) := hle.ins2' n2
  generalize insM mu' (L' + 2) (.cell (some (.dct (ansV rs bd T)))) = mu2 at d1 d2 hle2 ⊢
  repeat kas_types
  refine ev_cell (c := L' + 1) (v := tyV T) (by rfl) (.inl (by rfl)) (by rfl) d1 (by kernel_rfl) (by kernel_rfl) ?_
  repeat kas_types
  refine ev_call2 (holds_c (n := 0) hK S hT htr ?_) (by omega : 0 + 29 ≤ n + 39)
  repeat kas_types
  refine ev_cell (c := L' + 2) (v := .dct (ansV rs bd T)) (by rfl) (.inl (by rfl)) (by rfl) d2 (by kernel_rfl) (by kernel_rfl) ?_
  repeat kas_types
  refine sub_dctF (fun _ _ => rfl) (look_abc htr) ?_
  repeat kas_types
  refine cmp_bne ?_
  refine tru_bool ?_
  rw [if_neg (by
    have : ∀ a : Nat, (decide (a = 2) != ((a : Int) == 2)) = false := fun a => by
      by_cases e : a = 2
      · subst e; rfl
      · have : ((a : Int) == 2) = false := beq_eq_false_iff_ne.mpr (by omega)
        rw [this, decide_eq_false e]; rfl
    rw [this]; decide)]
  refine ex_nil ?_
  refine ex_cons ?_
  refine ex1.mono (Q := fun f s => f = .next ∧ s = ⟨[(Str.ofString "world", V.ins 221 W), (Str.ofString "known", V.dct (kwV rs)), (Str.ofString "bounds", V.tup (bd.map V.str)), (Str.ofString "trait", V.str tr)], mu2⟩) ?_ ?_
  · repeat kas_types
    refine ev_cell (c := L' + 1) (v := tyV T) (by rfl) (.inl (by rfl)) (by rfl) d1 (by kernel_rfl) (by kernel_rfl) ?_
    repeat kas_types
    refine sub_tag (fun _ _ => rfl) ?_
    repeat kas_types
    by_cases hv : T = .var
    · rw [if_neg (by subst hv; simp only [tyTag]; decide +kernel)]
      rw [if_neg (by decide)]
      repeat kas_types
      exact ⟨rfl, rfl⟩
    · rw [if_pos (by cases T <;> first | exact absurd rfl hv | (simp only [tyTag]; decide +kernel))]
      repeat kas_types
      refine ev_cell (c := L' + 1) (v := tyV T) (by rfl) (.inl (by rfl)) (by rfl) d1 (by kernel_rfl) (by kernel_rfl) ?_
      repeat kas_types
      refine ev_call2 (select_v (n := 0) hK S hT htr hv ?_) (by omega : 0 + 29 ≤ n + 39)
      repeat kas_types
      refine ev_cell (c := L' + 1) (v := tyV T) (by rfl) (.inl (by rfl)) (by rfl) d1 (by kernel_rfl) (by kernel_rfl) ?_
      repeat kas_types
      refine ev_cell (c := L' + 2) (v := .dct (ansV rs bd T)) (by rfl) (.inl (by rfl)) (by rfl) d2 (by kernel_rfl) (by kernel_rfl) ?_
      repeat kas_types
      refine ev_call2 (due_v (n := 0) hK hrs htr hv ?_) (by omega : 0 + 2 ≤ n + 39)
      refine ne_sel hrs hT hv ?_
      repeat kas_types
      exact ⟨rfl, rfl⟩
  · rintro _ _ ⟨rfl, rfl⟩
    repeat kas_types
    refine ev_cell (c := L' + 1) (v := tyV T) (by rfl) (.inl (by rfl)) (by rfl) d1 (by kernel_rfl) (by kernel_rfl) ?_
    repeat kas_types
    refine ev_call2 (unmet_c (n := 0) (ps := unPs T) (fl := mrg [(Str.ofString "N", tyV T), (Str.ofString "M", tyV .boo)]) hK S (Nat.le_of_ble_eq_true rfl) (unPs_ok hT) ?_) (by omega : 0 + 29 ≤ n + 39)
    rw [un_eq]
    repeat kas_types
    refine ev_call2 (answers_c (T := .boo) hK hrs 3 (by decide) ?_) (by omega : 3 + 2 ≤ n + 39)
    repeat kas_types
    refine ev_ListComp (k := fun D L => do let _ ← call (.builtin "list.append") [.ref D, ← eval _ (compEnvC _ _ L _)]) (fun _ => rfl) (cl := [("answers", L' + 2), ("T", L' + 1)]) (by rfl) (by rfl) (by decide +kernel) (by decide +kernel) (fun I D L => by rfl)
      (fun xs i ys st2 => xs = abV.map V.str ∧ ys = (((abV.take i).filter fun t => decide (ans rs bd T t = 0)).map fun t => ndV (t, T)) ∧ ys.length ≤ i ∧ st2.mu = mu2) ?_ ?_
    · refine itr_ev ?_
      repeat kas_types
      refine ⟨_, walk_AB, by decide, ⟨rfl, rfl, by simp, rfl⟩, ?_⟩
      rintro ys st2 ⟨_, rfl, hyl, hmu⟩
      refine ⟨st2.mu, LeM.refl _, ?_⟩
      rw [hmu]
      repeat kas_types
      refine sub_dctF (fun _ _ => rfl) (look_abc (t := Str.ofString "C") (by decide +kernel)) ?_
      repeat kas_types
      refine cl_intb ?_
      have hyl2 : (((abV.take (abV.map V.str).length).filter fun t => decide (ans rs bd T t = 0)).map fun t => ndV (t, T)).length ≤ 2 := hyl
      have eab : abV.take (abV.map V.str).length = abV := rfl
      rw [eab] at hyl2 ⊢
      have fin : ∀ k : Nat, k ≤ 1 → ((k = 1 ∧ ans rs bd .boo (Str.ofString "C") = 0) ∨ (k = 0 ∧ ans rs bd .boo (Str.ofString "C") ≠ 0)) →
          ((abV.filter fun t => decide (ans rs bd T t = 0)).map fun t => ndV (t, T)) ++ List.flatten (List.replicate k [V.tup [.str (Str.ofString "C"), .tup [.str (Str.ofString "bool")]]]) = (dueL rs bd T).map ndV := fun k hk h => by
        unfold dueL
        rw [List.map_append, List.map_map]
        congr 1
        rcases h with ⟨rfl, h⟩ | ⟨rfl, h⟩
        · rw [if_pos h]; rfl
        · rw [if_neg h]; rfl
      by_cases hC : ans rs bd .boo (Str.ofString "C") = 0
      · rw [if_pos (by simp [hC])]
        refine bop_mulL (k := 1) (by decide) (by simp) ?_
        refine bop_addL (by simp at hyl2 ⊢; omega) ?_
        rw [fin 1 (by decide) (.inl ⟨rfl, hC⟩)]
        repeat kas_types
        refine cmp_same (dueL_ok hT) ?_
        repeat kas_types
        exact ⟨st.mu, hle2, h⟩
      · rw [if_neg (by simp [hC])]
        refine bop_mulL (k := 0) (by decide) (by simp) ?_
        refine bop_addL (by simp at hyl2 ⊢; omega) ?_
        rw [fin 0 (by decide) (.inr ⟨rfl, hC⟩)]
        repeat kas_types
        refine cmp_same (dueL_ok hT) ?_
        repeat kas_types
        exact ⟨st.mu, hle2, h⟩
    · rintro Lc Dc xs q x ys st2 hx ⟨rfl, rfl, hyl, hmu⟩
      obtain ⟨l8, m8⟩ := st2
      dsimp only at hmu
      subst hmu
      obtain ⟨t, ht, rfl⟩ : ∃ t, abV[q]? = some t ∧ V.str t = x := by simpa using hx
      have hq : q < 2 := (List.getElem?_eq_some_iff.mp ht).1
      have htb : t ∈ abc := by
        have h1 := List.mem_of_getElem? ht
        have : ∀ t ∈ abV, t ∈ abc := by decide +kernel
        exact this t h1
      repeat kas_types
      refine trs_one ?_
      repeat kas_types
      refine ev_cell (c := L' + 2) (v := .dct (ansV rs bd T)) (by rfl) (.inl (by rfl)) (by rfl) d2 (by kernel_rfl) (by kernel_rfl) ?_
      repeat kas_types
      refine sub_dctF (fun _ _ => rfl) (look_abc htb) ?_
      repeat kas_types
      by_cases h0 : ans rs bd T t = 0
      · rw [if_pos (by simp [h0])]
        refine accj_emit (by omega) ?_
        repeat kas_types
        refine ev_cell (c := L' + 1) (v := tyV T) (by rfl) (.inl (by rfl)) (by rfl) d1 (by kernel_rfl) (by kernel_rfl) ?_
        repeat kas_types
        refine ⟨rfl, ?_, ?_, rfl⟩
        · rw [List.take_add_one, ht, List.filter_append, List.map_append]
          congr 1
          simp [h0, ndV]
        · rw [List.length_append, List.length_singleton]; omega
      · rw [if_neg (by simp [h0])]
        refine ⟨rfl, ?_, by omega, rfl⟩
        rw [List.take_add_one, ht, List.filter_append, List.map_append]
        simp [h0]
theorem b_max (hK : C.K = KK C.w.params) : nsIn C.K mainGlobals (Str.ofString "max") = some none := by rw [hK]; kernel_rfl
theorem v_max : bootBuiltins (Str.ofString "max") = some (.builtin "max") := by kernel_rfl
theorem g_law_pool (hK : C.K = KK C.w.params) : nsIn C.K mainGlobals (Str.ofString "_law_pool") = some (some (.ref 232)) := by rw [hK]; kernel_rfl
theorem k_law_pool (hK : C.K = KK C.w.params) : keepIn C.K (.ref 232) = true := by rw [hK]; kernel_rfl
theorem cl_max2 {a b : Int} {Q : V → ST → Prop} (h : Q (.int (if b > a then b else a)) st) : cl C n env (.val (.builtin "max")) [.int a, .int b] st Q := fun fz vf vs rf rs A hA kp s r => by
  (first | obtain ⟨_, rfl⟩ := rf.inv | obtain rfl := rf.inv)
  obtain ⟨_, _, rfl, r1, rs⟩ := rs.inv
  obtain ⟨_, _, rfl, r2, rs⟩ := rs.inv
  (first | obtain ⟨_, rfl⟩ := rs.inv | obtain rfl := rs.inv)
  obtain ⟨t, rfl⟩ := r1.inv
  obtain ⟨u, rfl⟩ := r2.inv
  refine max_two_ints hA.1 fun h' tk hk => ?_
  by_cases hc : b > a
  · rw [if_pos hc] at h ⊢
    exact ⟨fz, .int b, st, Le.refl _, .int _ _, r.ext tk hk, h⟩
  · rw [if_neg hc] at h ⊢
    exact ⟨fz, .int a, st, Le.refl _, .int _ _, r.ext tk hk, h⟩
theorem bop_pow {a : Int} {k : Nat} {Q : V → ST → Prop} (hs : (Builtin.Int.intBits a : Int) * (k : Int) ≤ 2 ^ 27) (h : Q (.int (a ^ k)) st) : op2 C n env (binaryOp .Pow) (.int a) (.int k) st Q := fun fz va vb ra rb A hA kp s r => by
  obtain ⟨t, rfl⟩ := ra.inv
  obtain ⟨u, rfl⟩ := rb.inv
  exact PyProof.Rows.pow_int (Int.natCast_nonneg k) hs ⟨fz, .int _, st, Le.refl _, by rw [Int.toNat_natCast]; exact .int _ _, r.toks _, h⟩
theorem pool_c (hK : C.K = KK C.w.params) {is : List Int} {Q : V → ST → Prop} (hl : is.length ≤ 63) (h : ∀ a s0 s1, st.mu a = none → SrcOk s0 s1 → Q (.val (.ref a)) ⟨st.loc, insM st.mu a (srcM s0 s1)⟩) : clc C (n + 1) env (.val (.ref 232)) [.lst (is.map V.int), .int 0] st Q := by
  refine clc_dk (f := 232) [("script", .lst (is.map V.int)), ("k", .int 0)] [("k", .int 0), ("script", .lst (is.map V.int))] (by rw [hK]; rfl) (by rw [hK]; kernel_rfl) (binds2 fun _ _ => rfl) (by kernel_rfl) (by kernel_rfl) (by kernel_rfl) (by kernel_rfl) (by kernel_rfl) rfl fun L' => ?_
  refine ex_cons ?_
  -- the first cell, or none
  refine ex1.mono (Q := fun f s => f = .next ∧ ∃ cell : Int, s = ⟨(Str.ofString "cell", .int cell) :: [(Str.ofString "k", .int 0), (Str.ofString "script", .lst (is.map V.int))], st.mu⟩) ?_ ?_
  · repeat kas_types
    refine cl_len_lstF (by rw [List.length_map]; omega) ?_
    repeat kas_types
    cases is with
    | nil =>
      rw [if_neg (by simp)]
      repeat kas_types
      exact ⟨rfl, 0, rfl⟩
    | cons i is =>
      rw [if_pos (by simp <;> omega)]
      repeat kas_types
      refine sub_lstF (x := .int i) (j := 0) (fun _ _ => rfl) rfl (by decide) rfl ?_
      repeat kas_types
      exact ⟨rfl, i, rfl⟩
  rintro _ _ ⟨rfl, cell, rfl⟩
  refine ex_cons ?_
  refine ex1_AssignName (by kernel_rfl) ?_
  refine ev_cB (b_max hK) v_max (by kernel_rfl) (by kernel_rfl) (by kernel_rfl) (by kernel_rfl) (by kernel_rfl) (by kernel_rfl) (by kernel_rfl) (by kernel_rfl) (by kernel_rfl) ?_
  repeat kas_types
  refine cl_max2 ?_
  have hb : 0 ≤ (if -1 - cell > cell then -1 - cell else cell) := by split <;> omega
  generalize (if -1 - cell > cell then -1 - cell else cell) = big at hb ⊢
  repeat kas_types
  refine bop_fmod (by decide) ?_
  repeat kas_types
  refine bop_mul (mulOk_small (by decide) (by decide)) ?_
  repeat kas_types
  refine bop_mul (mulOk_small (by decide) (by decide)) ?_
  repeat kas_types
  refine bop_mul (mulOk_small (by decide) (by decide)) ?_
  repeat kas_types
  have hm := fm_range (a := big) (b := 2147483629) (by decide)
  refine bop_mul (IntMulOk.of_right (by decide)) ?_
  repeat kas_types
  refine bop_fmod (by decide) ?_
  have hm2 := fm_range (a := (big.fmod 2147483629 + 7919 * 0 * 0 + 31 * 0 + 17) * 48271) (b := 2147483647) (by decide)
  generalize ((big.fmod 2147483629 + 7919 * 0 * 0 + 31 * 0 + 17) * 48271).fmod 2147483647 = mixed at hm2 ⊢
  iterate 3 kas_types
  refine ev_ListM ?_
  repeat kas_types
  refine bop_pow (k := 18) (by decide) ?_
  repeat kas_types
  refine cl_intb ?_
  refine bop_mul (IntMulOk.of_right (by split <;> decide)) ?_
  have hz : 0 ≤ big * (if (decide ((10 : Int) ^ 18 ≤ big)) = true then 1 else 0) := by
    split
    · omega
    · omega
  repeat kas_types
  intro a ha
  repeat kas_types
  exact fin_ret (h a _ _ ha ⟨hz, hm2.1, hm2.2⟩)
theorem ups_world {x : Str} {c d M : Addr} {k : Str} {l1 l2 : List (Str × V)} {xs : List V} (hx : st.loc.lookup x = some (.obj c d)) (hne : d ≠ M) (hm : st.mu d = some (.ns (l1 ++ (k, .val (.ref M)) :: l2))) (hi : st.mu M = some (.lst xs)) :
    Ups C env st ⟨(x, .ins c (l1 ++ (k, .lst xs) :: l2)) :: st.loc, delM (delM st.mu M) d⟩ := fun fz kp s r => by
  obtain ⟨m, hm', hr⟩ := r.ns
  obtain ⟨v, e1, e2⟩ := hr x _ hx
  obtain ⟨fz', le, rv, r'⟩ := up_nsL hne hm hi fz kp v s e2 r
  refine ⟨fz', le, r'.base, r'.fzs, r'.kps, r'.fk, r'.fm, r'.fl, r'.km, r'.kl, r'.ml, ⟨m, hm', fun y av e => ?_⟩, r'.mus, r'.gens, r'.os, r'.mlow⟩
  rw [List.lookup_cons] at e
  cases q : y == x with
  | true => rw [q] at e; cases e; rw [beq_iff_eq.mp q]; exact ⟨v, e1, rv⟩
  | false =>
    rw [q] at e
    obtain ⟨u, g1, g2⟩ := hr y av e
    exact ⟨u, g1, g2.mono le⟩
def rsF : List RowS := [⟨0, "A", .box, ["A"], []⟩, ⟨1, "A", .u8, [], []⟩]
theorem rsF_ok : RowsOk rsF := by
  refine ⟨?_, ?_, by decide +kernel, by decide⟩
  · intro i r h
    rcases i with _ | _ | i
    · cases h; rfl
    · cases h; rfl
    · simp [rsF] at h
  · intro r hr
    simp only [rsF, List.mem_cons, List.not_mem_nil, or_false] at hr
    rcases hr with rfl | rfl
    · exact ⟨by decide +kernel, ⟨by decide +kernel, by decide⟩, ⟨by decide, by decide⟩⟩
    · exact ⟨by decide +kernel, ⟨by decide, by decide⟩, ⟨by decide, by decide⟩⟩
theorem ansF1 : decide (ans rsF [] (.box (.box .u8)) (Str.ofString "A") = 2) = true := by decide +kernel
theorem ansF2 : decide (ans rsF [] (.box (.box .boo)) (Str.ofString "A") = 2) = false := by decide +kernel
theorem law_b (hK : C.K = KK C.w.params) {L' : Addr} {cdv : Value} {is : List Int} {mu : Mu} (hl : is.length ≤ 63) :
    ex C 45 (envX (Str.ofString "law") (sOf (stAt 35)) L' 300 cdv []) (bOf (stAt 35)) ⟨[(Str.ofString "script", .lst (is.map V.int))], mu⟩ (fun fl _ => fl = .ret (.bool true)) := by
  refine ex_cons ?_
  refine ex1_AssignName (by kernel_rfl) ?_
  refine ev_cK (g_law_pool hK) (k_law_pool hK) (by kernel_rfl) (by kernel_rfl) (by kernel_rfl) (by kernel_rfl) (by kernel_rfl) (by kernel_rfl) (by kernel_rfl) ?_
  repeat kas_types
  refine ev_call2 (pool_c (n := 0) hK hl fun a s0 s1 ha hs => ?_) (by decide : 0 + 1 ≤ 45)
  repeat kas_types
  refine ev_call2 (world_law (n := 0) hK (insM_self ..) hs fun rs t0 t1 hrs ht => ?_) (by decide : 0 + 4 ≤ 45)
  dsimp only
  rw [insM_insM, show (V.dct (abc.map fun t => (t, V.dct (knR rs t)))) = V.dct (kwV rs) from rfl]
  repeat kas_types
  refine ev_call2 (needs_c (n := 0) (most := 3) hK (insM_self ..) ht fun bd u0 u1 hb1 hb2 hb3 hu => ?_) (by decide : 0 + 2 ≤ 45)
  dsimp only
  rw [insM_insM]
  repeat kas_types
  refine ex1_For (fun xs i st2 => xs.length = 3 ∧ List.lookup ("source" : Str) st2.loc = some (.val (.ref a)) ∧ List.lookup ("world" : Str) st2.loc = some (.ins 221 (worN (.lst (rs.map rowS)))) ∧ List.lookup ("known" : Str) st2.loc = some (.dct (kwV rs)) ∧ List.lookup ("bounds" : Str) st2.loc = some (.tup (bd.map V.str)) ∧ ∃ v0 v1, SrcOk v0 v1 ∧ st2.mu a = some (srcM v0 v1)) (fun _ => rfl) ?_ ?_ ?_
  · refine itr_CallT (by rfl) (by rfl) (by rfl) ?_
    refine ev_bt (b_range hK) v_range (by kernel_rfl) (by kernel_rfl) (by kernel_rfl) (by kernel_rfl) (by kernel_rfl) (by kernel_rfl) ⟨_, rfl, ?_⟩
    repeat kas_types
    refine itc_range (m := 3) (by decide) ⟨rfl, ?_, ?_, ?_, ?_, u0, u1, hu, insM_self ..⟩
    all_goals o_fieldsN
  · rintro xs i x st2 hx ⟨hlen, hs1, hs2, hs3, hs4, v0, v1, hv, hma⟩
    obtain ⟨l2, m2⟩ := st2
    dsimp only at hs1 hs2 hs3 hs4 hma
    refine asg_Name (sto_loc (by kernel_rfl) (by kernel_rfl) ?_)
    repeat kas_types
    refine tr_plain (fun _ => rfl) ?_
    repeat kas_types
    refine ev_call2 (type_c hK 3 (s0 := v0) (s1 := v1) (by decide) ?_ hv fun T w0 w1 hT hw => ?_) (by decide : 3 + 2 ≤ 45)
    · exact hma
    repeat kas_types
    refine ev_call2 (one_c (n := 0) hK (insM_self ..) hw fun t x0 x1 ht' hx0 => ?_) (by decide : 0 + 2 ≤ 45)
    dsimp only
    rw [insM_insM]
    repeat kas_types
    refine ev_call2 (right_c (n := 0) hK rfl hrs hT ht' ?_) (by decide : 0 + 40 ≤ 45)
    repeat kas_types
    refine ⟨hlen, ?_, ?_, ?_, ?_, x0, x1, hx0, insM_self ..⟩
    all_goals o_fieldsN
  · rintro xs st2 ⟨hlen, hs1, hs2, hs3, hs4, v0, v1, hv, hma⟩
    obtain ⟨l2, m2⟩ := st2
    repeat kas_types
    refine ev_call2 (world_c (n := 0) hK fun d I hdI hd hI => ?_) (by decide : 0 + 2 ≤ 45)
    have hd : m2 d = none := hd
    have hI : m2 I = none := hI
    iterate 3 kas_types
    refine ev_ListM ?_
    repeat kas_types
    refine ev_DictF ?_
    repeat kas_types
    refine ev_call2 (row_c (n := 0) hK ?_) (by decide : 0 + 2 ≤ 45)
    repeat kas_types
    intro M hM
    dsimp only at hM
    have dM : d ≠ M := fun e => by subst e; rw [insM_self] at hM; cases hM
    have IM : I ≠ M := fun e => by subst e; rw [insM_other _ _ (Ne.symm hdI), insM_self] at hM; cases hM
    rw [insM_other _ _ (Ne.symm dM), insM_other _ _ (Ne.symm IM)] at hM
    repeat kas_types
    refine ⟨_, d, _, rfl, by dsimp only; rw [insM_other _ _ dM, insM_self], so_wor_impls hK, Nat.le_of_ble_eq_true rfl, ?_⟩
    dsimp only
    have g1 : insM (insM (insM (insM m2 I (.lst [])) d (.ns (worN (.val (.ref I))))) M (.lst [rowV (.int 0) (.lst [.tup [.str (Str.ofString "T"), .tup [.str (Str.ofString "A")]]]) (.str (Str.ofString "A")) boxV])) d (.ns ((Str.ofString "impls", .val (.ref M)) :: worN (.val (.ref I)))) d = some (.ns ((Str.ofString "impls", .val (.ref M)) :: worN (.val (.ref I)))) := insM_self ..
    have g2 : insM (insM (insM (insM m2 I (.lst [])) d (.ns (worN (.val (.ref I))))) M (.lst [rowV (.int 0) (.lst [.tup [.str (Str.ofString "T"), .tup [.str (Str.ofString "A")]]]) (.str (Str.ofString "A")) boxV])) d (.ns ((Str.ofString "impls", .val (.ref M)) :: worN (.val (.ref I)))) M = some (.lst [rowV (.int 0) (.lst [.tup [.str (Str.ofString "T"), .tup [.str (Str.ofString "A")]]]) (.str (Str.ofString "A")) boxV]) := by
      rw [insM_other _ _ (Ne.symm dM), insM_self]
    generalize insM (insM (insM (insM m2 I (.lst [])) d (.ns (worN (.val (.ref I))))) M (.lst [rowV (.int 0) (.lst [.tup [.str (Str.ofString "T"), .tup [.str (Str.ofString "A")]]]) (.str (Str.ofString "A")) boxV])) d (.ns ((Str.ofString "impls", .val (.ref M)) :: worN (.val (.ref I)))) = m5 at g1 g2 ⊢
    repeat kas_types
    refine ev_AttrO (fun _ => rfl) ?_
    repeat kas_types
    refine ⟨_, d, _, .val (.ref M), rfl, g1, ao_wor_impls hK, rfl, rfl, ?_⟩
    refine ⟨M, _, rfl, g2, ?_⟩
    repeat kas_types
    refine ev_DictF ?_
    repeat kas_types
    refine ev_call2 (row_c (n := 0) hK ?_) (by decide : 0 + 2 ≤ 45)
    refine ⟨_, g2, by simp, ?_⟩
    dsimp only
    have e9 : [rowV (.int 0) (.lst [.tup [.str (Str.ofString "T"), .tup [.str (Str.ofString "A")]]]) (.str (Str.ofString "A")) boxV] ++ [rowV (.int 1) (.lst []) (.str (Str.ofString "A")) (.tup [.str (Str.ofString "int"), .str (Str.ofString "u8")])] = rsF.map rowS := rfl
    rw [e9]
    have g3 : insM m5 M (.lst (rsF.map rowS)) d = some (.ns ([] ++ (Str.ofString "impls", .val (.ref M)) :: worN (.val (.ref I)))) := by rw [insM_other _ _ dM]; exact g1
    have g4 : insM m5 M (.lst (rsF.map rowS)) M = some (.lst (rsF.map rowS)) := insM_self ..
    generalize insM m5 M (.lst (rsF.map rowS)) = m6 at g3 g4 ⊢
    refine ex_ups (ups_world (x := Str.ofString "world") (c := 221) (d := d) (M := M) (k := Str.ofString "impls") (l1 := []) ?_ dM g3 g4) ?_
    · dsimp only; o_fieldsN
    have S : Sx [] ([] ++ (Str.ofString "impls", V.lst (rsF.map rowS)) :: worN (.val (.ref I))) rsF [] := ⟨rfl, rfl, rsF_ok⟩
    refine ex_cons ?_
    repeat kas_types
    refine tr_plain (fun _ => rfl) ?_
    repeat kas_types
    refine ev_DictF ?_
    repeat kas_types
    refine ev_call2 (holds_c (n := 0) (T := .box (.box .u8)) hK S (by decide) (by decide +kernel) ?_) (by decide : 0 + 29 ≤ 45)
    rw [ansF1]
    repeat kas_types
    refine ev_DictF ?_
    repeat kas_types
    refine ev_call2 (holds_c (n := 0) (T := .box (.box .boo)) hK S (by decide) (by decide +kernel) ?_) (by decide : 0 + 29 ≤ 45)
    rw [ansF2]
    repeat kas_types
    rfl
theorem rep_ints {C : Cx} {g : OH} {P : Params} {h : Heap} : ∀ {is : List Int} {vs : List Value}, WellAll P h vs (ofPys (is.map PyData.int)) → RepL C g (is.map V.int) vs
  | [], _, .nil => .nil
  | _ :: _, _, .cons w r => by
    cases w with
    | int i t => exact .cons (.int _ _) (rep_ints r)
theorem ok46 : Ok 46 callerA := ⟨rfl, by decide +kernel, by decide +kernel⟩
/-- a def is entered from outside: everything that stands is frozen -/
theorem top_def {C : Cx} {n : Nat} {A : Around} {s : Shared} {f : Addr} {oc : Value} {od : Option Addr} {osl : Array (Option Value)} {name qual : Str} {params : Arguments} {body : List Stmt} {scope : PySem.Scope} {dV kV doc pm cdv ct : Value} {an : Option Addr} {as : List V} {vs : List Value} (ab loc : List (Str × V))
    (ho : C.K.lookup f = some ⟨oc, od, .func (fnOf name qual params body scope dV kV doc pm an cdv ct), osl⟩) (hcd : codeIn C.K cdv qual = true)
    (hb : Binds C (fnOf name qual params body scope dV kV doc pm an cdv ct) as ab) (hcell : (scope.names.all fun x => x.2 != .cell) = true) (hloc : ((ab.map (·.1)).all fun y => scope.names.lookup y == some .local) = true)
    (hco : scope.isCoroutine = false) (hgen : scope.isGenerator = false) (hk : scope.kind = .function) (hr : ab.reverse = loc)
    (hs : C.h0 = s.heap) (hos : s.os = C.os) (hg : s.gens = #[]) (hA : Ok (n + 1) A) (rs : RepL C s.heap.get? as vs)
    (h : ∀ L', ex C n (envX qual scope L' f cdv []) body ⟨loc, fun _ => none⟩ fun fl _ => fl = .ret (.bool true)) :
    codeAny C.M A (.call (.ref f) ⟨vs, []⟩) (fun r s' => r = .ok (.ret (.bool true)) ∧ (∀ b o, s.heap.get? b = some o → s'.heap.get? b = some o) ∧ s'.os = s.os ∧ s'.gens = #[]) s := by
  subst hr
  have hb0 : Le C.h0.get? s.heap.get? := by rw [hs]; exact Le.refl _
  have X : C.K.In s.heap := C.kin.keeps hb0
  obtain ⟨binds, hbi, hrd⟩ := hb s.heap.get? vs s rs hb0
  refine (codeAny_call_def (fd := fnOf name qual params body scope dV kV doc pm an cdv ct) (body := body) (binds := binds) hA.room (X _ _ ho) rfl (C.lim.keeps hb0) (codeRec_of X hcd) rfl hbi (fun x hx => by have := List.all_eq_true.mp hcell x hx; simpa using this)
    (fun x hx => by
      have := List.all_eq_true.mp hloc x.1 (by rw [← hrd.keys]; exact List.mem_map_of_mem hx)
      simpa using this) (fun h₁ hns hk₁ => ?_) hco hgen hk)
  have R' : Rp C s.heap.get? (fun _ => none) (envX qual scope s.heap.objs.size f cdv []) ⟨ab.reverse, fun _ => none⟩ { s with heap := h₁, toks := s.toks + binds.length } := by
    refine ⟨hb0, hk₁, (fun _ _ e => nomatch e), fun _ _ _ => rfl, fun _ _ _ => rfl, ?_, (fun _ _ e => nomatch e), rfl, rfl, ⟨_, hns, fun x av e => hrd.reverse.look e⟩, (fun _ _ e => nomatch e), hg, hos, (fun _ _ e => nomatch e)⟩
    cases e : s.heap.get? s.heap.objs.size with
    | none => rfl
    | some o => exact absurd (Heap.lt_size e) (Nat.lt_irrefl _)
  refine wpAny_mono (h s.heap.objs.size s.heap.get? (A.deeper (envX qual scope s.heap.objs.size f cdv [])) (hA.deeper _) _ _ R') ?_ fun _ _ x => x.elim
  rintro fl s' ⟨fz', af, st', le, rf, R2, rfl⟩
  cases rf with
  | ret rv =>
    cases rv
    exact ⟨rfl, fun b o e => R2.fzs _ _ (le _ _ e), R2.os.trans hos.symm, R2.gens⟩
/-- the call that the claim makes -/
theorem law_walk {w : World} {s : Shared} {mean : ExcName → Option Value} {loose : List Str} {q : Program} {mg mb : Str → Option Value} (KX : (KK w.params).In s.heap) (T : Top q loose mean mg mb s.heap) (hg : s.gens = #[]) {x : Addr} {is : List Int} (hw : Well w.params s.heap (.ref x) (ofPy (.list (is.map PyData.int)))) (hl : is.length ≤ 63) :
    codeAny (model PySem.Challenge.rw_sa0443_01.row.prog w) callerA (.call (.ref 300) ⟨[.ref x], []⟩) (fun r s' => r = .ok (.ret (.bool true)) ∧ (∀ b o, s.heap.get? b = some o → s'.heap.get? b = some o) ∧ s'.os = s.os ∧ s'.gens = #[]) s := by
  let C : Cx := { prog := PySem.Challenge.rw_sa0443_01.row.prog, w := w, K := KK w.params, h0 := s.heap, os := s.os, kin := KX, lim := T.nolimit, mg := mg, mb := mb, g := T.g, b := T.b, boot := T.builtins }
  have hK : C.K = KK C.w.params := rfl
  obtain ⟨vs, hx, hv⟩ : ∃ vs : List Value, s.heap.get? x = some (lstO vs.toArray 0) ∧ WellAll w.params s.heap vs (ofPys (is.map PyData.int)) := by
    cases hw with
    | list h1 h2 => exact ⟨_, h1, h2⟩
  have rx : RepV C s.heap.get? (.lst (is.map V.int)) (.ref x) := .lst hx (rep_ints hv)
  exact top_def (C := C) (n := 45) [("script", .lst (is.map V.int))] [("script", .lst (is.map V.int))] (by rw [hK]; rfl) (by rw [hK]; kernel_rfl) (binds1 fun _ => rfl) (by kernel_rfl) (by kernel_rfl) (by kernel_rfl) (by kernel_rfl) (by kernel_rfl) rfl rfl rfl hg ok46 (.cons rx .nil) fun L' => law_b hK hl
end
end Mine
end
open PySem PySem.W PyProof.Rows
set_option Elab.async false
set_option maxRecDepth 100000
set_option maxHeartbeats 8000000
namespace Mine
theorem said : PySem.Challenge.rw_sa0443_01.wellSaid = true := by decide +kernel
theorem g_law (P : Params) : nsIn (KK P) mainGlobals (Str.ofString "law") = some (some (.ref 300)) := by kernel_rfl
theorem fa_300 {K : Frag} {h : Heap} {mg : Str → Option Value} {fa : Addr} (X : K.In h) (G : h.Ns mainGlobals mg) (e : nsIn K mainGlobals (Str.ofString "law") = some (some (.ref 300))) (hm : mg (Str.ofString "law") = some (.ref fa)) : fa = 300 := by
  have h1 := mg_of X G e
  rw [hm] at h1
  injection h1 with h1
  injection h1
end Mine
theorem PySem.Challenge.cw_sa0443_01_holds : PySem.Challenge.rw_sa0443_01.Holds := by
  w_on
  refine holds_law Mine.said fun said => ?_
  refine holds_open (q := Mine.qq) (loose := Mine.lq) (Xt := fun s => xlAt Mine.qq [] s && recOk [] s) (XP := XL Mine.qq []) (Yf := Mine.hk.obs) (Ya := Mine.hk.val) (YP := Mine.hk.says) (N := 4382) Mine.hl Mine.hk.of Mine.hk.keeps (fun s e => xl_of s (Bool.and_eq_true_iff.mp e).1) XL.keeps (by rfl) (by rfl) (by rfl) (fun s e => recFacts_of (Bool.and_eq_true_iff.mp e).2) (by rfl) said (by decide +kernel) ⟨rfl, rfl, rfl, rfl, rfl, by decide +kernel⟩ ?hw ?hc
  case hw => w_witness2
  intro w s₀ s₁ mg mb G Y fa o pm cd doc dV kV ho hd hcd hD hmg hg args vals as hpre hlay hrd hwl hlo
  have KX : (Mine.KK w.params).In s₁.heap := kIn_of Y
  have T := G.T
  have h2 : mg (Str.ofString "law") = some (.ref fa) := hmg
  have e300 : fa = 300 := Mine.fa_300 KX T.g (Mine.g_law w.params) h2
  subst e300
  clear hD hd hcd ho hmg h2
  wrow_args hpre hlay hrd hwl hlo
  refine enter_call ?_
  refine codeAny_mono ?_ (fun _ _ g => GoodW.toG g)
  refine codeAny_mono (Mine.law_walk KX T hg ‹Well _ _ _ _› (by omega)) ?_
  rintro r s' ⟨rfl, hk, hos, hg'⟩
  refine ⟨.inl ⟨.bool true, .bool true, [], rfl, raisesW_false ?hn, .bool true, ?hp, ?hu⟩, hk, hos, hg'⟩
  case hn => wrow_none_raised
  case hp => wrow_post
  case hu => exact fun _ => ⟨List.nodup_nil, fun _ h => nomatch h⟩
