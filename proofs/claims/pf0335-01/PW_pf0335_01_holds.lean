import PyProof.Rows.All
import Wide.All
import OpenK.AllK
import Wide.FinOn
import Lean
import PySem.Challenge.RW_pf0335_01
open PySem PySem.W PyProof.Rows
set_option Elab.async false
set_option compiler.extract_closed false
set_option linter.all false
set_option maxRecDepth 100000
set_option maxHeartbeats 8000000
namespace Mine
/-! H0 -/
/-! the head by hand: the text's view, what the top leaves (as far as the walk asks for it), one look of the kernel -/
noncomputable def top (i : Nat) : Stmt := (Challenge.pw_pf0335_01.main.body[i]?).getD (.Pass default)
noncomputable def meth (i : Nat) : Stmt := match top i with
  | .ClassDef _ _ _ b .. => (b[0]?).getD (.Pass default)
  | _ => .Pass default
noncomputable def fpar : Stmt → Arguments
  | .FunctionDef _ a .. => a
  | _ => default
noncomputable def fbody : Stmt → List Stmt
  | .FunctionDef _ _ b .. => b
  | _ => []
noncomputable def fscope : Stmt → Scope
  | .FunctionDef _ _ _ _ _ _ s .. => s
  | _ => default
noncomputable def hd.view_39 : Program := view Challenge.pw_pf0335_01 [1, 2, 3, 4, 5, 7, 8, 9, 10, 11, 12, 13, 15, 17, 18, 19, 20, 21, 22, 23, 24, 25, 26, 27, 28, 29, 30, 31]
noncomputable def hd.heap_39 : Params → Frag := fun P =>
  (nat_lit 2, { cls := Value.none, data := Data.dict #[] }) ::
  (nat_lit 3, { cls := Value.type "dict", data := Data.dict #[{ hash := PyData.keyHash P (Str.ofString "__name__"), key := Value.str (Str.ofString "__name__") 165, val := Value.str (Str.ofString "law_pf0335_01") 439 }, { hash := PyData.keyHash P (Str.ofString "__doc__"), key := Value.str (Str.ofString "__doc__") 166, val := Value.none }, { hash := PyData.keyHash P (Str.ofString "__package__"), key := Value.str (Str.ofString "__package__") 167, val := Value.none }, { hash := PyData.keyHash P (Str.ofString "__loader__"), key := Value.str (Str.ofString "__loader__") 168, val := Value.builtin "__main__.__loader__#opaque" }, { hash := PyData.keyHash P (Str.ofString "__spec__"), key := Value.str (Str.ofString "__spec__") 169, val := Value.none }, { hash := PyData.keyHash P (Str.ofString "__annotations__"), key := Value.str (Str.ofString "__annotations__") 170, val := Value.ref 6 }, { hash := PyData.keyHash P (Str.ofString "__builtins__"), key := Value.str (Str.ofString "__builtins__") 171, val := Value.ref 4 }, { hash := PyData.keyHash P (Str.ofString "__file__"), key := Value.str (Str.ofString "__file__") 173, val := Value.str (Str.ofString "/claim/cut.py") 172 }, { hash := PyData.keyHash P (Str.ofString "__cached__"), key := Value.str (Str.ofString "__cached__") 174, val := Value.none }, { hash := PyData.keyHash P (Str.ofString "DYING_tuples"), key := Value.str (Str.ofString "DYING_tuples") 190, val := Value.int 512 189 }, { hash := PyData.keyHash P (Str.ofString "Talk"), key := Value.str (Str.ofString "Talk") 232, val := Value.ref 31 }, { hash := PyData.keyHash P (Str.ofString "TalkBook"), key := Value.str (Str.ofString "TalkBook") 275, val := Value.ref 53 }, { hash := PyData.keyHash P (Str.ofString "side_of"), key := Value.str (Str.ofString "side_of") 283, val := Value.ref 64 }, { hash := PyData.keyHash P (Str.ofString "drop_talk"), key := Value.str (Str.ofString "drop_talk") 289, val := Value.ref 69 }, { hash := PyData.keyHash P (Str.ofString "DYING_relate"), key := Value.str (Str.ofString "DYING_relate") 293, val := Value.int 512 292 }, { hash := PyData.keyHash P (Str.ofString "CONFIRMED"), key := Value.str (Str.ofString "CONFIRMED") 295, val := Value.int 8 294 }, { hash := PyData.keyHash P (Str.ofString "Expect"), key := Value.str (Str.ofString "Expect") 330, val := Value.ref 86 }, { hash := PyData.keyHash P (Str.ofString "add_expect"), key := Value.str (Str.ofString "add_expect") 349, val := Value.ref 97 }, { hash := PyData.keyHash P (Str.ofString "expect_request"), key := Value.str (Str.ofString "expect_request") 358, val := Value.ref 104 }, { hash := PyData.keyHash P (Str.ofString "does_fit"), key := Value.str (Str.ofString "does_fit") 372, val := Value.ref 111 }, { hash := PyData.keyHash P (Str.ofString "take_expect"), key := Value.str (Str.ofString "take_expect") 384, val := Value.ref 118 }, { hash := PyData.keyHash P (Str.ofString "Scene"), key := Value.str (Str.ofString "Scene") 438, val := Value.ref 136 }, { hash := PyData.keyHash P (Str.ofString "_law_draw"), key := Value.str (Str.ofString "_law_draw") 449, val := Value.ref 147 }, { hash := PyData.keyHash P (Str.ofString "_law_digits"), key := Value.str (Str.ofString "_law_digits") 459, val := Value.ref 154 }, { hash := PyData.keyHash P (Str.ofString "_law_host"), key := Value.str (Str.ofString "_law_host") 467, val := Value.ref 161 }, { hash := PyData.keyHash P (Str.ofString "_law_talk"), key := Value.str (Str.ofString "_law_talk") 489, val := Value.ref 168 }, { hash := PyData.keyHash P (Str.ofString "_law_spec"), key := Value.str (Str.ofString "_law_spec") 501, val := Value.ref 175 }, { hash := PyData.keyHash P (Str.ofString "_law_objects"), key := Value.str (Str.ofString "_law_objects") 510, val := Value.ref 182 }, { hash := PyData.keyHash P (Str.ofString "_law_request"), key := Value.str (Str.ofString "_law_request") 516, val := Value.ref 187 }, { hash := PyData.keyHash P (Str.ofString "_law_take"), key := Value.str (Str.ofString "_law_take") 522, val := Value.ref 192 }, { hash := PyData.keyHash P (Str.ofString "_law_aim"), key := Value.str (Str.ofString "_law_aim") 538, val := Value.ref 199 }, { hash := PyData.keyHash P (Str.ofString "_law_ask"), key := Value.str (Str.ofString "_law_ask") 556, val := Value.ref 206 }, { hash := PyData.keyHash P (Str.ofString "_law_took"), key := Value.str (Str.ofString "_law_took") 570, val := Value.ref 213 }, { hash := PyData.keyHash P (Str.ofString "_law_turn"), key := Value.str (Str.ofString "_law_turn") 576, val := Value.ref 218 }, { hash := PyData.keyHash P (Str.ofString "_law_is_list"), key := Value.str (Str.ofString "_law_is_list") 582, val := Value.ref 223 }, { hash := PyData.keyHash P (Str.ofString "_law_are_same"), key := Value.str (Str.ofString "_law_are_same") 595, val := Value.ref 230 }, { hash := PyData.keyHash P (Str.ofString "law"), key := Value.str (Str.ofString "law") 613, val := Value.ref 237 }] 37 }) ::
  (nat_lit 22, { cls := Value.type "tuple", data := Data.seq #[] }) ::
  (nat_lit 24, { cls := Value.type "tuple", data := Data.seq #[Value.str (Str.ofString "self") 206, Value.str (Str.ofString "number") 207, Value.str (Str.ofString "original") 208, Value.str (Str.ofString "reply") 209, Value.str (Str.ofString "zone") 210] }) ::
  (nat_lit 25, { cls := Value.type "tuple", data := Data.seq #[] }) ::
  (nat_lit 27, { cls := Value.type "code", data := Data.fields #[Value.str (Str.ofString "__init__") 203, Value.str (Str.ofString "Talk.__init__") 204, Value.str (Str.ofString "/claim/cut.py") 205, Value.int 5 0, Value.int 5 0, Value.int 0 0, Value.int 0 0, Value.int 3 0, Value.ref 22, Value.bool true, Value.int 181 0, Value.ref 23, Value.none, Value.ref 24, Value.ref 25, Value.ref 26, Value.int 211 0, Value.int 5 0, Value.str (Str.ofString "/claim/cut.py") 212] }) ::
  (nat_lit 28, { cls := Value.type "function", data := Data.func { name := Str.ofString "__init__", qualname := Str.ofString "Talk.__init__", params := fpar (meth 2), body := FuncBody.stmts (fbody (meth 2)), scope := fscope (meth 2), globals := 3, closure := [], defaults := Value.none, kwdefaults := Value.none, pyModule := Value.str (Str.ofString "siftwall.tuples") 187, code := Value.ref 27 } }) ::
  (nat_lit 29, { cls := Value.type "tuple", data := Data.seq #[Value.str (Str.ofString "mark") 214, Value.str (Str.ofString "master") 215, Value.str (Str.ofString "number") 216, Value.str (Str.ofString "original") 217, Value.str (Str.ofString "reply") 218, Value.str (Str.ofString "sides") 219, Value.str (Str.ofString "since") 220, Value.str (Str.ofString "state") 221, Value.str (Str.ofString "status") 222, Value.str (Str.ofString "until") 223, Value.str (Str.ofString "zone") 224] }) ::
  (nat_lit 30, { cls := Value.type "dict", data := Data.dict #[{ hash := PyData.keyHash P (Str.ofString "__module__"), key := Value.str (Str.ofString "__module__") 198, val := Value.str (Str.ofString "siftwall.tuples") 187 }, { hash := PyData.keyHash P (Str.ofString "__firstlineno__"), key := Value.str (Str.ofString "__firstlineno__") 202, val := Value.int 3 201 }, { hash := PyData.keyHash P (Str.ofString "__init__"), key := Value.str (Str.ofString "__init__") 213, val := Value.ref 28 }, { hash := PyData.keyHash P (Str.ofString "__static_attributes__"), key := Value.str (Str.ofString "__static_attributes__") 225, val := Value.ref 29 }, { hash := PyData.keyHash P (Str.ofString "__dict__"), key := Value.str (Str.ofString "__dict__") 227, val := Value.ref 32 }, { hash := PyData.keyHash P (Str.ofString "__weakref__"), key := Value.str (Str.ofString "__weakref__") 229, val := Value.ref 33 }, { hash := PyData.keyHash P (Str.ofString "__doc__"), key := Value.str (Str.ofString "__doc__") 230, val := Value.none }] 4 }) ::
  (nat_lit 31, { cls := Value.type "type", data := Data.cls { name := Str.ofString "Talk", bases := [Value.type "object"], mro := [Value.ref 31, Value.type "object"], ns := 30, qualname := Str.ofString "Talk" }, slots := #[none, none, some (Value.str (Str.ofString "Talk") 191), some (Value.str (Str.ofString "Talk") 199), some (Value.builtin "object.__new__"), some (Value.bool true)] }) ::
  (nat_lit 32, { cls := Value.type "getset_descriptor", data := Data.fields #[Value.str (Str.ofString "__dict__") 226, Value.ref 31, Value.builtin "function.__dict__", Value.builtin "function.__dict__#set"] }) ::
  (nat_lit 33, { cls := Value.type "getset_descriptor", data := Data.fields #[Value.str (Str.ofString "__weakref__") 228, Value.ref 31, Value.builtin "ExceptionGroup.__weakref__", Value.none] }) ::
  (nat_lit 43, { cls := Value.type "tuple", data := Data.seq #[Value.int 64 245, Value.int 0 246, Value.int 128 247] }) ::
  (nat_lit 44, { cls := Value.type "tuple", data := Data.seq #[] }) ::
  (nat_lit 46, { cls := Value.type "tuple", data := Data.seq #[Value.str (Str.ofString "self") 251, Value.str (Str.ofString "most") 252, Value.str (Str.ofString "seed") 253, Value.str (Str.ofString "tries") 254] }) ::
  (nat_lit 47, { cls := Value.type "tuple", data := Data.seq #[] }) ::
  (nat_lit 49, { cls := Value.type "code", data := Data.fields #[Value.str (Str.ofString "__init__") 248, Value.str (Str.ofString "TalkBook.__init__") 249, Value.str (Str.ofString "/claim/cut.py") 250, Value.int 19 0, Value.int 4 0, Value.int 0 0, Value.int 0 0, Value.int 3 0, Value.ref 44, Value.bool true, Value.int 181 0, Value.ref 45, Value.none, Value.ref 46, Value.ref 47, Value.ref 48, Value.int 255 0, Value.int 19 0, Value.str (Str.ofString "/claim/cut.py") 256] }) ::
  (nat_lit 50, { cls := Value.type "function", data := Data.func { name := Str.ofString "__init__", qualname := Str.ofString "TalkBook.__init__", params := fpar (meth 3), body := FuncBody.stmts (fbody (meth 3)), scope := fscope (meth 3), globals := 3, closure := [], defaults := Value.ref 43, kwdefaults := Value.none, pyModule := Value.str (Str.ofString "siftwall.tuples") 187, code := Value.ref 49 } }) ::
  (nat_lit 51, { cls := Value.type "tuple", data := Data.seq #[Value.str (Str.ofString "expects") 258, Value.str (Str.ofString "flows") 259, Value.str (Str.ofString "is_loose") 260, Value.str (Str.ofString "last") 261, Value.str (Str.ofString "most") 262, Value.str (Str.ofString "seed") 263, Value.str (Str.ofString "table") 264, Value.str (Str.ofString "talks") 265, Value.str (Str.ofString "trackers") 266, Value.str (Str.ofString "tries") 267] }) ::
  (nat_lit 52, { cls := Value.type "dict", data := Data.dict #[{ hash := PyData.keyHash P (Str.ofString "__module__"), key := Value.str (Str.ofString "__module__") 240, val := Value.str (Str.ofString "siftwall.tuples") 187 }, { hash := PyData.keyHash P (Str.ofString "__firstlineno__"), key := Value.str (Str.ofString "__firstlineno__") 244, val := Value.int 17 243 }, { hash := PyData.keyHash P (Str.ofString "__init__"), key := Value.str (Str.ofString "__init__") 257, val := Value.ref 50 }, { hash := PyData.keyHash P (Str.ofString "__static_attributes__"), key := Value.str (Str.ofString "__static_attributes__") 268, val := Value.ref 51 }, { hash := PyData.keyHash P (Str.ofString "__dict__"), key := Value.str (Str.ofString "__dict__") 270, val := Value.ref 54 }, { hash := PyData.keyHash P (Str.ofString "__weakref__"), key := Value.str (Str.ofString "__weakref__") 272, val := Value.ref 55 }, { hash := PyData.keyHash P (Str.ofString "__doc__"), key := Value.str (Str.ofString "__doc__") 273, val := Value.none }] 4 }) ::
  (nat_lit 53, { cls := Value.type "type", data := Data.cls { name := Str.ofString "TalkBook", bases := [Value.type "object"], mro := [Value.ref 53, Value.type "object"], ns := 52, qualname := Str.ofString "TalkBook" }, slots := #[none, none, some (Value.str (Str.ofString "TalkBook") 233), some (Value.str (Str.ofString "TalkBook") 241), some (Value.builtin "object.__new__"), some (Value.bool true)] }) ::
  (nat_lit 54, { cls := Value.type "getset_descriptor", data := Data.fields #[Value.str (Str.ofString "__dict__") 269, Value.ref 53, Value.builtin "function.__dict__", Value.builtin "function.__dict__#set"] }) ::
  (nat_lit 55, { cls := Value.type "getset_descriptor", data := Data.fields #[Value.str (Str.ofString "__weakref__") 271, Value.ref 53, Value.builtin "ExceptionGroup.__weakref__", Value.none] }) ::
  (nat_lit 58, { cls := Value.type "tuple", data := Data.seq #[] }) ::
  (nat_lit 60, { cls := Value.type "tuple", data := Data.seq #[Value.str (Str.ofString "talk") 279, Value.str (Str.ofString "direction") 280] }) ::
  (nat_lit 61, { cls := Value.type "tuple", data := Data.seq #[] }) ::
  (nat_lit 63, { cls := Value.type "code", data := Data.fields #[Value.str (Str.ofString "side_of") 276, Value.str (Str.ofString "side_of") 277, Value.str (Str.ofString "/claim/cut.py") 278, Value.int 30 0, Value.int 2 0, Value.int 0 0, Value.int 0 0, Value.int 3 0, Value.ref 58, Value.bool true, Value.int 181 0, Value.ref 59, Value.none, Value.ref 60, Value.ref 61, Value.ref 62, Value.int 281 0, Value.int 30 0, Value.str (Str.ofString "/claim/cut.py") 282] }) ::
  (nat_lit 64, { cls := Value.type "function", data := Data.func { name := Str.ofString "side_of", qualname := Str.ofString "side_of", params := fpar (top 4), body := FuncBody.stmts (fbody (top 4)), scope := fscope (top 4), globals := 3, closure := [], defaults := Value.none, kwdefaults := Value.none, pyModule := Value.str (Str.ofString "siftwall.tuples") 187, code := Value.ref 63 } }) ::
  (nat_lit 65, { cls := Value.type "tuple", data := Data.seq #[] }) ::
  (nat_lit 68, { cls := Value.type "code", data := Data.fields #[Value.str (Str.ofString "drop_talk") 284, Value.str (Str.ofString "drop_talk") 285, Value.str (Str.ofString "/claim/cut.py") 286, Value.int 32 0, Value.int 2 0, Value.int 0 0, Value.int 0 0, Value.int 3 0, Value.ref 65, Value.bool true, Value.int 181 0, Value.ref 66, Value.none, Value.none, Value.none, Value.ref 67, Value.int 287 0, Value.int 32 0, Value.str (Str.ofString "/claim/cut.py") 288] }) ::
  (nat_lit 69, { cls := Value.type "function", data := Data.func { name := Str.ofString "drop_talk", qualname := Str.ofString "drop_talk", params := fpar (top 5), body := FuncBody.stmts (fbody (top 5)), scope := fscope (top 5), globals := 3, closure := [], defaults := Value.none, kwdefaults := Value.none, pyModule := Value.str (Str.ofString "siftwall.tuples") 187, code := Value.ref 68 } }) ::
  (nat_lit 77, { cls := Value.type "tuple", data := Data.seq #[] }) ::
  (nat_lit 79, { cls := Value.type "tuple", data := Data.seq #[Value.str (Str.ofString "self") 311, Value.str (Str.ofString "master") 312, Value.str (Str.ofString "t") 313, Value.str (Str.ofString "zone") 314, Value.str (Str.ofString "until") 315] }) ::
  (nat_lit 80, { cls := Value.type "tuple", data := Data.seq #[] }) ::
  (nat_lit 82, { cls := Value.type "code", data := Data.fields #[Value.str (Str.ofString "__init__") 308, Value.str (Str.ofString "Expect.__init__") 309, Value.str (Str.ofString "/claim/cut.py") 310, Value.int 49 0, Value.int 5 0, Value.int 0 0, Value.int 0 0, Value.int 3 0, Value.ref 77, Value.bool true, Value.int 181 0, Value.ref 78, Value.none, Value.ref 79, Value.ref 80, Value.ref 81, Value.int 316 0, Value.int 49 0, Value.str (Str.ofString "/claim/cut.py") 317] }) ::
  (nat_lit 83, { cls := Value.type "function", data := Data.func { name := Str.ofString "__init__", qualname := Str.ofString "Expect.__init__", params := fpar (meth 9), body := FuncBody.stmts (fbody (meth 9)), scope := fscope (meth 9), globals := 3, closure := [], defaults := Value.none, kwdefaults := Value.none, pyModule := Value.str (Str.ofString "siftwall.relate") 290, code := Value.ref 82 } }) ::
  (nat_lit 84, { cls := Value.type "tuple", data := Data.seq #[Value.str (Str.ofString "master") 319, Value.str (Str.ofString "t") 320, Value.str (Str.ofString "until") 321, Value.str (Str.ofString "zone") 322] }) ::
  (nat_lit 85, { cls := Value.type "dict", data := Data.dict #[{ hash := PyData.keyHash P (Str.ofString "__module__"), key := Value.str (Str.ofString "__module__") 303, val := Value.str (Str.ofString "siftwall.relate") 290 }, { hash := PyData.keyHash P (Str.ofString "__firstlineno__"), key := Value.str (Str.ofString "__firstlineno__") 307, val := Value.int 47 306 }, { hash := PyData.keyHash P (Str.ofString "__init__"), key := Value.str (Str.ofString "__init__") 318, val := Value.ref 83 }, { hash := PyData.keyHash P (Str.ofString "__static_attributes__"), key := Value.str (Str.ofString "__static_attributes__") 323, val := Value.ref 84 }, { hash := PyData.keyHash P (Str.ofString "__dict__"), key := Value.str (Str.ofString "__dict__") 325, val := Value.ref 87 }, { hash := PyData.keyHash P (Str.ofString "__weakref__"), key := Value.str (Str.ofString "__weakref__") 327, val := Value.ref 88 }, { hash := PyData.keyHash P (Str.ofString "__doc__"), key := Value.str (Str.ofString "__doc__") 328, val := Value.none }] 4 }) ::
  (nat_lit 86, { cls := Value.type "type", data := Data.cls { name := Str.ofString "Expect", bases := [Value.type "object"], mro := [Value.ref 86, Value.type "object"], ns := 85, qualname := Str.ofString "Expect" }, slots := #[none, none, some (Value.str (Str.ofString "Expect") 296), some (Value.str (Str.ofString "Expect") 304), some (Value.builtin "object.__new__"), some (Value.bool true)] }) ::
  (nat_lit 87, { cls := Value.type "getset_descriptor", data := Data.fields #[Value.str (Str.ofString "__dict__") 324, Value.ref 86, Value.builtin "function.__dict__", Value.builtin "function.__dict__#set"] }) ::
  (nat_lit 88, { cls := Value.type "getset_descriptor", data := Data.fields #[Value.str (Str.ofString "__weakref__") 326, Value.ref 86, Value.builtin "ExceptionGroup.__weakref__", Value.none] }) ::
  (nat_lit 91, { cls := Value.type "tuple", data := Data.seq #[] }) ::
  (nat_lit 93, { cls := Value.type "tuple", data := Data.seq #[Value.str (Str.ofString "scene") 334, Value.str (Str.ofString "spec") 335, Value.str (Str.ofString "talk") 336, Value.str (Str.ofString "book") 337, Value.str (Str.ofString "protocol") 338, Value.str (Str.ofString "port") 339, Value.str (Str.ofString "timeout") 340, Value.str (Str.ofString "most") 341, Value.str (Str.ofString "nfproto") 342, Value.str (Str.ofString "many") 343, Value.str (Str.ofString "expect") 344, Value.str (Str.ofString "side") 345, Value.str (Str.ofString "t") 346] }) ::
  (nat_lit 94, { cls := Value.type "tuple", data := Data.seq #[] }) ::
  (nat_lit 96, { cls := Value.type "code", data := Data.fields #[Value.str (Str.ofString "add_expect") 331, Value.str (Str.ofString "add_expect") 332, Value.str (Str.ofString "/claim/cut.py") 333, Value.int 54 0, Value.int 2 0, Value.int 0 0, Value.int 0 0, Value.int 3 0, Value.ref 91, Value.bool true, Value.int 181 0, Value.ref 92, Value.none, Value.ref 93, Value.ref 94, Value.ref 95, Value.int 347 0, Value.int 54 0, Value.str (Str.ofString "/claim/cut.py") 348] }) ::
  (nat_lit 97, { cls := Value.type "function", data := Data.func { name := Str.ofString "add_expect", qualname := Str.ofString "add_expect", params := fpar (top 10), body := FuncBody.stmts (fbody (top 10)), scope := fscope (top 10), globals := 3, closure := [], defaults := Value.none, kwdefaults := Value.none, pyModule := Value.str (Str.ofString "siftwall.relate") 290, code := Value.ref 96 } }) ::
  (nat_lit 98, { cls := Value.type "tuple", data := Data.seq #[] }) ::
  (nat_lit 100, { cls := Value.type "tuple", data := Data.seq #[Value.str (Str.ofString "scene") 353, Value.str (Str.ofString "name") 354, Value.str (Str.ofString "spec") 355] }) ::
  (nat_lit 101, { cls := Value.type "tuple", data := Data.seq #[] }) ::
  (nat_lit 103, { cls := Value.type "code", data := Data.fields #[Value.str (Str.ofString "expect_request") 350, Value.str (Str.ofString "expect_request") 351, Value.str (Str.ofString "/claim/cut.py") 352, Value.int 74 0, Value.int 2 0, Value.int 0 0, Value.int 0 0, Value.int 3 0, Value.ref 98, Value.bool true, Value.int 181 0, Value.ref 99, Value.none, Value.ref 100, Value.ref 101, Value.ref 102, Value.int 356 0, Value.int 74 0, Value.str (Str.ofString "/claim/cut.py") 357] }) ::
  (nat_lit 104, { cls := Value.type "function", data := Data.func { name := Str.ofString "expect_request", qualname := Str.ofString "expect_request", params := fpar (top 11), body := FuncBody.stmts (fbody (top 11)), scope := fscope (top 11), globals := 3, closure := [], defaults := Value.none, kwdefaults := Value.none, pyModule := Value.str (Str.ofString "siftwall.relate") 290, code := Value.ref 103 } }) ::
  (nat_lit 105, { cls := Value.type "tuple", data := Data.seq #[] }) ::
  (nat_lit 107, { cls := Value.type "tuple", data := Data.seq #[Value.str (Str.ofString "expect") 362, Value.str (Str.ofString "zone") 363, Value.str (Str.ofString "t") 364, Value.str (Str.ofString "nfproto") 365, Value.str (Str.ofString "protocol") 366, Value.str (Str.ofString "source") 367, Value.str (Str.ofString "target") 368, Value.str (Str.ofString "dport") 369] }) ::
  (nat_lit 108, { cls := Value.type "tuple", data := Data.seq #[] }) ::
  (nat_lit 110, { cls := Value.type "code", data := Data.fields #[Value.str (Str.ofString "does_fit") 359, Value.str (Str.ofString "does_fit") 360, Value.str (Str.ofString "/claim/cut.py") 361, Value.int 79 0, Value.int 3 0, Value.int 0 0, Value.int 0 0, Value.int 3 0, Value.ref 105, Value.bool true, Value.int 181 0, Value.ref 106, Value.none, Value.ref 107, Value.ref 108, Value.ref 109, Value.int 370 0, Value.int 79 0, Value.str (Str.ofString "/claim/cut.py") 371] }) ::
  (nat_lit 111, { cls := Value.type "function", data := Data.func { name := Str.ofString "does_fit", qualname := Str.ofString "does_fit", params := fpar (top 12), body := FuncBody.stmts (fbody (top 12)), scope := fscope (top 12), globals := 3, closure := [], defaults := Value.none, kwdefaults := Value.none, pyModule := Value.str (Str.ofString "siftwall.relate") 290, code := Value.ref 110 } }) ::
  (nat_lit 112, { cls := Value.type "tuple", data := Data.seq #[] }) ::
  (nat_lit 114, { cls := Value.type "tuple", data := Data.seq #[Value.str (Str.ofString "book") 376, Value.str (Str.ofString "zone") 377, Value.str (Str.ofString "t") 378, Value.str (Str.ofString "now") 379, Value.str (Str.ofString "place") 380, Value.str (Str.ofString "expect") 381] }) ::
  (nat_lit 115, { cls := Value.type "tuple", data := Data.seq #[] }) ::
  (nat_lit 117, { cls := Value.type "code", data := Data.fields #[Value.str (Str.ofString "take_expect") 373, Value.str (Str.ofString "take_expect") 374, Value.str (Str.ofString "/claim/cut.py") 375, Value.int 84 0, Value.int 4 0, Value.int 0 0, Value.int 0 0, Value.int 3 0, Value.ref 112, Value.bool true, Value.int 181 0, Value.ref 113, Value.none, Value.ref 114, Value.ref 115, Value.ref 116, Value.int 382 0, Value.int 84 0, Value.str (Str.ofString "/claim/cut.py") 383] }) ::
  (nat_lit 118, { cls := Value.type "function", data := Data.func { name := Str.ofString "take_expect", qualname := Str.ofString "take_expect", params := fpar (top 13), body := FuncBody.stmts (fbody (top 13)), scope := fscope (top 13), globals := 3, closure := [], defaults := Value.none, kwdefaults := Value.none, pyModule := Value.str (Str.ofString "siftwall.relate") 290, code := Value.ref 117 } }) ::
  (nat_lit 126, { cls := Value.type "tuple", data := Data.seq #[Value.int 0 399, Value.str (Str.ofString "input") 400] }) ::
  (nat_lit 127, { cls := Value.type "tuple", data := Data.seq #[] }) ::
  (nat_lit 129, { cls := Value.type "tuple", data := Data.seq #[Value.str (Str.ofString "self") 404, Value.str (Str.ofString "packet") 405, Value.str (Str.ofString "fields") 406, Value.str (Str.ofString "now") 407, Value.str (Str.ofString "hook") 408] }) ::
  (nat_lit 130, { cls := Value.type "tuple", data := Data.seq #[] }) ::
  (nat_lit 132, { cls := Value.type "code", data := Data.fields #[Value.str (Str.ofString "__init__") 401, Value.str (Str.ofString "Scene.__init__") 402, Value.str (Str.ofString "/claim/cut.py") 403, Value.int 94 0, Value.int 5 0, Value.int 0 0, Value.int 0 0, Value.int 3 0, Value.ref 127, Value.bool true, Value.int 181 0, Value.ref 128, Value.none, Value.ref 129, Value.ref 130, Value.ref 131, Value.int 409 0, Value.int 94 0, Value.str (Str.ofString "/claim/cut.py") 410] }) ::
  (nat_lit 133, { cls := Value.type "function", data := Data.func { name := Str.ofString "__init__", qualname := Str.ofString "Scene.__init__", params := fpar (meth 15), body := FuncBody.stmts (fbody (meth 15)), scope := fscope (meth 15), globals := 3, closure := [], defaults := Value.ref 126, kwdefaults := Value.none, pyModule := Value.str (Str.ofString "siftwall.walk") 385, code := Value.ref 132 } }) ::
  (nat_lit 134, { cls := Value.type "tuple", data := Data.seq #[Value.str (Str.ofString "doers") 412, Value.str (Str.ofString "fields") 413, Value.str (Str.ofString "homes") 414, Value.str (Str.ofString "hook") 415, Value.str (Str.ofString "is_reply") 416, Value.str (Str.ofString "log") 417, Value.str (Str.ofString "now") 418, Value.str (Str.ofString "objects") 419, Value.str (Str.ofString "ops") 420, Value.str (Str.ofString "order") 421, Value.str (Str.ofString "packet") 422, Value.str (Str.ofString "readers") 423, Value.str (Str.ofString "replies") 424, Value.str (Str.ofString "sets") 425, Value.str (Str.ofString "state") 426, Value.str (Str.ofString "steps") 427, Value.str (Str.ofString "talk") 428, Value.str (Str.ofString "talks") 429, Value.str (Str.ofString "tools") 430] }) ::
  (nat_lit 135, { cls := Value.type "dict", data := Data.dict #[{ hash := PyData.keyHash P (Str.ofString "__module__"), key := Value.str (Str.ofString "__module__") 394, val := Value.str (Str.ofString "siftwall.walk") 385 }, { hash := PyData.keyHash P (Str.ofString "__firstlineno__"), key := Value.str (Str.ofString "__firstlineno__") 398, val := Value.int 92 397 }, { hash := PyData.keyHash P (Str.ofString "__init__"), key := Value.str (Str.ofString "__init__") 411, val := Value.ref 133 }, { hash := PyData.keyHash P (Str.ofString "__static_attributes__"), key := Value.str (Str.ofString "__static_attributes__") 431, val := Value.ref 134 }, { hash := PyData.keyHash P (Str.ofString "__dict__"), key := Value.str (Str.ofString "__dict__") 433, val := Value.ref 137 }, { hash := PyData.keyHash P (Str.ofString "__weakref__"), key := Value.str (Str.ofString "__weakref__") 435, val := Value.ref 138 }, { hash := PyData.keyHash P (Str.ofString "__doc__"), key := Value.str (Str.ofString "__doc__") 436, val := Value.none }] 4 }) ::
  (nat_lit 136, { cls := Value.type "type", data := Data.cls { name := Str.ofString "Scene", bases := [Value.type "object"], mro := [Value.ref 136, Value.type "object"], ns := 135, qualname := Str.ofString "Scene" }, slots := #[none, none, some (Value.str (Str.ofString "Scene") 387), some (Value.str (Str.ofString "Scene") 395), some (Value.builtin "object.__new__"), some (Value.bool true)] }) ::
  (nat_lit 137, { cls := Value.type "getset_descriptor", data := Data.fields #[Value.str (Str.ofString "__dict__") 432, Value.ref 136, Value.builtin "function.__dict__", Value.builtin "function.__dict__#set"] }) ::
  (nat_lit 138, { cls := Value.type "getset_descriptor", data := Data.fields #[Value.str (Str.ofString "__weakref__") 434, Value.ref 136, Value.builtin "ExceptionGroup.__weakref__", Value.none] }) ::
  (nat_lit 141, { cls := Value.type "tuple", data := Data.seq #[] }) ::
  (nat_lit 143, { cls := Value.type "tuple", data := Data.seq #[Value.str (Str.ofString "script") 444, Value.str (Str.ofString "k") 445, Value.str (Str.ofString "usual") 446] }) ::
  (nat_lit 144, { cls := Value.type "tuple", data := Data.seq #[] }) ::
  (nat_lit 146, { cls := Value.type "code", data := Data.fields #[Value.str (Str.ofString "_law_draw") 441, Value.str (Str.ofString "_law_draw") 442, Value.str (Str.ofString "/claim/cut.py") 443, Value.int 115 0, Value.int 2 0, Value.int 0 0, Value.int 0 0, Value.int 3 0, Value.ref 141, Value.bool true, Value.int 181 0, Value.ref 142, Value.none, Value.ref 143, Value.ref 144, Value.ref 145, Value.int 447 0, Value.int 115 0, Value.str (Str.ofString "/claim/cut.py") 448] }) ::
  (nat_lit 147, { cls := Value.type "function", data := Data.func { name := Str.ofString "_law_draw", qualname := Str.ofString "_law_draw", params := fpar (top 17), body := FuncBody.stmts (fbody (top 17)), scope := fscope (top 17), globals := 3, closure := [], defaults := Value.none, kwdefaults := Value.none, pyModule := Value.str (Str.ofString "law_pf0335_01") 439, code := Value.ref 146 } }) ::
  (nat_lit 148, { cls := Value.type "tuple", data := Data.seq #[] }) ::
  (nat_lit 150, { cls := Value.type "tuple", data := Data.seq #[Value.str (Str.ofString "n") 453, Value.str (Str.ofString "bases") 454, Value.str (Str.ofString "out") 455, Value.str (Str.ofString "base") 456] }) ::
  (nat_lit 151, { cls := Value.type "tuple", data := Data.seq #[] }) ::
  (nat_lit 153, { cls := Value.type "code", data := Data.fields #[Value.str (Str.ofString "_law_digits") 450, Value.str (Str.ofString "_law_digits") 451, Value.str (Str.ofString "/claim/cut.py") 452, Value.int 119 0, Value.int 2 0, Value.int 0 0, Value.int 0 0, Value.int 3 0, Value.ref 148, Value.bool true, Value.int 181 0, Value.ref 149, Value.none, Value.ref 150, Value.ref 151, Value.ref 152, Value.int 457 0, Value.int 119 0, Value.str (Str.ofString "/claim/cut.py") 458] }) ::
  (nat_lit 154, { cls := Value.type "function", data := Data.func { name := Str.ofString "_law_digits", qualname := Str.ofString "_law_digits", params := fpar (top 18), body := FuncBody.stmts (fbody (top 18)), scope := fscope (top 18), globals := 3, closure := [], defaults := Value.none, kwdefaults := Value.none, pyModule := Value.str (Str.ofString "law_pf0335_01") 439, code := Value.ref 153 } }) ::
  (nat_lit 155, { cls := Value.type "tuple", data := Data.seq #[] }) ::
  (nat_lit 157, { cls := Value.type "tuple", data := Data.seq #[Value.str (Str.ofString "family") 463, Value.str (Str.ofString "k") 464] }) ::
  (nat_lit 158, { cls := Value.type "tuple", data := Data.seq #[] }) ::
  (nat_lit 160, { cls := Value.type "code", data := Data.fields #[Value.str (Str.ofString "_law_host") 460, Value.str (Str.ofString "_law_host") 461, Value.str (Str.ofString "/claim/cut.py") 462, Value.int 125 0, Value.int 2 0, Value.int 0 0, Value.int 0 0, Value.int 3 0, Value.ref 155, Value.bool true, Value.int 181 0, Value.ref 156, Value.none, Value.ref 157, Value.ref 158, Value.ref 159, Value.int 465 0, Value.int 125 0, Value.str (Str.ofString "/claim/cut.py") 466] }) ::
  (nat_lit 161, { cls := Value.type "function", data := Data.func { name := Str.ofString "_law_host", qualname := Str.ofString "_law_host", params := fpar (top 19), body := FuncBody.stmts (fbody (top 19)), scope := fscope (top 19), globals := 3, closure := [], defaults := Value.none, kwdefaults := Value.none, pyModule := Value.str (Str.ofString "law_pf0335_01") 439, code := Value.ref 160 } }) ::
  (nat_lit 162, { cls := Value.type "tuple", data := Data.seq #[] }) ::
  (nat_lit 164, { cls := Value.type "tuple", data := Data.seq #[Value.str (Str.ofString "draw") 471, Value.str (Str.ofString "six") 472, Value.str (Str.ofString "first") 473, Value.str (Str.ofString "second") 474, Value.str (Str.ofString "sport") 475, Value.str (Str.ofString "dport") 476, Value.str (Str.ofString "change") 477, Value.str (Str.ofString "zone") 478, Value.str (Str.ofString "bits") 479, Value.str (Str.ofString "tcp") 480, Value.str (Str.ofString "family") 481, Value.str (Str.ofString "head") 482, Value.str (Str.ofString "source") 483, Value.str (Str.ofString "target") 484, Value.str (Str.ofString "there") 485, Value.str (Str.ofString "back") 486] }) ::
  (nat_lit 165, { cls := Value.type "tuple", data := Data.seq #[] }) ::
  (nat_lit 167, { cls := Value.type "code", data := Data.fields #[Value.str (Str.ofString "_law_talk") 468, Value.str (Str.ofString "_law_talk") 469, Value.str (Str.ofString "/claim/cut.py") 470, Value.int 127 0, Value.int 1 0, Value.int 0 0, Value.int 0 0, Value.int 3 0, Value.ref 162, Value.bool true, Value.int 181 0, Value.ref 163, Value.none, Value.ref 164, Value.ref 165, Value.ref 166, Value.int 487 0, Value.int 127 0, Value.str (Str.ofString "/claim/cut.py") 488] }) ::
  (nat_lit 168, { cls := Value.type "function", data := Data.func { name := Str.ofString "_law_talk", qualname := Str.ofString "_law_talk", params := fpar (top 20), body := FuncBody.stmts (fbody (top 20)), scope := fscope (top 20), globals := 3, closure := [], defaults := Value.none, kwdefaults := Value.none, pyModule := Value.str (Str.ofString "law_pf0335_01") 439, code := Value.ref 167 } }) ::
  (nat_lit 169, { cls := Value.type "tuple", data := Data.seq #[] }) ::
  (nat_lit 171, { cls := Value.type "tuple", data := Data.seq #[Value.str (Str.ofString "draw") 493, Value.str (Str.ofString "tcp") 494, Value.str (Str.ofString "port") 495, Value.str (Str.ofString "timeout") 496, Value.str (Str.ofString "most") 497, Value.str (Str.ofString "family") 498] }) ::
  (nat_lit 172, { cls := Value.type "tuple", data := Data.seq #[] }) ::
  (nat_lit 174, { cls := Value.type "code", data := Data.fields #[Value.str (Str.ofString "_law_spec") 490, Value.str (Str.ofString "_law_spec") 491, Value.str (Str.ofString "/claim/cut.py") 492, Value.int 140 0, Value.int 1 0, Value.int 0 0, Value.int 0 0, Value.int 3 0, Value.ref 169, Value.bool true, Value.int 181 0, Value.ref 170, Value.none, Value.ref 171, Value.ref 172, Value.ref 173, Value.int 499 0, Value.int 140 0, Value.str (Str.ofString "/claim/cut.py") 500] }) ::
  (nat_lit 175, { cls := Value.type "function", data := Data.func { name := Str.ofString "_law_spec", qualname := Str.ofString "_law_spec", params := fpar (top 21), body := FuncBody.stmts (fbody (top 21)), scope := fscope (top 21), globals := 3, closure := [], defaults := Value.none, kwdefaults := Value.none, pyModule := Value.str (Str.ofString "law_pf0335_01") 439, code := Value.ref 174 } }) ::
  (nat_lit 176, { cls := Value.type "tuple", data := Data.seq #[] }) ::
  (nat_lit 178, { cls := Value.type "tuple", data := Data.seq #[Value.str (Str.ofString "names") 505, Value.str (Str.ofString "objects") 506, Value.str (Str.ofString "name") 507] }) ::
  (nat_lit 179, { cls := Value.type "tuple", data := Data.seq #[] }) ::
  (nat_lit 181, { cls := Value.type "code", data := Data.fields #[Value.str (Str.ofString "_law_objects") 502, Value.str (Str.ofString "_law_objects") 503, Value.str (Str.ofString "/claim/cut.py") 504, Value.int 144 0, Value.int 1 0, Value.int 0 0, Value.int 0 0, Value.int 3 0, Value.ref 176, Value.bool true, Value.int 181 0, Value.ref 177, Value.none, Value.ref 178, Value.ref 179, Value.ref 180, Value.int 508 0, Value.int 144 0, Value.str (Str.ofString "/claim/cut.py") 509] }) ::
  (nat_lit 182, { cls := Value.type "function", data := Data.func { name := Str.ofString "_law_objects", qualname := Str.ofString "_law_objects", params := fpar (top 22), body := FuncBody.stmts (fbody (top 22)), scope := fscope (top 22), globals := 3, closure := [], defaults := Value.none, kwdefaults := Value.none, pyModule := Value.str (Str.ofString "law_pf0335_01") 439, code := Value.ref 181 } }) ::
  (nat_lit 183, { cls := Value.type "tuple", data := Data.seq #[] }) ::
  (nat_lit 186, { cls := Value.type "code", data := Data.fields #[Value.str (Str.ofString "_law_request") 511, Value.str (Str.ofString "_law_request") 512, Value.str (Str.ofString "/claim/cut.py") 513, Value.int 151 0, Value.int 5 0, Value.int 0 0, Value.int 0 0, Value.int 3 0, Value.ref 183, Value.bool true, Value.int 181 0, Value.ref 184, Value.none, Value.none, Value.none, Value.ref 185, Value.int 514 0, Value.int 151 0, Value.str (Str.ofString "/claim/cut.py") 515] }) ::
  (nat_lit 187, { cls := Value.type "function", data := Data.func { name := Str.ofString "_law_request", qualname := Str.ofString "_law_request", params := fpar (top 23), body := FuncBody.stmts (fbody (top 23)), scope := fscope (top 23), globals := 3, closure := [], defaults := Value.none, kwdefaults := Value.none, pyModule := Value.str (Str.ofString "law_pf0335_01") 439, code := Value.ref 186 } }) ::
  (nat_lit 188, { cls := Value.type "tuple", data := Data.seq #[] }) ::
  (nat_lit 191, { cls := Value.type "code", data := Data.fields #[Value.str (Str.ofString "_law_take") 517, Value.str (Str.ofString "_law_take") 518, Value.str (Str.ofString "/claim/cut.py") 519, Value.int 164 0, Value.int 4 0, Value.int 0 0, Value.int 0 0, Value.int 3 0, Value.ref 188, Value.bool true, Value.int 181 0, Value.ref 189, Value.none, Value.none, Value.none, Value.ref 190, Value.int 520 0, Value.int 164 0, Value.str (Str.ofString "/claim/cut.py") 521] }) ::
  (nat_lit 192, { cls := Value.type "function", data := Data.func { name := Str.ofString "_law_take", qualname := Str.ofString "_law_take", params := fpar (top 24), body := FuncBody.stmts (fbody (top 24)), scope := fscope (top 24), globals := 3, closure := [], defaults := Value.none, kwdefaults := Value.none, pyModule := Value.str (Str.ofString "law_pf0335_01") 439, code := Value.ref 191 } }) ::
  (nat_lit 193, { cls := Value.type "tuple", data := Data.seq #[] }) ::
  (nat_lit 195, { cls := Value.type "tuple", data := Data.seq #[Value.str (Str.ofString "world") 526, Value.str (Str.ofString "rest") 527, Value.str (Str.ofString "pick") 528, Value.str (Str.ofString "flaw") 529, Value.str (Str.ofString "host") 530, Value.str (Str.ofString "sport") 531, Value.str (Str.ofString "keys") 532, Value.str (Str.ofString "key") 533, Value.str (Str.ofString "zone") 534, Value.str (Str.ofString "parts") 535] }) ::
  (nat_lit 196, { cls := Value.type "tuple", data := Data.seq #[] }) ::
  (nat_lit 198, { cls := Value.type "code", data := Data.fields #[Value.str (Str.ofString "_law_aim") 523, Value.str (Str.ofString "_law_aim") 524, Value.str (Str.ofString "/claim/cut.py") 525, Value.int 171 0, Value.int 2 0, Value.int 0 0, Value.int 0 0, Value.int 3 0, Value.ref 193, Value.bool true, Value.int 181 0, Value.ref 194, Value.none, Value.ref 195, Value.ref 196, Value.ref 197, Value.int 536 0, Value.int 171 0, Value.str (Str.ofString "/claim/cut.py") 537] }) ::
  (nat_lit 199, { cls := Value.type "function", data := Data.func { name := Str.ofString "_law_aim", qualname := Str.ofString "_law_aim", params := fpar (top 25), body := FuncBody.stmts (fbody (top 25)), scope := fscope (top 25), globals := 3, closure := [], defaults := Value.none, kwdefaults := Value.none, pyModule := Value.str (Str.ofString "law_pf0335_01") 439, code := Value.ref 198 } }) ::
  (nat_lit 200, { cls := Value.type "tuple", data := Data.seq #[] }) ::
  (nat_lit 202, { cls := Value.type "tuple", data := Data.seq #[Value.str (Str.ofString "world") 542, Value.str (Str.ofString "made") 543, Value.str (Str.ofString "book") 544, Value.str (Str.ofString "objects") 545, Value.str (Str.ofString "rest") 546, Value.str (Str.ofString "now") 547, Value.str (Str.ofString "who") 548, Value.str (Str.ofString "way") 549, Value.str (Str.ofString "name") 550, Value.str (Str.ofString "number") 551, Value.str (Str.ofString "scene") 552, Value.str (Str.ofString "told") 553] }) ::
  (nat_lit 203, { cls := Value.type "tuple", data := Data.seq #[] }) ::
  (nat_lit 205, { cls := Value.type "code", data := Data.fields #[Value.str (Str.ofString "_law_ask") 539, Value.str (Str.ofString "_law_ask") 540, Value.str (Str.ofString "/claim/cut.py") 541, Value.int 186 0, Value.int 6 0, Value.int 0 0, Value.int 0 0, Value.int 3 0, Value.ref 200, Value.bool true, Value.int 181 0, Value.ref 201, Value.none, Value.ref 202, Value.ref 203, Value.ref 204, Value.int 554 0, Value.int 186 0, Value.str (Str.ofString "/claim/cut.py") 555] }) ::
  (nat_lit 206, { cls := Value.type "function", data := Data.func { name := Str.ofString "_law_ask", qualname := Str.ofString "_law_ask", params := fpar (top 26), body := FuncBody.stmts (fbody (top 26)), scope := fscope (top 26), globals := 3, closure := [], defaults := Value.none, kwdefaults := Value.none, pyModule := Value.str (Str.ofString "law_pf0335_01") 439, code := Value.ref 205 } }) ::
  (nat_lit 207, { cls := Value.type "tuple", data := Data.seq #[] }) ::
  (nat_lit 209, { cls := Value.type "tuple", data := Data.seq #[Value.str (Str.ofString "world") 560, Value.str (Str.ofString "book") 561, Value.str (Str.ofString "rest") 562, Value.str (Str.ofString "now") 563, Value.str (Str.ofString "zone") 564, Value.str (Str.ofString "t") 565, Value.str (Str.ofString "expect") 566, Value.str (Str.ofString "told") 567] }) ::
  (nat_lit 210, { cls := Value.type "tuple", data := Data.seq #[] }) ::
  (nat_lit 212, { cls := Value.type "code", data := Data.fields #[Value.str (Str.ofString "_law_took") 557, Value.str (Str.ofString "_law_took") 558, Value.str (Str.ofString "/claim/cut.py") 559, Value.int 199 0, Value.int 4 0, Value.int 0 0, Value.int 0 0, Value.int 3 0, Value.ref 207, Value.bool true, Value.int 181 0, Value.ref 208, Value.none, Value.ref 209, Value.ref 210, Value.ref 211, Value.int 568 0, Value.int 199 0, Value.str (Str.ofString "/claim/cut.py") 569] }) ::
  (nat_lit 213, { cls := Value.type "function", data := Data.func { name := Str.ofString "_law_took", qualname := Str.ofString "_law_took", params := fpar (top 27), body := FuncBody.stmts (fbody (top 27)), scope := fscope (top 27), globals := 3, closure := [], defaults := Value.none, kwdefaults := Value.none, pyModule := Value.str (Str.ofString "law_pf0335_01") 439, code := Value.ref 212 } }) ::
  (nat_lit 214, { cls := Value.type "tuple", data := Data.seq #[] }) ::
  (nat_lit 217, { cls := Value.type "code", data := Data.fields #[Value.str (Str.ofString "_law_turn") 571, Value.str (Str.ofString "_law_turn") 572, Value.str (Str.ofString "/claim/cut.py") 573, Value.int 206 0, Value.int 7 0, Value.int 0 0, Value.int 0 0, Value.int 3 0, Value.ref 214, Value.bool true, Value.int 181 0, Value.ref 215, Value.none, Value.none, Value.none, Value.ref 216, Value.int 574 0, Value.int 206 0, Value.str (Str.ofString "/claim/cut.py") 575] }) ::
  (nat_lit 218, { cls := Value.type "function", data := Data.func { name := Str.ofString "_law_turn", qualname := Str.ofString "_law_turn", params := fpar (top 28), body := FuncBody.stmts (fbody (top 28)), scope := fscope (top 28), globals := 3, closure := [], defaults := Value.none, kwdefaults := Value.none, pyModule := Value.str (Str.ofString "law_pf0335_01") 439, code := Value.ref 217 } }) ::
  (nat_lit 219, { cls := Value.type "tuple", data := Data.seq #[] }) ::
  (nat_lit 222, { cls := Value.type "code", data := Data.fields #[Value.str (Str.ofString "_law_is_list") 577, Value.str (Str.ofString "_law_is_list") 578, Value.str (Str.ofString "/claim/cut.py") 579, Value.int 224 0, Value.int 2 0, Value.int 0 0, Value.int 0 0, Value.int 3 0, Value.ref 219, Value.bool true, Value.int 181 0, Value.ref 220, Value.none, Value.none, Value.none, Value.ref 221, Value.int 580 0, Value.int 224 0, Value.str (Str.ofString "/claim/cut.py") 581] }) ::
  (nat_lit 223, { cls := Value.type "function", data := Data.func { name := Str.ofString "_law_is_list", qualname := Str.ofString "_law_is_list", params := fpar (top 29), body := FuncBody.stmts (fbody (top 29)), scope := fscope (top 29), globals := 3, closure := [], defaults := Value.none, kwdefaults := Value.none, pyModule := Value.str (Str.ofString "law_pf0335_01") 439, code := Value.ref 222 } }) ::
  (nat_lit 224, { cls := Value.type "tuple", data := Data.seq #[] }) ::
  (nat_lit 226, { cls := Value.type "tuple", data := Data.seq #[Value.str (Str.ofString "world") 586, Value.str (Str.ofString "made") 587, Value.str (Str.ofString "book") 588, Value.str (Str.ofString "number") 589, Value.str (Str.ofString "talk") 590, Value.str (Str.ofString "due") 591, Value.str (Str.ofString "told") 592] }) ::
  (nat_lit 227, { cls := Value.type "tuple", data := Data.seq #[] }) ::
  (nat_lit 229, { cls := Value.type "code", data := Data.fields #[Value.str (Str.ofString "_law_are_same") 583, Value.str (Str.ofString "_law_are_same") 584, Value.str (Str.ofString "/claim/cut.py") 585, Value.int 229 0, Value.int 3 0, Value.int 0 0, Value.int 0 0, Value.int 3 0, Value.ref 224, Value.bool true, Value.int 181 0, Value.ref 225, Value.none, Value.ref 226, Value.ref 227, Value.ref 228, Value.int 593 0, Value.int 229 0, Value.str (Str.ofString "/claim/cut.py") 594] }) ::
  (nat_lit 230, { cls := Value.type "function", data := Data.func { name := Str.ofString "_law_are_same", qualname := Str.ofString "_law_are_same", params := fpar (top 30), body := FuncBody.stmts (fbody (top 30)), scope := fscope (top 30), globals := 3, closure := [], defaults := Value.none, kwdefaults := Value.none, pyModule := Value.str (Str.ofString "law_pf0335_01") 439, code := Value.ref 229 } }) ::
  (nat_lit 231, { cls := Value.type "tuple", data := Data.seq #[] }) ::
  (nat_lit 233, { cls := Value.type "tuple", data := Data.seq #[Value.str (Str.ofString "script") 599, Value.str (Str.ofString "world") 600, Value.str (Str.ofString "made") 601, Value.str (Str.ofString "k") 602, Value.str (Str.ofString "number") 603, Value.str (Str.ofString "talk") 604, Value.str (Str.ofString "book") 605, Value.str (Str.ofString "objects") 606, Value.str (Str.ofString "now") 607, Value.str (Str.ofString "what") 608, Value.str (Str.ofString "wait") 609, Value.str (Str.ofString "rest") 610] }) ::
  (nat_lit 234, { cls := Value.type "tuple", data := Data.seq #[] }) ::
  (nat_lit 236, { cls := Value.type "code", data := Data.fields #[Value.str (Str.ofString "law") 596, Value.str (Str.ofString "law") 597, Value.str (Str.ofString "/claim/cut.py") 598, Value.int 238 0, Value.int 1 0, Value.int 0 0, Value.int 0 0, Value.int 3 0, Value.ref 231, Value.bool true, Value.int 181 0, Value.ref 232, Value.none, Value.ref 233, Value.ref 234, Value.ref 235, Value.int 611 0, Value.int 238 0, Value.str (Str.ofString "/claim/cut.py") 612] }) ::
  (nat_lit 237, { cls := Value.type "function", data := Data.func { name := Str.ofString "law", qualname := Str.ofString "law", params := fpar (top 31), body := FuncBody.stmts (fbody (top 31)), scope := fscope (top 31), globals := 3, closure := [], defaults := Value.none, kwdefaults := Value.none, pyModule := Value.str (Str.ofString "law_pf0335_01") 439, code := Value.ref 236 } }) :: []
noncomputable def hd.at_39 : List Addr := [2, 3, 22, 24, 25, 27, 28, 29, 30, 31, 32, 33, 43, 44, 46, 47, 49, 50, 51, 52, 53, 54, 55, 58, 60, 61, 63, 64, 65, 68, 69, 77, 79, 80, 82, 83, 84, 85, 86, 87, 88, 91, 93, 94, 96, 97, 98, 100, 101, 103, 104, 105, 107, 108, 110, 111, 112, 114, 115, 117, 118, 126, 127, 129, 130, 132, 133, 134, 135, 136, 137, 138, 141, 143, 144, 146, 147, 148, 150, 151, 153, 154, 155, 157, 158, 160, 161, 162, 164, 165, 167, 168, 169, 171, 172, 174, 175, 176, 178, 179, 181, 182, 183, 186, 187, 188, 191, 192, 193, 195, 196, 198, 199, 200, 202, 203, 205, 206, 207, 209, 210, 212, 213, 214, 217, 218, 219, 222, 223, 224, 226, 227, 229, 230, 231, 233, 234, 236, 237]
theorem hd.at_eq : ∀ P, hd.at_39 = (hd.heap_39 P).map (·.1) := fun _ => by kernel_rfl
theorem hd.said : OpenLaw.wellSaid Challenge.rw_pf0335_01 = true := by
  rw [PySem.W.Fast.te9446332074065402090]
  decide +kernel
theorem hd.left_of {p q : Program} {loose : List Str} {Xt : Shared → Bool} {α : Type} {Yf : Shared → α} {Ya : World → α} {N : Nat} (e : opening p = plainProg p.main.scope.names) (hN : Nat.ble 600 N = true) (f : ∀ s, fenceModules? p s = some s)
    (h : ∀ (w : World) (os : OsState), (topFrom treeTable p w N ⟨boot_heap w.params, Array.mk [], boot_drawn, boot_toks, os⟩).map (fun s => (openSeen q loose (importedModules p.main.body) Xt true s, Yf s)) = some (openGood q loose, Ya w)) : LeftO p q loose Xt Yf Ya N := fun w => by
  obtain ⟨⟨h0, gs, d, k, os⟩, e1, e2⟩ := Option.map_eq_some_iff.mp (boot_open e hN f w)
  obtain ⟨rfl, rfl, rfl, rfl⟩ : h0 = boot_heap w.params ∧ gs = Array.mk [] ∧ d = boot_drawn ∧ k = boot_toks := by simpa using e2
  unfold openEnds
  rw [e1]
  exact h w os
theorem hd.boot1 : opening Challenge.rw_pf0335_01.row.toRowW.prog = plainProg Challenge.rw_pf0335_01.row.toRowW.prog.main.scope.names := by kernel_rfl
theorem hd.boot2 : ∀ s, fenceModules? Challenge.rw_pf0335_01.row.toRowW.prog s = some s := fun _ => by kernel_rfl
theorem hd.left : LeftO Challenge.rw_pf0335_01.row.toRowW.prog hd.view_39 [] (fun s => xlAt hd.view_39 [] s && recOk (RowW.records Challenge.rw_pf0335_01.row.toRowW) s) (kHook hd.heap_39 hd.at_39 hd.at_eq).obs (kHook hd.heap_39 hd.at_39 hd.at_eq).val 3530 := by
  refine hd.left_of hd.boot1 (by decide) hd.boot2 fun w os => ?_
  unfold topFrom
  rw [PySem.W.Fast.te14082659384304107361, PySem.W.Fast.te4187177175401517315, PySem.W.Fast.te5923862056798008813, PySem.W.Fast.te14364793385576792824, PySem.W.Fast.te8920871248978507458]
  kernel_rfl
theorem hd.promised : RowW.promised Challenge.rw_pf0335_01.row.toRowW := by w_witness2
/-! M1 -/
abbrev Part := Int ⊕ List Int
section
variable {prog : Program} {w : World}
def partHash : Part → Int
  | .inl n => hashInt n
  | .inr l => tupleKeyHash (intKind prog w) l
def partDraws : Part → Nat
  | .inl _ => 1
  | .inr l => l.length + 1
def partsDraws : List Part → Nat
  | [] => 0
  | p :: r => partDraws p + partsDraws r
inductive PartIs (prog : Program) (w : World) (h : Heap) : Part → Value → Prop
  | int (n : Int) (t : Tok) : PartIs prog w h (.inl n) (.int n t)
  | tup {l : List Int} {b : Addr} : IsTupleKey (intKind prog w) h l b → PartIs prog w h (.inr l) (.ref b)
inductive PartsAre (prog : Program) (w : World) (h : Heap) : List Part → List Value → Prop
  | nil : PartsAre prog w h [] []
  | cons {k : Part} {v : Value} {ks : List Part} {vs : List Value} : PartIs prog w h k v → PartsAre prog w h ks vs → PartsAre prog w h (k :: ks) (v :: vs)
def IsPartsKey (prog : Program) (w : World) (h : Heap) (ks : List Part) (a : Addr) : Prop := ∃ o items n, h.get? a = some o ∧ o.cls = .type "tuple" ∧ o.data = .seq items n ∧ PartsAre prog w h ks items.toList

theorem PartIs.inj {h : Heap} {x y : Part} {v : Value} (hx : PartIs prog w h x v) (hy : PartIs prog w h y v) : x = y := by
  cases hx with
  | int n t => cases hy; rfl
  | tup hx => cases hy with
    | tup hy => rw [hx.inj hy]
theorem PartsAre.inj {h : Heap} {x y : List Part} {vs : List Value} (hx : PartsAre prog w h x vs) (hy : PartsAre prog w h y vs) : x = y := by
  induction hx generalizing y with
  | nil => cases hy; rfl
  | cons h1 _ ih => cases hy with
    | cons h2 t2 => rw [h1.inj h2, ih t2]
theorem PartsAre.length {h : Heap} {x : List Part} {vs : List Value} (hx : PartsAre prog w h x vs) : x.length = vs.length := by
  induction hx with
  | nil => rfl
  | cons _ _ ih => simp [ih]
theorem PartIs.mono {h h' : Heap} {x : Part} {v : Value} (hx : PartIs prog w h x v) (k : ∀ a l, IsTupleKey (intKind prog w) h l a → IsTupleKey (intKind prog w) h' l a) : PartIs prog w h' x v := by
  cases hx with
  | int n t => exact .int n t
  | tup hx => exact .tup (k _ _ hx)
theorem PartsAre.mono {h h' : Heap} {x : List Part} {vs : List Value} (hx : PartsAre prog w h x vs) (k : ∀ a l, IsTupleKey (intKind prog w) h l a → IsTupleKey (intKind prog w) h' l a) : PartsAre prog w h' x vs := by
  induction hx with
  | nil => exact .nil
  | cons h1 _ ih => exact .cons (h1.mono k) ih
theorem IsPartsKey.typeIs {s : Shared} {ks : List Part} {a : Addr} (x : IsPartsKey prog w s.heap ks a) : s.TypeIs (.ref a) "tuple" := let ⟨o, _, _, ho, hc, _⟩ := x; ⟨o, ho, hc⟩
theorem IsPartsKey.inj {h : Heap} {a : Addr} {x y : List Part} (hx : IsPartsKey prog w h x a) (hy : IsPartsKey prog w h y a) : x = y := by
  obtain ⟨o, items, n, ho, _, hd, hi⟩ := hx
  obtain ⟨o', items', n', ho', _, hd', hi'⟩ := hy
  obtain rfl : o = o' := Option.some.inj (ho.symm.trans ho')
  rw [hd] at hd'
  injection hd' with h1 _
  subst h1
  exact hi.inj hi'
theorem IsPartsKey.keeps {h h' : Heap} {ks : List Part} {a d : Addr} {o : Obj} {es ep} (x : IsPartsKey prog w h ks a) (ho : h.get? d = some o) (hd : o.data = .dict es ep) (hs : Heap.SameBut d h h') :
    IsPartsKey prog w h' ks a := by
  obtain ⟨o', items, n, ho', hc, hd', hi⟩ := x
  have hne : a ≠ d := by
    rintro rfl
    obtain rfl : o' = o := Option.some.inj (ho'.symm.trans ho)
    rw [hd] at hd'; exact nomatch hd'
  exact ⟨o', items, n, (hs.2 a hne).trans ho', hc, hd', hi.mono fun _ _ x => x.keeps ho hd hs⟩

variable {A : Around} {E : Value → Shared → Prop} {s : Shared}
theorem PartIs.heap {s s' : Shared} (e : s'.heap = s.heap) {x : Part} {v : Value} (hx : PartIs prog w s.heap x v) : PartIs prog w s'.heap x v := e ▸ hx
def partsHash (prog : Program) (w : World) (ks : List Part) : Int := reduceHash (Builtin.Tuple.tupleHashOf (ks.map (partHash (prog := prog) (w := w))))

theorem part_hash {k : Part} {v : Value} {Q : Int → Shared → Prop} (hu : A.units < cLine) (hk : PartIs prog w s.heap k v) (h : Q (partHash (prog := prog) (w := w) k) { s with toks := s.toks + partDraws k }) :
    wpAny (model prog w) A (pyHash v) Q E s := by
  cases hk with
  | int n t => exact wpAny_pyHash_int h
  | tup hk => exact wpAny_pyHash_tuple hu hk h
theorem parts_loop {h : Heap} {x : List Part} {vs : List Value} (hu : A.units < cLine) (hx : PartsAre prog w h x vs) : ∀ (s : Shared) (b : Array Int) (Q : Array Int → Shared → Prop), s.heap = h →
    (∀ b', b'.toList = b.toList ++ x.map (partHash (prog := prog) (w := w)) → Q b' { s with toks := s.toks + partsDraws x }) →
    wpAny (model prog w) A (forIn vs b fun x r => do let h ← pyHash x; pure PUnit.unit; pure (ForInStep.yield (r.push h))) Q E s := by
  induction hx with
  | nil => exact fun s b Q _ k => wpAny_pure (k b (List.append_nil _).symm)
  | @cons p v ps vs h1 _ ih =>
    intro s b Q e k
    subst e
    rw [List.forIn_cons]
    refine wpAny_bind (wpAny_bind (part_hash hu h1 ?_))
    refine wpAny_pure ?_
    refine ih _ _ _ rfl fun b' hb => ?_
    show Q b' { s with toks := _ }
    rw [Nat.add_assoc]
    refine k b' (hb.trans ?_)
    rw [Array.toList_push, List.append_assoc]
    rfl
theorem parts_pyHash {ks : List Part} {a : Addr} {Q : Int → Shared → Prop} (hu : A.units + 1 < cLine) (hk : IsPartsKey prog w s.heap ks a) (h : Q (partsHash prog w ks) { s with toks := s.toks + (partsDraws ks + 1) }) :
    wpAny (model prog w) A (pyHash (.ref a)) Q E s := by
  have hT := hk.typeIs
  obtain ⟨o, items, n, ho, _, hd, hi⟩ := hk
  refine pyHash_slot (T := "tuple") hT F.slot_tuple_hash F.entry_tuple_hash (F.args_tuple_hash_1 _) (beq_builtin_none _) (.inr (Nat.lt_of_succ_lt hu)) ?_
  show wpAny _ _ (Builtin.Tuple.tupleItemsOf (.ref a) >>= _) _ _ s
  refine wpAny_bind (wpAny_tupleItemsOf ho hd ?_)
  refine wpAny_bind ?_
  rw [← Array.forIn_toList]
  refine parts_loop hu hi s #[] _ rfl fun b hb => ?_
  show wpAny _ _ (retInt (Builtin.Tuple.tupleHashOf b.toList)) _ _ _
  rw [hb]
  exact wpAny_bind (wpAny_mkInt (wpAny_pure ⟨_, _, rfl, h⟩))

inductive SameShape : List Part → List Part → Prop
  | nil : SameShape [] []
  | int {n m : Int} {x y : List Part} : SameShape x y → SameShape (.inl n :: x) (.inl m :: y)
  | tup {k l : List Int} {x y : List Part} : SameShape x y → SameShape (.inr k :: x) (.inr l :: y)
theorem SameShape.length {x y : List Part} (h : SameShape x y) : x.length = y.length := by
  induction h with
  | nil => rfl
  | int _ ih => exact congrArg (· + 1) ih
  | tup _ ih => exact congrArg (· + 1) ih
theorem items_any {prog' : Program} {w' : World} {l : List Int} {vs : List Value} (h : ItemsAre (intKind prog w) l vs) : ItemsAre (intKind prog' w') l vs := by
  induction h with
  | nil => exact .nil
  | cons h1 _ ih => exact .cons h1 ih
theorem key_any {prog' : Program} {w' : World} {h : Heap} {l : List Int} {b : Addr} (x : IsTupleKey (intKind prog w) h l b) : IsTupleKey (intKind prog' w') h l b :=
  x.elim fun o x => x.elim fun items x => x.elim fun n x => ⟨o, items, n, x.1, x.2.1, x.2.2.1, items_any x.2.2.2⟩
theorem int_eqAt {n m : Int} {u v : Value} (p : PartIs prog w s.heap (.inl n) u) (q : PartIs prog w s.heap (.inl m) v) : SeqAt.EqAt A s u v (decide (some (Sum.inl n : Part) = some (.inl m))) := by
  cases p; cases q
  exact (decide_eq_decide.mpr ⟨fun e => Sum.inl.inj (Option.some.inj e), fun e => congrArg _ (congrArg _ e)⟩ : _ = decide (n = m)) ▸ SeqAt.EqAt.int_int _ _ _ _
theorem tup_eqAt (hu : A.units < cLine) {n m : List Int} {u v : Value} (p : PartIs prog w s.heap (.inr n) u) (q : PartIs prog w s.heap (.inr m) v) : SeqAt.EqAt A s u v (decide (some (Sum.inr n : Part) = some (.inr m))) := by
  cases p with | tup p => ?_
  cases q with | tup q => ?_
  exact fun prog' w' E Q h => wpAny_eqBool_tuple hu (key_any p) (key_any q) ((decide_eq_decide.mpr ⟨fun e => Sum.inr.inj (Option.some.inj e), fun e => congrArg _ (congrArg _ e)⟩ : _ = decide (n = m)) ▸ h)
theorem get_cons {P : Value → Value → Bool → Prop} {us vs : List Value} {u v : Value} {k l : Part} {x y : List Part} (h0 : P u v (decide (some k = some l))) (ih : ∀ (j : Nat) (h1 : j < us.length) (h2 : j < vs.length), P us[j] vs[j] (decide (x[j]? = y[j]?))) :
    ∀ (j : Nat) (h1 : j < (u :: us).length) (h2 : j < (v :: vs).length), P (u :: us)[j] (v :: vs)[j] (decide ((k :: x)[j]? = (l :: y)[j]?)) := fun j =>
  match j with
  | 0 => fun _ _ => h0
  | j + 1 => fun h1 h2 => ih j (Nat.lt_of_succ_lt_succ h1) (Nat.lt_of_succ_lt_succ h2)
theorem PartsAre.uncons {h : Heap} {k : Part} {x : List Part} {vs : List Value} (hx : PartsAre prog w h (k :: x) vs) : ∃ v vs', vs = v :: vs' ∧ PartIs prog w h k v ∧ PartsAre prog w h x vs' := by
  cases hx with | cons p hx => exact ⟨_, _, rfl, p, hx⟩
theorem parts_eqAt {x y : List Part} (hu : A.units < cLine) (hs : SameShape x y) : ∀ {us vs : List Value}, PartsAre prog w s.heap x us → PartsAre prog w s.heap y vs →
    ∀ (j : Nat) (h1 : j < us.length) (h2 : j < vs.length), SeqAt.EqAt A s us[j] vs[j] (decide (x[j]? = y[j]?)) := by
  induction hs with
  | nil => exact fun hx _ j h1 => absurd h1 (hx.length ▸ Nat.not_lt_zero _)
  | int _ ih =>
    intro us vs hx hy
    obtain ⟨_, _, rfl, p, hx⟩ := hx.uncons
    obtain ⟨_, _, rfl, q, hy⟩ := hy.uncons
    exact get_cons (int_eqAt p q) (ih hx hy)
  | tup _ ih =>
    intro us vs hx hy
    obtain ⟨_, _, rfl, p, hx⟩ := hx.uncons
    obtain ⟨_, _, rfl, q, hy⟩ := hy.uncons
    exact get_cons (tup_eqAt hu p q) (ih hx hy)
theorem all_eq {x y : List Part} {a b : Nat} (ea : x.length = a) (eb : y.length = b) (e : x.length = y.length) : ((List.range (min a b)).all (fun j => decide (x[j]? = y[j]?)) && a == b) = decide (x = y) := by
  subst ea eb
  rw [e, Nat.min_self, beq_self_eq_true, Bool.and_true]
  refine Bool.eq_iff_iff.mpr (List.all_eq_true.trans ⟨fun h => decide_eq_true (List.ext_getElem? fun i => ?_), fun h => ?_⟩)
  · rcases Nat.lt_or_ge i y.length with hi | hi
    · exact of_decide_eq_true (h i (List.mem_range.mpr hi))
    · rw [List.getElem?_eq_none hi, List.getElem?_eq_none (e ▸ hi)]
  · rw [of_decide_eq_true h]
    exact fun j _ => decide_eq_true rfl
theorem parts_eqBool {x y : List Part} {a b : Addr} {Q : Bool → Shared → Prop} (hu : A.units + 1 < cLine) (hx : IsPartsKey prog w s.heap x a) (hy : IsPartsKey prog w s.heap y b) (hs : SameShape x y) (h : Q (decide (x = y)) s) :
    wpAny (model prog w) A (eqBool (.ref a) (.ref b)) Q E s := by
  by_cases e : a = b
  · subst e
    exact SeqAt.EqAt.same _ prog w E Q (decide_eq_true (hx.inj hy) ▸ h)
  · obtain ⟨o, items, n, ho, hc, hd, hi⟩ := hx
    obtain ⟨o', items', n', ho', hc', hd', hi'⟩ := hy
    refine SeqAt.EqAt.of_refs e (SeqAt.RcAt.tuples (e := fun j => decide (x[j]? = y[j]?)) ⟨o, ho, hc, n, hd⟩ ⟨o', ho', hc', n', hd'⟩ (Nat.lt_of_succ_lt hu) (parts_eqAt (A := A.in1) hu hs hi hi')) prog w E Q ?_
    rw [all_eq (a := items.size) (b := items'.size) hi.length hi'.length hs.length]
    exact h

theorem tuple_quiet {n : Nat} {a : Addr} {o : Obj} {items : Array Value} {m : Nat} {Q : Bool → Shared → Prop} (ho : s.heap.get? a = some o) (hc : o.cls = .type "tuple") (hd : o.data = .seq items m)
    (hall : ∀ v ∈ items.toList, ∀ Q : Bool → Shared → Prop, Q true s → wpAny (model prog w) A (eqIsQuiet n v) Q E s) (h : Q true s) : wpAny (model prog w) A (eqIsQuiet (n + 1) (.ref a)) Q E s := by
  unfold eqIsQuiet
  refine wpAny_bind (wpAny_specialOf ⟨o, ho, hc⟩ F.slot_tuple_eq.lookup ?_)
  show wpAny _ _ (isInstance (.ref a) (.type "tuple") >>= _) _ _ s
  refine wpAny_bind (wpAny_isInstance ⟨o, ho, hc⟩ isSubtype_tuple_tuple ?_)
  refine wpAny_bind (wpAny_seqItems ho hd ?_)
  refine wpAny_bind ?_
  show wpAny _ _ (forIn items _ _) _ _ s
  rw [← Array.forIn_toList]
  refine wpAny_forIn_list _ (fun rest r s' => r = (none, ()) ∧ s' = s ∧ ∀ v ∈ rest, ∀ Q : Bool → Shared → Prop, Q true s → wpAny (model prog w) A (eqIsQuiet n v) Q E s) _ ?_ ?_ _ _ ⟨rfl, rfl, hall⟩
  · rintro v rest r s' ⟨rfl, rfl, hall⟩
    exact wpAny_bind (hall v List.mem_cons_self _ (wpAny_pure ⟨rfl, rfl, fun u hu' => hall u (List.mem_cons_of_mem _ hu')⟩))
  · rintro r s' ⟨rfl, rfl, _⟩
    exact wpAny_pure h
theorem flat_quiet {n : Nat} {ks : List Int} {a : Addr} {Q : Bool → Shared → Prop} (hk : IsTupleKey (intKind prog w) s.heap ks a) (h : Q true s) : wpAny (model prog w) A (eqIsQuiet (n + 1) (.ref a)) Q E s := by
  obtain ⟨o, items, m, ho, hc, hd, hi⟩ := hk
  exact tuple_quiet ho hc hd (fun v hv Q h => by rw [eqIsQuiet_byValue _ (hi.byValue v hv)]; exact wpAny_pure h) h
theorem part_quiet {n : Nat} {k : Part} {v : Value} {Q : Bool → Shared → Prop} (hk : PartIs prog w s.heap k v) (h : Q true s) : wpAny (model prog w) A (eqIsQuiet (n + 1) v) Q E s := by
  cases hk with
  | int n t => rw [eqIsQuiet_byValue _ rfl]; exact wpAny_pure h
  | tup hk => exact flat_quiet hk h
theorem PartsAre.mem {h : Heap} {x : List Part} {vs : List Value} (hx : PartsAre prog w h x vs) : ∀ v ∈ vs, ∃ k, PartIs prog w h k v := by
  induction hx with
  | nil => exact fun v hv => absurd hv List.not_mem_nil
  | cons h1 _ ih => exact fun v hv => (List.mem_cons.mp hv).elim (fun e => ⟨_, e ▸ h1⟩) (ih v)
theorem parts_quiet {ks : List Part} {a : Addr} {Q : Bool → Shared → Prop} (hk : IsPartsKey prog w s.heap ks a) (h : Q true s) : wpAny (model prog w) A (eqIsQuiet 8 (.ref a)) Q E s := by
  obtain ⟨o, items, m, ho, hc, hd, hi⟩ := hk
  exact tuple_quiet ho hc hd (fun v hv Q h => (hi.mem v hv).elim fun k hk => part_quiet hk h) h
def partKind (prog : Program) (w : World) {K : Type} [DecidableEq K] (f : K → List Part) (inj : ∀ {x y}, f x = f y → x = y) (shape : ∀ x y, SameShape (f x) (f y)) : HeapKind prog w K where
  is := fun h k a => IsPartsKey prog w h (f k) a
  hash := fun k => partsHash prog w (f k)
  draws := fun k => partsDraws (f k) + 1
  room := fun A => A.units + 1 < cLine
  inj := fun hx hy => inj (hx.inj hy)
  keeps := fun x ho hd hs => x.keeps ho hd hs
  pyHash := fun hu hk h => parts_pyHash hu hk h
  eqBool := fun {_ _ _ x y _ _ _} hu hx hy h => parts_eqBool hu hx hy (shape x y) (decide_eq_decide.mpr ⟨inj, congrArg f⟩ ▸ h)
  quiet := fun hk h => parts_quiet hk h
end
/-- a key of the slots: the talk's number, the tuple, the serial -/
abbrev SK := Int × List Int × Int
def SK.parts (k : SK) : List Part := [.inl k.1, .inr k.2.1, .inl k.2.2]
theorem SK.parts_inj {x y : SK} (h : x.parts = y.parts) : x = y := by
  obtain ⟨a, b, c⟩ := x
  obtain ⟨a', b', c'⟩ := y
  injection h with h1 h2; injection h2 with h2 h3; injection h3 with h3
  injection h1 with h1; injection h2 with h2; injection h3 with h3
  subst h1 h2 h3
  rfl
theorem SK.shape (x y : SK) : SameShape x.parts y.parts := .int (.tup (.int .nil))
def slotKind (prog : Program) (w : World) : HeapKind prog w SK := partKind prog w SK.parts SK.parts_inj SK.shape
/-! M2 -/
section
variable {prog : Program} {w : World} {K : Type} [DecidableEq K] {knd : HeapKind prog w K} {A : Around} {E : Value → Shared → Prop} {s : Shared}

def dropKey (xs : List (K × Addr × Value)) (k : K) : List (K × Addr × Value) := xs.filter fun x => decide (x.1 ≠ k)
theorem dropKey_erase {xs : List (K × Addr × Value)} (hn : (xs.map (·.1)).Nodup) {j : Nat} {k : K} {p : Addr × Value} (hj : xs[j]? = some (k, p)) : xs.eraseIdx j = dropKey xs k := by
  induction xs generalizing j with
  | nil => simp at hj
  | cons x r ih =>
    rw [List.map_cons, List.nodup_cons] at hn
    cases j with
    | zero =>
      simp only [List.getElem?_cons_zero, Option.some.injEq] at hj
      subst hj
      simp only [List.eraseIdx_cons_zero, dropKey, List.filter_cons, ne_eq, not_true_eq_false, decide_false, Bool.false_eq_true, if_false]
      symm
      rw [List.filter_eq_self]
      intro y hy
      refine decide_eq_true fun e => hn.1 (List.mem_map.mpr ⟨y, hy, e⟩)
    | succ i =>
      simp only [List.getElem?_cons_succ] at hj
      have hne : x.1 ≠ k := fun e => hn.1 (List.mem_map.mpr ⟨(k, p), List.mem_of_getElem? hj, e.symm⟩)
      have := ih hn.2 hj
      simp only [List.eraseIdx_cons_succ, this, dropKey, List.filter_cons]
      rw [if_pos (by simpa using hne)]

theorem map_eraseIdx' {α β : Type} (f : α → β) : ∀ (l : List α) (j : Nat), (l.eraseIdx j).map f = (l.map f).eraseIdx j
  | [], _ => rfl
  | _ :: _, 0 => rfl
  | _ :: r, j + 1 => by simp [map_eraseIdx' f r j]
theorem takeOut_heap {d a : Addr} {xs : List (K × Addr × Value)} {k : K} {p : Addr × Value} {j : Nat} {Q : Option DictEntry → Shared → Prop} (hu : knd.room A) (hkey : knd.is s.heap k a) (hm : s.heap.DictOfH knd d xs) (hj : xs[j]? = some (k, p))
    (hsome : ∀ h', h'.DictOfH knd d (dropKey xs k) → Heap.SameBut d s.heap h' → Q (some ⟨knd.hash k, .ref p.1, p.2⟩) { s with heap := h', toks := s.toks + knd.draws k })
    (hsz : xs.length ≤ sizeLine) :
    wpAny (model prog w) A (Builtin.Dict.takeOut d (.ref a)) Q E s := by
  obtain ⟨o, es, ep, ho, hc, hd, he, his, hn⟩ := hm
  have hes : es.size ≤ sizeLine := by rw [size_of_entries he]; exact hsz
  unfold Builtin.Dict.takeOut
  try with_reducible refine wpAny_holding ?_
  refine wpAny_bind (knd.pyHash hu hkey ?_)
  refine wpAny_bind (wpAny_dictFind_heap (s := { s with toks := s.toks + knd.draws k }) hu hkey ho hd he his hn ?_ ?_)
  · intro hno
    exact absurd hj (hno j p)
  · intro i q hi
    obtain rfl := idxH_unique hn hj hi
    obtain rfl : p = q := by rw [hj] at hi; exact (Prod.mk.inj (Option.some.inj hi)).2
    refine wpAny_bind (wpAny_dictEntries (s := { s with toks := s.toks + knd.draws k }) ho hd ?_)
    have hej : es[j]? = some ⟨knd.hash k, .ref p.1, p.2⟩ := by rw [entry_at he j, hj]; rfl
    rw [hej]
    have hl : xs.eraseIdx j = dropKey xs k := dropKey_erase hn hj
    refine wpAny_bind (wpAny_updateDictKeys (hz := hes) (s := { s with toks := s.toks + knd.draws k }) ho hd (wpAny_pure (hsome _ ⟨_, _, ep + 1, Heap.get?_update_self _ ho (Obj.isFreed_of_dict (Obj.data_mapDictKeys hd _)),
      hc.mapDictKeys _, Obj.data_mapDictKeys hd _, ?_, ?_, ?_⟩ (Heap.SameBut.update ..))))
    · rw [← hl, map_eraseIdx', ← he]
      obtain ⟨l⟩ := es
      simp
    · intro x hx
      exact knd.keeps (his x (List.mem_filter.mp hx).1) ho hd (Heap.SameBut.update ..)
    · exact List.Nodup.sublist (List.Sublist.map _ List.filter_sublist) hn

theorem delitem_heap {d a : Addr} {xs : List (K × Addr × Value)} {k : K} {p : Addr × Value} {j : Nat} {P : Fin → Shared → Prop} (hu : knd.room A) (hkey : knd.is s.heap k a) (hm : s.heap.DictOfH knd d xs) (hj : xs[j]? = some (k, p)) (hsz : xs.length ≤ sizeLine)
    (h : ∀ h', h'.DictOfH knd d (dropKey xs k) → Heap.SameBut d s.heap h' → P (.done (.ret .none)) { s with heap := h', toks := s.toks + knd.draws k }) :
    wpAny (model prog w) A (Builtin.«dict.__delitem__» ⟨[.ref d, .ref a], []⟩) P E s := by
  unfold Builtin.«dict.__delitem__»
  refine wpAny_bind ?_
  unfold Builtin.Dict.dictSlotArgs
  refine wpAny_bind (wpAny_notOrdered_dict hm.typeIs ?_)
  show wpAny _ _ (pure (Value.ref d, Value.ref a)) _ _ s
  refine wpAny_pure ?_
  show wpAny _ _ (Builtin.Dict.takeOut d (.ref a) >>= _) _ _ s
  refine wpAny_bind (takeOut_heap hu hkey hm hj (fun h' hm' hs' => ?_) hsz)
  exact wpAny_bind (wpAny_letGo (wpAny_pure (h h' hm' hs')))

theorem pop_heap {d a : Addr} {xs : List (K × Addr × Value)} {k : K} {p : Addr × Value} {j : Nat} {P : Fin → Shared → Prop} (hu : knd.room A) (hkey : knd.is s.heap k a) (hm : s.heap.DictOfH knd d xs) (hj : xs[j]? = some (k, p)) (hsz : xs.length ≤ sizeLine)
    (h : ∀ h', h'.DictOfH knd d (dropKey xs k) → Heap.SameBut d s.heap h' → P (.done (.ret p.2)) { s with heap := h', toks := s.toks + knd.draws k }) :
    wpAny (model prog w) A (Builtin.«dict.pop» ⟨[.ref d, .ref a], []⟩) P E s := by
  unfold Builtin.«dict.pop»
  refine wpAny_bind ?_
  unfold Builtin.Dict.keyAndDefault
  refine wpAny_bind (wpAny_notOrdered_dict hm.typeIs ?_)
  show wpAny _ _ (pure (d, Value.ref a, none)) _ _ s
  refine wpAny_pure ?_
  have hne : xs ≠ [] := by rintro rfl; simp at hj
  obtain ⟨o, es, ep, ho, hc, hd, he, his, hn⟩ := id hm
  have hem : es.isEmpty = false := by
    rw [Array.isEmpty_eq_false_iff]
    rintro rfl
    cases xs with
    | nil => exact hne rfl
    | cons _ _ => simp at he
  simp only [show (keyPart (Value.ref a)).isSome = false from rfl, Bool.false_eq_true, if_false]
  refine wpAny_bind (wpAny_dictEntries ho hd (wpAny_bind (wpAny_pure ?_)))
  rw [hem]
  simp only [Bool.false_eq_true, if_false]
  refine wpAny_bind (takeOut_heap hu hkey hm hj (fun h' hm' hs' => ?_) hsz)
  simp only [Option.isNone_some, Bool.false_eq_true, if_false]
  exact wpAny_bind (wpAny_letGo (wpAny_pure (h h' hm' hs')))
end

/-! the keys of a dict, walked -/
section
variable {prog : Program} {w : World} {A : Around} {E : Value → Shared → Prop} {s : Shared}
def DictRaw (h : Heap) (d : Addr) (es : Array DictEntry) (ep : Nat) : Prop := ∃ o, h.get? d = some o ∧ o.ExactDict ∧ o.data = .dict es ep
theorem DictRaw.typeIs {s : Shared} {d : Addr} {es ep} (x : DictRaw s.heap d es ep) : s.TypeIs (.ref d) "dict" := let ⟨o, ho, hc, _⟩ := x; ⟨o, ho, hc.1⟩
theorem DictRaw.at {h h' : Heap} {d es ep} (x : DictRaw h d es ep) (e : ∀ o, h.get? d = some o → h'.get? d = some o) : DictRaw h' d es ep := let ⟨o, ho, r⟩ := x; ⟨o, e _ ho, r⟩
theorem pyIter_dictRaw {d : Addr} {es : Array DictEntry} {ep : Nat} {Q : Value → Shared → Prop} (hd : (d == sysModules) = false) (hm : DictRaw s.heap d es ep)
    (hQ : Q (.ref s.heap.objs.size) { s with heap := s.heap.push { cls := .type "dict_keyiterator", data := .fields #[.ref d, .int 0 0, .int es.size 0, .int ep 0] } }) :
    wpAny (model prog w) A (pyIter (.ref d)) Q E s := by
  have hT : s.TypeIs (.ref d) "dict" := hm.typeIs
  obtain ⟨o, ho, hc, hdat⟩ := id hm
  refine wpAny_pyIter_slot hT F.slot_dict_iter (wpAny_call_entry F.slot_dict_iter hT F.entry_dict_iter ?_ (F.args_dict_iter_1 _))
  unfold Builtin.«dict.__iter__»
  refine wpAny_bind ?_
  unfold Builtin.Dict.dictSlotNone
  refine wpAny_bind (wpAny_notOrdered_dict hT ?_)
  show wpAny _ _ (pure (Value.ref d)) _ _ s
  refine wpAny_pure ?_
  show wpAny _ _ (Builtin.Dict.showsAll d >>= _) _ _ s
  unfold Builtin.Dict.showsAll
  rw [if_neg (by rw [hd]; exact Bool.false_ne_true)]
  refine wpAny_bind (wpAny_pure ?_)
  refine wpAny_bind (wpAny_dictEntries ho hdat ?_)
  refine wpAny_bind (wpAny_dictEpoch ho hdat ?_)
  refine wpAny_bind (wpAny_newObj_type (wpAny_pure ⟨_, rfl, "dict_keyiterator", _, ⟨_, Heap.get?_push_size _ rfl, rfl⟩, F.slot_dict_keyiterator_next.lookup, ?_⟩))
  simpa [rawInt] using hQ

theorem pyNext_dictRaw {it d : Addr} {i ep : Nat} {es : Array DictEntry} {Q : Option Value → Shared → Prop} (hit : s.heap.IsKeyIter it d i es.size ep)
    (hm : DictRaw s.heap d es ep) (hQ : ∀ h e, es[i]? = some e → h.IsKeyIter it d (i + 1) es.size ep → Heap.SameBut it s.heap h → Q (some e.key) { s with heap := h })
    (hE : es[i]? = none → A.handled = none ∧ ∀ h', Heap.ExtBut it s.heap h' → Q none { s with heap := h' }) :
    wpAny (model prog w) A (pyNext (.ref it)) Q E s := by
  obtain ⟨o, ho, hc, hd⟩ := id hit
  obtain ⟨od, hod, hcd, hdd⟩ := id hm
  unfold pyNext
  refine wpAny_bind (wpAny_attempt (wpAny_callSpecial?_slot (name := Str.ofString "__next__") hit.typeIs F.slot_dict_keyiterator_next
    (wpAny_call_entry F.slot_dict_keyiterator_next hit.typeIs F.entry_dict_keyiterator_next ?_ (F.args_dict_keyiterator_next_1 _))))
  refine wpAny_bind (wpAny_pure ?_)
  refine wpAny_bind ?_
  refine wpAny_bind ?_
  refine wpAny_bind (wpAny_typeNameOfWhole_keyiter hit.typeIs (wpAny_pure ?_))
  refine wpAny_bind (wpAny_fieldsOf ho hd ?_)
  have hown : Builtin.Dict_items.ownsTuple "dict_keyiterator" = false := by decide
  rw [hown]
  show wpAny _ _ (if (Value.ref d == Value.none) = true then _ else _) _ _ s
  rw [if_neg (show ¬ ((Value.ref d == Value.none) = true) from Bool.false_ne_true)]
  refine wpAny_bind (wpAny_pure ?_)
  refine wpAny_bind (wpAny_dictEntries hod hdd ?_)
  rw [if_neg (by rw [bne_self_eq_false]; exact Bool.false_ne_true)]
  refine wpAny_bind (wpAny_pure ?_)
  refine wpAny_bind (wpAny_dictEpoch hod hdd ?_)
  rw [if_neg (by rw [bne_self_eq_false]; exact Bool.false_ne_true)]
  refine wpAny_pure ?_
  dsimp only
  rw [if_neg (Int.not_lt.mpr (Int.natCast_nonneg i)), Int.toNat_natCast]
  cases he : es[i]? with
  | some e =>
    refine wpAny_bind ?_
    refine wpAny_bind (wpAny_typeNameOfWhole_keyiter hit.typeIs (wpAny_pure ?_))
    refine wpAny_bind (wpAny_isOneOf_keyiter hit.typeIs ?_)
    show wpAny _ _ (setField (.ref it) 1 (rawInt ((i : Int) + 1)) >>= _) _ _ s
    refine wpAny_bind (wpAny_setField ho hd (by show 1 < 4; decide) ?_)
    have hit' : (s.heap.update it (Obj.mapFields (·.setIfInBounds 1 (rawInt ((i : Int) + 1))))).IsKeyIter it d (i + 1) es.size ep :=
      ⟨_, Heap.get?_update_self _ ho (Obj.isFreed_of_fields (Obj.data_mapFields hd _)), (Obj.cls_mapFields ..).trans hc, by rw [Obj.data_mapFields hd]; rfl⟩
    refine wpAny_bind (wpAny_holding ?_)
    refine wpAny_bind (wpAny_isOneOf_keyiter (s := { s with heap := s.heap.update it (Obj.mapFields (·.setIfInBounds 1 (rawInt ((i : Int) + 1)))) }) hit'.typeIs ?_)
    show wpAny _ _ (pure e.key) _ _ _
    exact wpAny_pure (wpAny_pure ⟨_, rfl, wpAny_pure (hQ _ e he hit' (Heap.SameBut.update ..))⟩)
  | none =>
    obtain ⟨hh, hE⟩ := hE he
    refine wpAny_bind ?_
    refine wpAny_bind (wpAny_typeNameOfWhole_keyiter hit.typeIs (wpAny_pure ?_))
    show wpAny _ _ (setField (.ref it) 0 .none >>= _) _ _ s
    refine wpAny_bind (wpAny_setField ho hd (by show 0 < 4; decide) ?_)
    show wpAny _ _ (newExc (.type "StopIteration") [] >>= _) _ _ _
    refine wpAny_bind ?_
    unfold newExc newTuple
    refine wpAny_bind (wpAny_newObj_type ?_ (by size_fits))
    refine wpAny_bind (m := firstArgMember _ _) (wpAny_of_eq (a := Value.none) (by first | rfl | (simp only [firstArgMember]; rfl)) ?_)
    refine wpAny_newObj_type ?_ (by size_fits)
    unfold raiseNew
    refine wpAny_bind (wpAny_handled ?_)
    rw [show A.in1.handled = none from hh]
    refine wpAny_bind (wpAny_pure (wpAny_throw ?_))
    refine wpAny_bind (wpAny_isInstance (T := "StopIteration") (b := true) ⟨_, Heap.get?_push_size _ rfl, rfl⟩ isSubtype_stop ?_)
    exact wpAny_pure (hE _ (((Heap.SameBut.update ..).extBut.push _).push _))

theorem walks_dictRaw (hh : A.handled = none) (I d : Addr) (hne : d ≠ I) (es : Array DictEntry) (ep : Nat) :
    Walks prog w A I [I, d] [I] es.size (fun i v => ∃ e, es[i]? = some e ∧ v = e.key) (fun i h => h.IsKeyIter I d i es.size ep ∧ DictRaw h d es ep) where
  sub := fun b hb => List.mem_cons.mpr (.inl (List.mem_singleton.mp hb))
  frame := fun _ _ _ st hk => ⟨st.1.at fun o e => hk I (.head _) o e, st.2.at fun o e => hk d (.tail _ (.head _)) o e⟩
  item := fun i s Q E hi st hQ => pyNext_dictRaw st.1 st.2 (fun h' e he hit' hs' =>
      hQ _ h' s.toks ⟨e, he, rfl⟩ ⟨hit', st.2.at fun o e => hs'.extBut d o hne e⟩ fun b o hb e => hs'.extBut b o (fun h => hb (List.mem_singleton.mpr h)) e)
    fun he => absurd (Array.getElem?_eq_getElem hi ▸ he) (fun x => nomatch x)
  done := fun s Q E st hQ => pyNext_dictRaw st.1 st.2 (fun _ _ he => absurd (Array.getElem?_eq_none (Nat.le_refl es.size) ▸ he) (fun x => nomatch x))
    fun _ => ⟨hh, fun h' he' => hQ h' s.toks fun b o hb e => he' b o (fun h => hb (List.mem_singleton.mpr h)) e⟩
  self := fun _ _ _ _ st hQ => wpAny_pyIter_keyiter st.1 hQ
end
/-! M3 -/
abbrev Led := List (Addr × Obj)
/-- a goal that the walker leaves alone -/
def Stop (P : Prop) : Prop := P
theorem stop {P : Prop} (h : Stop P) : P := h
theorem Stop.go {P : Prop} (h : P) : Stop P := h

/-- a for's turn has ended -/
def TurnV (h₀ : Heap) (L : Addr) (J : (Str → Option Value) → Led → Prop) (I : Addr) (oI : Obj) (s₁ : Shared) (Q : Flow → Shared → Prop) (f : Flow) (s₂ : Shared) : Prop :=
  match f with
  | .ret v => Q (.ret v) s₂
  | .brk => Q .next s₂
  | _ => ∃ h' tk m' news', s₂ = { s₁ with heap := h', toks := tk } ∧ Fr h₀ L h' m' ∧ News h₀ L h' ((I, oI) :: news') ∧ (∀ p ∈ news', p.1 ≠ I) ∧ J m' news'
theorem TurnV.next {h₀ h' : Heap} {L : Addr} {J : (Str → Option Value) → Led → Prop} {I : Addr} {oI : Obj} {s₁ : Shared} {Q : Flow → Shared → Prop} {m' : Str → Option Value} {news' : Led} {tk : Nat}
    (F : Fr h₀ L h' m') (N : News h₀ L h' ((I, oI) :: news')) (off : ∀ p ∈ news', p.1 ≠ I) (hJ : J m' news') : TurnV h₀ L J I oI s₁ Q .next { s₁ with heap := h', toks := tk } := ⟨h', tk, m', news', rfl, F, N, off, hJ⟩
theorem TurnV.retd {h₀ : Heap} {L : Addr} {J : (Str → Option Value) → Led → Prop} {I : Addr} {oI : Obj} {s₁ s₂ : Shared} {Q : Flow → Shared → Prop} {v : Value} (h : Q (.ret v) s₂) : TurnV h₀ L J I oI s₁ Q (.ret v) s₂ := h
theorem gen_tok {M : Model} {A : Around} {α : Type} {t : Sem α} {Q : α → Shared → Prop} {E : Value → Shared → Prop} {h : Heap} {g : Array GenState} {d : Drawn} {T : Tok} {os : OsState} (k : ∀ tk, wpAny M A t Q E ⟨h, g, d, tk, os⟩) : wpAny M A t Q E ⟨h, g, d, T, os⟩ := k T
theorem execs_app {env : Env} (l r : List Stmt) : execs (l ++ r) env = (do match ← execs l env with | .next => execs r env | f => pure f) := by
  induction l with
  | nil => rfl
  | cons st l ih =>
    rw [List.cons_append, execs_cons, execs_cons, bind_assoc]
    refine congrArg _ (funext fun f => ?_)
    cases f
    · exact ih
    · rfl
    · rfl
    · rfl
/-- a body's first part has ended -/
def SeqV (h₀ : Heap) (L : Addr) (J : (Str → Option Value) → Led → Prop) (g : Array GenState) (d : Drawn) (os : OsState) (Q : Flow → Shared → Prop) (f : Flow) (s₂ : Shared) : Prop :=
  match f with
  | .next => ∃ h' tk m' news', s₂ = ⟨h', g, d, tk, os⟩ ∧ Fr h₀ L h' m' ∧ News h₀ L h' news' ∧ J m' news'
  | f => Q f s₂
theorem SeqV.next {h₀ h' : Heap} {L : Addr} {J : (Str → Option Value) → Led → Prop} {g : Array GenState} {d : Drawn} {os : OsState} {Q Q1 : Flow → Shared → Prop} {m' : Str → Option Value} {news' : Led} {tk : Nat} (K1 : ∀ f s, SeqV h₀ L J g d os Q f s → Q1 f s)
    (F : Fr h₀ L h' m') (N : News h₀ L h' news') (hJ : J m' news') : Q1 .next ⟨h', g, d, tk, os⟩ := K1 _ _ ⟨h', tk, m', news', rfl, F, N, hJ⟩
theorem seq_cut {M : Model} {A : Around} {env : Env} {E : Value → Shared → Prop} {Q : Flow → Shared → Prop} {h₀ h : Heap} {L : Addr} {m₀ : Str → Option Value} {g : Array GenState} {d : Drawn} {T : Tok} {os : OsState} {b1 b2 : List Stmt} (_F : Fr h₀ L h m₀)
    (J : (Str → Option Value) → Led → Prop) (h1 : ∀ Q1 : Flow → Shared → Prop, (∀ f s, SeqV h₀ L J g d os Q f s → Q1 f s) → wpAny M A (execs b1 env) Q1 E ⟨h, g, d, T, os⟩)
    (h2 : ∀ h' tk m' news', Fr h₀ L h' m' → News h₀ L h' news' → J m' news' → wpAny M A (execs b2 env) Q E ⟨h', g, d, tk, os⟩) : wpAny M A (execs (b1 ++ b2) env) Q E ⟨h, g, d, T, os⟩ := by
  rw [execs_app]
  refine wpAny_bind (wpAny_mono (h1 _ fun _ _ h => h) (fun f s' k => ?_) fun _ _ e => e)
  cases f with
  | next =>
    obtain ⟨h', tk, m', nw, rfl, F, N, hJ⟩ := k
    exact h2 h' tk m' nw F N hJ
  | brk => exact wpAny_pure k
  | cont => exact wpAny_pure k
  | ret v => exact wpAny_pure k
theorem and3 {a0 a1 a2 P : Prop} (h : a0 ∧ a1 ∧ a2) (k : a0 → a1 → a2 → P) : P := k h.1 h.2.1 h.2.2
theorem and4 {a0 a1 a2 a3 P : Prop} (h : a0 ∧ a1 ∧ a2 ∧ a3) (k : a0 → a1 → a2 → a3 → P) : P := k h.1 h.2.1 h.2.2.1 h.2.2.2
theorem and5 {a0 a1 a2 a3 a4 P : Prop} (h : a0 ∧ a1 ∧ a2 ∧ a3 ∧ a4) (k : a0 → a1 → a2 → a3 → a4 → P) : P := k h.1 h.2.1 h.2.2.1 h.2.2.2.1 h.2.2.2.2
theorem and6 {a0 a1 a2 a3 a4 a5 P : Prop} (h : a0 ∧ a1 ∧ a2 ∧ a3 ∧ a4 ∧ a5) (k : a0 → a1 → a2 → a3 → a4 → a5 → P) : P := k h.1 h.2.1 h.2.2.1 h.2.2.2.1 h.2.2.2.2.1 h.2.2.2.2.2
theorem and7 {a0 a1 a2 a3 a4 a5 a6 P : Prop} (h : a0 ∧ a1 ∧ a2 ∧ a3 ∧ a4 ∧ a5 ∧ a6) (k : a0 → a1 → a2 → a3 → a4 → a5 → a6 → P) : P := k h.1 h.2.1 h.2.2.1 h.2.2.2.1 h.2.2.2.2.1 h.2.2.2.2.2.1 h.2.2.2.2.2.2
theorem and8 {a0 a1 a2 a3 a4 a5 a6 a7 P : Prop} (h : a0 ∧ a1 ∧ a2 ∧ a3 ∧ a4 ∧ a5 ∧ a6 ∧ a7) (k : a0 → a1 → a2 → a3 → a4 → a5 → a6 → a7 → P) : P := k h.1 h.2.1 h.2.2.1 h.2.2.2.1 h.2.2.2.2.1 h.2.2.2.2.2.1 h.2.2.2.2.2.2.1 h.2.2.2.2.2.2.2
theorem and9 {a0 a1 a2 a3 a4 a5 a6 a7 a8 P : Prop} (h : a0 ∧ a1 ∧ a2 ∧ a3 ∧ a4 ∧ a5 ∧ a6 ∧ a7 ∧ a8) (k : a0 → a1 → a2 → a3 → a4 → a5 → a6 → a7 → a8 → P) : P := k h.1 h.2.1 h.2.2.1 h.2.2.2.1 h.2.2.2.2.1 h.2.2.2.2.2.1 h.2.2.2.2.2.2.1 h.2.2.2.2.2.2.2.1 h.2.2.2.2.2.2.2.2
theorem and10 {a0 a1 a2 a3 a4 a5 a6 a7 a8 a9 P : Prop} (h : a0 ∧ a1 ∧ a2 ∧ a3 ∧ a4 ∧ a5 ∧ a6 ∧ a7 ∧ a8 ∧ a9) (k : a0 → a1 → a2 → a3 → a4 → a5 → a6 → a7 → a8 → a9 → P) : P := k h.1 h.2.1 h.2.2.1 h.2.2.2.1 h.2.2.2.2.1 h.2.2.2.2.2.1 h.2.2.2.2.2.2.1 h.2.2.2.2.2.2.2.1 h.2.2.2.2.2.2.2.2.1 h.2.2.2.2.2.2.2.2.2
theorem and11 {a0 a1 a2 a3 a4 a5 a6 a7 a8 a9 a10 P : Prop} (h : a0 ∧ a1 ∧ a2 ∧ a3 ∧ a4 ∧ a5 ∧ a6 ∧ a7 ∧ a8 ∧ a9 ∧ a10) (k : a0 → a1 → a2 → a3 → a4 → a5 → a6 → a7 → a8 → a9 → a10 → P) : P := k h.1 h.2.1 h.2.2.1 h.2.2.2.1 h.2.2.2.2.1 h.2.2.2.2.2.1 h.2.2.2.2.2.2.1 h.2.2.2.2.2.2.2.1 h.2.2.2.2.2.2.2.2.1 h.2.2.2.2.2.2.2.2.2.1 h.2.2.2.2.2.2.2.2.2.2
theorem and12 {a0 a1 a2 a3 a4 a5 a6 a7 a8 a9 a10 a11 P : Prop} (h : a0 ∧ a1 ∧ a2 ∧ a3 ∧ a4 ∧ a5 ∧ a6 ∧ a7 ∧ a8 ∧ a9 ∧ a10 ∧ a11) (k : a0 → a1 → a2 → a3 → a4 → a5 → a6 → a7 → a8 → a9 → a10 → a11 → P) : P := k h.1 h.2.1 h.2.2.1 h.2.2.2.1 h.2.2.2.2.1 h.2.2.2.2.2.1 h.2.2.2.2.2.2.1 h.2.2.2.2.2.2.2.1 h.2.2.2.2.2.2.2.2.1 h.2.2.2.2.2.2.2.2.2.1 h.2.2.2.2.2.2.2.2.2.2.1 h.2.2.2.2.2.2.2.2.2.2.2
/-- a mark: a line of the walk that bears its number is open -/
def Halt (_ : Nat) : Prop := True
section
variable {prog : Program} {w : World} {A : Around} {s : Shared} {env : Env} {h₀ : Heap}

inductive LoopI (h₀ : Heap) (L I : Addr) (n : Nat) (St : Nat → Heap → Prop) (S : Led → Prop) (J : Nat → (Str → Option Value) → Led → Prop) (s : Shared) (k : Nat) (s' : Shared) : Prop
  | mk (h' : Heap) (tk : Tok) (m' : Str → Option Value) (news' : Led) (i : Nat) (e : s' = { s with heap := h', toks := tk }) (st : St i h') (F : Fr h₀ L h' m') (N : News h₀ L h' news') (off : ∀ p ∈ news', p.1 ≠ I) (hS : S news') (hJ : J i m' news') (hi : i ≤ n) (hk : k = n + 1 - i) : LoopI h₀ L I n St S J s k s'
theorem forLoop_ledG {G : Obj → Prop} {R : Result → Shared → Prop} {x : Str} {px : Pos} {body : List Stmt} {I : Addr} {fp : List Addr} {n : Nat} {P : Nat → Value → Prop} {St : Nat → Heap → Prop} {m : Str → Option Value} {S : Led → Prop}
    {news : Led} (W : Walks prog w A I fp [I] n P St) (hIo : ∀ i h, St i h → ∃ o, h.get? I = some o ∧ G o)
    (hSt : ∀ i h h' o nw, St i h → h.get? I = some o → h'.get? I = some o → (∀ b o, h₀.get? b = some o → h'.get? b = some o) → News h₀ env.locals h' nw → S nw → St i h')
    (hx : env.kindOf x = some .local)
    (hp : (env.scope.kind == .class || (env.scope.kind == .module && env.locals != env.globals)) = false)
    (hLf : env.locals ∉ fp) (hI₀ : h₀.get? I = none) (hnw : ∀ p ∈ news, p.1 ≠ I)
    (hst : St 0 s.heap) (F : Fr h₀ env.locals s.heap m) (N : News h₀ env.locals s.heap news) (hS : S news)
    (J : Nat → (Str → Option Value) → Led → Prop) (h0 : J 0 m news)
    (step : ∀ i v m₁ news₁ h tk oI, i < n → G oI → P i v → J i m₁ news₁ → S news₁ → (∀ p ∈ news₁, p.1 ≠ I) →
      Fr h₀ env.locals h (fun y => if y = x then some v else m₁ y) → News h₀ env.locals h ((I, oI) :: news₁) →
      wpAny (model prog w) A (execs body env) (TurnV h₀ env.locals (fun m' nw' => J (i + 1) m' nw' ∧ S nw') I oI { s with heap := h, toks := tk } (fun f s' => R (.ok f) s')) (fun _ _ => False) { s with heap := h, toks := tk })
    (hR : ∀ h' tk m' news', Fr h₀ env.locals h' m' → News h₀ env.locals h' news' → J n m' news' → R (.ok .next) { s with heap := h', toks := tk }) :
    codeAny (model prog w) A (.forLoop (.Name x px) (.ref I) body [] env) R s := by
  have hIf : I ∈ fp := W.sub I (List.mem_singleton.mpr rfl)
  have hLI : env.locals ≠ I := fun e => hLf (e ▸ hIf)
  refine codeAny_forLoop
    (LoopI h₀ env.locals I n St S J s) ?_ (n + 1)
    ⟨s.heap, s.toks, m, news, 0, rfl, hst, F, N, hnw, hS, h0, Nat.zero_le _, rfl⟩
  rintro k s' ⟨h', tk, m', news', i, rfl, hst', F', N', hnw', hS', hJ, hi, rfl⟩
  have next : ∀ h₁ : Heap, (∀ b o, b ∉ [I] → h'.get? b = some o → h₁.get? b = some o) → Fr h₀ env.locals h₁ m' ∧ News h₀ env.locals h₁ news' := fun h₁ hk₁ =>
    ⟨LCg.fr_but F' hk₁ hLI hI₀, LCg.news_but N' hk₁ hnw'⟩
  by_cases hlt : i < n
  · refine W.item i _ _ _ hlt hst' fun v h₁ tk₁ hP hst₁ hk₁ => ?_
    obtain ⟨F₁, N₁⟩ := next h₁ hk₁
    refine wpAny_assign_Name (wpAny_storeName_local hx F₁.ns (fun h₂ hn₂ hs₂ => ?_) hp)
    have F₂ := F₁.set hn₂ hs₂
    have N₂ := N₁.set hs₂
    have hst₂ : St (i + 1) h₂ := W.frame _ _ _ hst₁ fun b hb o e => (hs₂.2 b fun q => hLf (q ▸ hb)).trans e
    obtain ⟨oI, heI, hG⟩ := hIo _ _ hst₂
    have N₃ : News h₀ env.locals h₂ ((I, oI) :: news') := fun p hp => by
      rcases List.mem_cons.mp hp with rfl | hp
      · exact ⟨heI, Ne.symm hLI, hI₀⟩
      · exact N₂ p hp
    refine wpAny_mono (step i v m' news' h₂ _ oI hlt hG hP hJ hS' hnw' F₂ N₃) (fun f s₃ h₃ => ?_) fun _ _ e => e.elim
    cases f with
    | ret v => exact h₃
    | brk => exact h₃
    | cont =>
      obtain ⟨h₃', tk₃, m₂, news₂, rfl, F₃, N₃, ha₃, hJ₃, hS₃⟩ := h₃
      exact ⟨n + 1 - (i + 1), by omega, h₃', tk₃, m₂, news₂, i + 1, rfl, hSt _ _ _ _ _ hst₂ heI (N₃ _ List.mem_cons_self).1 F₃.keep (fun p hp => N₃ p (List.mem_cons_of_mem _ hp)) hS₃, F₃, fun p hp => N₃ p (List.mem_cons_of_mem _ hp), ha₃, hS₃, hJ₃, hlt, rfl⟩
    | next =>
      obtain ⟨h₃', tk₃, m₂, news₂, rfl, F₃, N₃, ha₃, hJ₃, hS₃⟩ := h₃
      exact ⟨n + 1 - (i + 1), by omega, h₃', tk₃, m₂, news₂, i + 1, rfl, hSt _ _ _ _ _ hst₂ heI (N₃ _ List.mem_cons_self).1 F₃.keep (fun p hp => N₃ p (List.mem_cons_of_mem _ hp)) hS₃, F₃, fun p hp => N₃ p (List.mem_cons_of_mem _ hp), ha₃, hS₃, hJ₃, hlt, rfl⟩
  · have hin : i = n := by omega
    subst hin
    refine W.done _ _ _ hst' fun h₁ tk₁ hk₁ => wpAny_execs_nil ?_
    obtain ⟨F₁, N₁⟩ := next h₁ hk₁
    exact hR h₁ tk₁ m' news' F₁ N₁ hJ
theorem forLoop_led {R : Result → Shared → Prop} {x : Str} {px : Pos} {body : List Stmt} {I : Addr} {fp : List Addr} {n : Nat} {P : Nat → Value → Prop} {St : Nat → Heap → Prop} {m : Str → Option Value} {S : Led → Prop}
    {news : Led} (W : Walks prog w A I fp [I] n P St) (hIo : ∀ i h, St i h → ∃ o, h.get? I = some o)
    (hSt : ∀ i h h' o nw, St i h → h.get? I = some o → h'.get? I = some o → (∀ b o, h₀.get? b = some o → h'.get? b = some o) → News h₀ env.locals h' nw → S nw → St i h')
    (hx : env.kindOf x = some .local)
    (hp : (env.scope.kind == .class || (env.scope.kind == .module && env.locals != env.globals)) = false)
    (hLf : env.locals ∉ fp) (hI₀ : h₀.get? I = none) (hnw : ∀ p ∈ news, p.1 ≠ I)
    (hst : St 0 s.heap) (F : Fr h₀ env.locals s.heap m) (N : News h₀ env.locals s.heap news) (hS : S news)
    (J : Nat → (Str → Option Value) → Led → Prop) (h0 : J 0 m news)
    (step : ∀ i v m₁ news₁ h tk oI, i < n → P i v → J i m₁ news₁ → S news₁ → (∀ p ∈ news₁, p.1 ≠ I) →
      Fr h₀ env.locals h (fun y => if y = x then some v else m₁ y) → News h₀ env.locals h ((I, oI) :: news₁) →
      wpAny (model prog w) A (execs body env) (TurnV h₀ env.locals (fun m' nw' => J (i + 1) m' nw' ∧ S nw') I oI { s with heap := h, toks := tk } (fun f s' => R (.ok f) s')) (fun _ _ => False) { s with heap := h, toks := tk })
    (hR : ∀ h' tk m' news', Fr h₀ env.locals h' m' → News h₀ env.locals h' news' → J n m' news' → R (.ok .next) { s with heap := h', toks := tk }) :
    codeAny (model prog w) A (.forLoop (.Name x px) (.ref I) body [] env) R s :=
  forLoop_ledG (G := fun _ => True) W (fun i h st => (hIo i h st).imp fun _ e => ⟨e, trivial⟩) hSt hx hp hLf hI₀ hnw hst F N hS J h0 (fun i v m₁ news₁ h tk oI hi _ => step i v m₁ news₁ h tk oI hi) hR

/-- what a for over a list wants behind its iterable -/
inductive ForL (prog : Program) (w : World) (A : Around) (h₀ : Heap) (env : Env) (x : Str) (body : List Stmt) (Q : Flow → Shared → Prop) (xv : Value) (s₁ : Shared) : Prop
  | mk (l : Addr) (vs : Array Value) (m : Str → Option Value) (news : Led) (J : Nat → (Str → Option Value) → Led → Prop) (z0 : xv = .ref l) (z1 : A.handled = none) (z2 : Fr h₀ env.locals s₁.heap m) (z3 : News h₀ env.locals s₁.heap news) (z4 : LCg.SrcAt h₀ l vs news) (z5 : J 0 m news) (z6 : (∀ i v m₁ news₁ h tk I oI, vs[i]? = some v → J i m₁ news₁ → LCg.SrcAt h₀ l vs news₁ → (∀ p ∈ news₁, p.1 ≠ I) → Fr h₀ env.locals h (fun y => if y = x then some v else m₁ y) → News h₀ env.locals h ((I, oI) :: news₁) → wpAny (model prog w) A (execs body env) (TurnV h₀ env.locals (fun m' nw' => J (i + 1) m' nw' ∧ LCg.SrcAt h₀ l vs nw') I oI { s₁ with heap := h, toks := tk } Q) (fun _ _ => False) { s₁ with heap := h, toks := tk })) (z7 : ∀ h tk m' news', Fr h₀ env.locals h m' → News h₀ env.locals h news' → J vs.size m' news' → Q .next { s₁ with heap := h, toks := tk }) : ForL prog w A h₀ env x body Q xv s₁

theorem For_L {E : Value → Shared → Prop} {Q : Flow → Shared → Prop} {x : Str} {px pos : Pos} {iter : Expr} {body : List Stmt} {m₀ : Str → Option Value} (_F : Fr h₀ env.locals s.heap m₀) (hx : env.kindOf x = some .local)
    (hp : (env.scope.kind == .class || (env.scope.kind == .module && env.locals != env.globals)) = false)
    (h : wpAny (model prog w) A (eval iter env) (ForL prog w A h₀ env x body Q) (fun _ _ => False) s)
    (hs : ∀ x, foldedSetIterable iter env x = pure x := by intro _; rfl) :
    wpAny (model prog w) A (exec (.For (.Name x px) iter body [] pos) env) Q E s := by
  refine wpAny_noRaise (wpAny_For (wpAny_mono h (fun xv s₁ h₁ => ?_) fun _ _ e => e) hs)
  obtain ⟨l, vs, m, news, J, rfl, hh, F, N, S, h0, step, done⟩ := h₁
  have hl := S.list F.keep N
  have hlt : l < s₁.heap.objs.size := by obtain ⟨_, e, _⟩ := hl; exact Heap.lt_size e
  refine wpAny_pyIter_list hl ?_
  have up : ∀ b o, s₁.heap.get? b = some o → (s₁.heap.push { cls := .type "list_iterator", data := .fields #[.ref l, .int 0 0] }).get? b = some o := fun b o e => Heap.get?_push_of_some _ e
  have hLlt : env.locals < s₁.heap.objs.size := F.ns.lt
  have hlL : env.locals ≠ l := by
    rintro rfl
    obtain ⟨ol, el, hc, _, hd⟩ := hl
    obtain ⟨oL, _, _, eL, hdL, _⟩ := F.ns
    rw [el] at eL
    cases eL
    rw [hd] at hdL
    exact nomatch hdL
  refine forLoop_led (R := fun r s' => match r with | .ok f => Q f s' | .error e => cameBackBy (model prog w) A env (fun _ _ => False) e s') (S := LCg.SrcAt h₀ l vs)
    (Walks.list hh s₁.heap.objs.size l (Nat.ne_of_lt hlt) vs) (fun i h st => by obtain ⟨o, e, _⟩ := st.1; exact ⟨o, e⟩) LCg.list_st hx hp ?_ (next_is_new F) (fun p hp => Nat.ne_of_lt (Heap.lt_size (N p hp).1))
    ⟨⟨_, Heap.get?_push_size _ rfl, rfl, rfl⟩, hl.push _⟩ (F.keeps up) (N.grown up) S J h0 ?_ ?_
  · intro hm
    rcases List.mem_cons.mp hm with e | hm
    · exact absurd hLlt (e ▸ Nat.lt_irrefl _)
    · exact hlL (List.mem_singleton.mp hm)
  · intro i v m₁ news₁ h tk oI _ hP hJ hS hoff F₁ N₁
    exact step i v m₁ news₁ h tk _ oI (by simpa using hP) hJ hS hoff F₁ N₁
  · intro h' tk m' news' F' N' hJ
    exact done h' tk m' news' F' N' hJ

/-- what a for over range(n) wants behind its iterable -/
inductive ForR (prog : Program) (w : World) (A : Around) (h₀ : Heap) (env : Env) (x : Str) (body : List Stmt) (Q : Flow → Shared → Prop) (xv : Value) (s₁ : Shared) : Prop
  | mk (r : Addr) (a b : Int) (t u v : Tok) (n : Nat) (m : Str → Option Value) (news : Led) (J : Nat → (Str → Option Value) → Led → Prop) (z0 : xv = .ref r) (z1 : A.handled = none) (z2 : Fr h₀ env.locals s₁.heap m) (z3 : News h₀ env.locals s₁.heap news) (z4 : IsRange s₁.heap r a b 1 t u v) (z5 : Builtin.Range.small a b 1 = true) (z6 : Builtin.Range.rangeSize a b 1 = ((n : Nat) : Int)) (z7 : J 0 m news) (z8 : (∀ i t m₁ news₁ h tk I oI, i < n → J i m₁ news₁ → (∀ p ∈ news₁, p.1 ≠ I) → Fr h₀ env.locals h (fun y => if y = x then some (.int (a + (i : Int)) t) else m₁ y) → News h₀ env.locals h ((I, oI) :: news₁) → wpAny (model prog w) A (execs body env) (TurnV h₀ env.locals (fun m' nw' => J (i + 1) m' nw' ∧ True) I oI { s₁ with heap := h, toks := tk } Q) (fun _ _ => False) { s₁ with heap := h, toks := tk })) (z9 : ∀ h tk m' news', Fr h₀ env.locals h m' → News h₀ env.locals h news' → J n m' news' → Q .next { s₁ with heap := h, toks := tk }) : ForR prog w A h₀ env x body Q xv s₁
theorem For_R {E : Value → Shared → Prop} {Q : Flow → Shared → Prop} {x : Str} {px pos : Pos} {iter : Expr} {body : List Stmt} {m₀ : Str → Option Value} (_F : Fr h₀ env.locals s.heap m₀) (hx : env.kindOf x = some .local)
    (hp : (env.scope.kind == .class || (env.scope.kind == .module && env.locals != env.globals)) = false)
    (h : wpAny (model prog w) A (eval iter env) (ForR prog w A h₀ env x body Q) (fun _ _ => False) s)
    (hs : ∀ x, foldedSetIterable iter env x = pure x := by intro _; rfl) :
    wpAny (model prog w) A (exec (.For (.Name x px) iter body [] pos) env) Q E s := by
  refine wpAny_noRaise (wpAny_For (wpAny_mono h (fun xv s₁ h₁ => ?_) fun _ _ e => e) hs)
  obtain ⟨r, a, b, t, u, v, n, m, news, J, rfl, hh, F, N, hr, hsm, hn, h0, step, done⟩ := h₁
  refine wpAny_pyIter_range hr hsm ?_
  have hLlt : env.locals < s₁.heap.objs.size := F.ns.lt
  refine forLoop_led (R := fun r s' => match r with | .ok f => Q f s' | .error e => cameBackBy (model prog w) A env (fun _ _ => False) e s') (S := fun _ => True)
    (LCg.range_walks hh a n) (fun i h st => ⟨_, st⟩) LCg.range_st hx hp ?_ (next_is_new F) (fun p hp => Nat.ne_of_lt (Heap.lt_size (N p hp).1))
    (by show IsRangeIter _ _ _ _ _; rw [hn]; simpa using Heap.get?_push_size _ rfl) (F.keeps fun _ _ e => Heap.get?_push_of_some _ e) (N.grown fun _ _ e => Heap.get?_push_of_some _ e) trivial J h0 ?_ ?_
  · intro hm
    exact absurd hLlt ((List.mem_singleton.mp hm) ▸ Nat.lt_irrefl _)
  · rintro i v m₁ news₁ h tk oI hlt ⟨t, rfl⟩ hJ _ hoff F₁ N₁
    exact step i t m₁ news₁ h tk _ oI hlt hJ hoff F₁ N₁
  · intro h' tk m' news' F' N' hJ
    exact done h' tk m' news' F' N' hJ

/-- a dict at hand -/
def DictSrc (d : Addr) (es : Array DictEntry) (ep : Nat) (news : Led) : Prop := ∃ o, (d, o) ∈ news ∧ o.ExactDict ∧ o.data = .dict es ep
theorem DictSrc.raw {h : Heap} {L d : Addr} {es ep} {news : Led} (x : DictSrc d es ep news) (N : News h₀ L h news) : DictRaw h d es ep := let ⟨o, hm, r⟩ := x; ⟨o, (N _ hm).1, r⟩
theorem dict_st {L d I : Addr} {es : Array DictEntry} {ep : Nat} : ∀ i (h h' : Heap) (o : Obj) (nw : Led), (h.IsKeyIter I d i es.size ep ∧ DictRaw h d es ep) → h.get? I = some o → h'.get? I = some o → (∀ b o, h₀.get? b = some o → h'.get? b = some o) → News h₀ L h' nw → DictSrc d es ep nw →
    (h'.IsKeyIter I d i es.size ep ∧ DictRaw h' d es ep) :=
  fun i h h' o nw st e e' k N S => ⟨by obtain ⟨o', q, r⟩ := st.1; rw [e] at q; cases q; exact ⟨o, e', r⟩, S.raw N⟩
inductive ForD (prog : Program) (w : World) (A : Around) (h₀ : Heap) (env : Env) (x : Str) (body : List Stmt) (Q : Flow → Shared → Prop) (xv : Value) (s₁ : Shared) : Prop
  | mk (d : Addr) (es : Array DictEntry) (ep : Nat) (m : Str → Option Value) (news : Led) (J : Nat → (Str → Option Value) → Led → Prop) (z0 : xv = .ref d) (z1 : A.handled = none) (z2 : (d == sysModules) = false) (z3 : Fr h₀ env.locals s₁.heap m) (z4 : News h₀ env.locals s₁.heap news) (z5 : DictSrc d es ep news) (z6 : J 0 m news) (z7 : (∀ i e m₁ news₁ h tk I oI, es[i]? = some e → J i m₁ news₁ → DictSrc d es ep news₁ → (∀ p ∈ news₁, p.1 ≠ I) → Fr h₀ env.locals h (fun y => if y = x then some e.key else m₁ y) → News h₀ env.locals h ((I, oI) :: news₁) → wpAny (model prog w) A (execs body env) (TurnV h₀ env.locals (fun m' nw' => J (i + 1) m' nw' ∧ DictSrc d es ep nw') I oI { s₁ with heap := h, toks := tk } Q) (fun _ _ => False) { s₁ with heap := h, toks := tk })) (z8 : ∀ h tk m' news', Fr h₀ env.locals h m' → News h₀ env.locals h news' → J es.size m' news' → Q .next { s₁ with heap := h, toks := tk }) : ForD prog w A h₀ env x body Q xv s₁
theorem For_D {E : Value → Shared → Prop} {Q : Flow → Shared → Prop} {x : Str} {px pos : Pos} {iter : Expr} {body : List Stmt} {m₀ : Str → Option Value} (_F : Fr h₀ env.locals s.heap m₀) (hx : env.kindOf x = some .local)
    (hp : (env.scope.kind == .class || (env.scope.kind == .module && env.locals != env.globals)) = false)
    (h : wpAny (model prog w) A (eval iter env) (ForD prog w A h₀ env x body Q) (fun _ _ => False) s)
    (hs : ∀ x, foldedSetIterable iter env x = pure x := by intro _; rfl) :
    wpAny (model prog w) A (exec (.For (.Name x px) iter body [] pos) env) Q E s := by
  refine wpAny_noRaise (wpAny_For (wpAny_mono h (fun xv s₁ h₁ => ?_) fun _ _ e => e) hs)
  obtain ⟨d, es, ep, m, news, J, rfl, hh, lo, F, N, S, h0, step, done⟩ := h₁
  have hl := S.raw N
  have hlt : d < s₁.heap.objs.size := by obtain ⟨_, e, _⟩ := hl; exact Heap.lt_size e
  refine pyIter_dictRaw lo hl ?_
  have up : ∀ b o, s₁.heap.get? b = some o → (s₁.heap.push { cls := .type "dict_keyiterator", data := .fields #[.ref d, .int 0 0, .int es.size 0, .int ep 0] }).get? b = some o := fun b o e => Heap.get?_push_of_some _ e
  have hLlt : env.locals < s₁.heap.objs.size := F.ns.lt
  have hlL : env.locals ≠ d := by
    obtain ⟨o, hm, _⟩ := S
    exact Ne.symm (N _ hm).2.1
  refine forLoop_led (R := fun r s' => match r with | .ok f => Q f s' | .error e => cameBackBy (model prog w) A env (fun _ _ => False) e s') (S := DictSrc d es ep)
    (walks_dictRaw hh s₁.heap.objs.size d (Nat.ne_of_lt hlt) es ep) (fun i h st => by obtain ⟨o, e, _⟩ := st.1; exact ⟨o, e⟩) dict_st hx hp ?_ (next_is_new F) (fun p hp => Nat.ne_of_lt (Heap.lt_size (N p hp).1))
    ⟨⟨_, Heap.get?_push_size _ rfl, rfl, rfl⟩, hl.at (up d)⟩ (F.keeps up) (N.grown up) S J h0 ?_ ?_
  · intro hm
    rcases List.mem_cons.mp hm with e | hm
    · exact absurd hLlt (e ▸ Nat.lt_irrefl _)
    · exact hlL (List.mem_singleton.mp hm)
  · rintro i v m₁ news₁ h tk oI _ ⟨e, he, rfl⟩ hJ hS hoff F₁ N₁
    exact step i e m₁ news₁ h tk _ oI he hJ hS hoff F₁ N₁
  · intro h' tk m' news' F' N' hJ
    exact done h' tk m' news' F' N' hJ
end
/-! M4 -/
open LCg LCt
section
variable {prog : Program} {w : World} {A : Around} {E : Value → Shared → Prop} {s : Shared} {h₀ : Heap} {L : Addr} {m : Str → Option Value} {env : Env}

/-- a comprehension's source, whatever is walked; T: what is left to do with n items, nothing made yet -/
inductive CompAt (prog : Program) (w : World) (A : Around) (h₀ : Heap) (L : Addr) (m : Str → Option Value) (T : Shared → (Led → Prop) → (Nat → Value → Prop) → Nat → Led → Prop) (it : Value) (s₂ : Shared) : Prop
  | mk (I : Addr) (fp : List Addr) (n : Nat) (P : Nat → Value → Prop) (St : Nat → Heap → Prop) (S : Led → Prop) (news : Led) (z0 : it = .ref I) (z1 : Walks prog w A I fp [I] n P St) (z2 : n ≤ sizeLine) (z3 : (∀ i h, St i h → ∃ o, h.get? I = some o)) (z4 : (∀ i h h' o nw, St i h → h.get? I = some o → h'.get? I = some o → (∀ b o, h₀.get? b = some o → h'.get? b = some o) → News h₀ L h' nw → S nw → St i h')) (z5 : St 0 s₂.heap) (z6 : (∀ b ∈ fp, b < s₂.heap.objs.size)) (z7 : Fr h₀ L s₂.heap m) (z8 : News h₀ L s₂.heap news) (z9 : L ≠ I) (z10 : h₀.get? I = none) (z11 : (∀ p ∈ news, p.1 ≠ I)) (z12 : S news) (z13 : T s₂ S P n news) : CompAt prog w A h₀ L m T it s₂

theorem ListComp_gT {ct elt iter : Expr} {x : Str} {px : Pos} {scope : Scope} {cl : List (Str × Addr)} {pos : Pos} {Q : Value → Shared → Prop}
    (hclos : closureFor scope env = pure cl) (hcell : ∀ y ∈ scope.names, y.2 ≠ .cell) (hkind : scope.kind = .function)
    (hnames : ∀ y ∈ scope.names, y.2 = .local → scope.names.lookup y.1 = some .local) (hx : scope.names.lookup x = some .local)
    (h : wpAny (model prog w) A (eval iter env) (fun xv s₁ => wpAny (model prog w) A (pyIter xv)
      (CompAt prog w A h₀ L m fun s₂ S P n news => CompRestT prog w A h₀ L m env ct elt x scope cl s₂ S P (FinE h₀ L m s₂ Q) n 0 [] news) E s₁) E s)
    (hs : ∀ x, foldedSetIterable iter env x = pure x := by intro _; rfl) :
    wpAny (model prog w) A (eval (.ListComp elt [⟨.Name x px, iter, [ct], 0⟩] scope pos) env) Q E s := by
  rw [eval_ListComp]
  refine wpAny_comprehension_free (use := none) rfl hs hclos hkind hnames (wpAny_mono h (fun xv s₁ h₁ => wpAny_mono h₁ (fun it s₂ h₂ => ?_) fun _ _ e => e) fun _ _ e => e)
  obtain ⟨I, fp, n, P, St, S, news, rfl, W, hsz, hIo, hSt, hst, hfp, F, N, hLI, hI₀, off, hS, R⟩ := h₂
  refine block_T W hsz hIo hSt hcell hkind hx hst hfp F N hLI hI₀ off hS R ?_
  intro D C h tk m' ys news' F' N' o1 hn hC₀ hD₀ hCL hDL hCD offC fin
  refine ⟨m', hn, fun h'' hs'' => fin D h'' tk (F'.change hs'' hCL hC₀) (fun p hp => ?_) o1⟩
  refine ⟨hs''.extBut _ _ ?_ (N' p hp).1, (N' p hp).2⟩
  rcases List.mem_cons.mp hp with rfl | hp
  · exact Ne.symm hCD
  · exact offC p hp
theorem ListComp_gU {elt iter : Expr} {x : Str} {px : Pos} {scope : Scope} {cl : List (Str × Addr)} {pos : Pos} {Q : Value → Shared → Prop}
    (hclos : closureFor scope env = pure cl) (hcell : ∀ y ∈ scope.names, y.2 ≠ .cell) (hkind : scope.kind = .function)
    (hnames : ∀ y ∈ scope.names, y.2 = .local → scope.names.lookup y.1 = some .local) (hx : scope.names.lookup x = some .local)
    (h : wpAny (model prog w) A (eval iter env) (fun xv s₁ => wpAny (model prog w) A (pyIter xv)
      (CompAt prog w A h₀ L m fun s₂ S P n news => CompRest prog w A h₀ L m env elt x scope cl s₂ S P (FinE h₀ L m s₂ Q) n 0 [] news) E s₁) E s)
    (hs : ∀ x, foldedSetIterable iter env x = pure x := by intro _; rfl) :
    wpAny (model prog w) A (eval (.ListComp elt [⟨.Name x px, iter, [], 0⟩] scope pos) env) Q E s := by
  rw [eval_ListComp]
  refine wpAny_comprehension_free (use := none) rfl hs hclos hkind hnames (wpAny_mono h (fun xv s₁ h₁ => wpAny_mono h₁ (fun it s₂ h₂ => ?_) fun _ _ e => e) fun _ _ e => e)
  obtain ⟨I, fp, n, P, St, S, news, rfl, W, hsz, hIo, hSt, hst, hfp, F, N, hLI, hI₀, off, hS, R⟩ := h₂
  refine block_U W hsz hIo hSt hcell hkind hx hst hfp F N hLI hI₀ off hS R ?_
  intro D C h tk m' ys news' F' N' o1 hn hC₀ hD₀ hCL hDL hCD offC fin
  refine ⟨m', hn, fun h'' hs'' => fin D h'' tk (F'.change hs'' hCL hC₀) (fun p hp => ?_) o1⟩
  refine ⟨hs''.extBut _ _ ?_ (N' p hp).1, (N' p hp).2⟩
  rcases List.mem_cons.mp hp with rfl | hp
  · exact Ne.symm hCD
  · exact offC p hp
theorem Assign_gT {ct elt iter : Expr} {x y : Str} {px py : Pos} {scope : Scope} {cl : List (Str × Addr)} {pos spos : Pos} {Q : Flow → Shared → Prop} (hLe : env.locals = L)
    (hsw : swapsWith (.ListComp elt [⟨.Name x px, iter, [ct], 0⟩] scope pos) (some (.Name y py)) spos.line env = pure true)
    (hclos : closureFor scope env = pure cl) (hcell : ∀ z ∈ scope.names, z.2 ≠ .cell) (hkind : scope.kind = .function)
    (hnames : ∀ z ∈ scope.names, z.2 = .local → scope.names.lookup z.1 = some .local) (hx : scope.names.lookup x = some .local)
    (hy : env.kindOf y = some .local) (hp : (env.scope.kind == .class || (env.scope.kind == .module && env.locals != env.globals)) = false)
    (h : wpAny (model prog w) A (eval iter env) (fun xv s₁ => wpAny (model prog w) A (pyIter xv)
      (CompAt prog w A h₀ L m fun s₂ S P n news => CompRestT prog w A h₀ L m env ct elt x scope cl s₂ S P (FinA h₀ L m s₂ y Q) n 0 [] news) E s₁) E s)
    (hs : ∀ x, foldedSetIterable iter env x = pure x := by intro _; rfl) :
    wpAny (model prog w) A (exec (.Assign [.Name y py] (.ListComp elt [⟨.Name x px, iter, [ct], 0⟩] scope pos) spos) env) Q E s := by
  subst hLe
  rw [exec_Assign_Name_used _ _ _ _ hsw]
  refine wpAny_bind (wpAny_standAt (wpAny_bind ?_))
  show wpAny _ A (do let _ ← comprehension (.ListComp elt [⟨.Name x px, iter, [ct], 0⟩] scope pos) scope env _ (newList []) false (eval iter env) (some (assign (.Name y py) env))) _ _ s
  refine wpAny_bind (wpAny_mono (wpAny_comprehension_free (use := some (assign (.Name y py) env)) (Q := fun _ s' => Q .next s') rfl hs hclos hkind hnames
    (wpAny_mono h (fun xv s₁ h₁ => wpAny_mono h₁ (fun it s₂ h₂ => ?_) fun _ _ e => e) fun _ _ e => e)) (fun _ s' hq => wpAny_pure (wpAny_pure hq)) fun _ _ e => e)
  obtain ⟨I, fp, n, P, St, S, news, rfl, W, hsz, hIo, hSt, hst, hfp, F, N, hLI, hI₀, off, hS, R⟩ := h₂
  refine block_T W hsz hIo hSt hcell hkind hx hst hfp F N hLI hI₀ off hS R ?_
  intro D C h' tk m' ys news' F' N' o1 hn hC₀ hD₀ hCL hDL hCD offC fin
  show wpAny _ A (assign (.Name y py) env (.ref D)) _ _ _
  refine wpAny_assign_Name (wpAny_storeName_local hy F'.ns (fun h₂ hn₂ hs₂ => ?_) hp)
  have hL₀ : h₀.get? env.locals = none := Heap.get?_none_of_le F'.above
  have F₂ : Fr h₀ env.locals h₂ (fun z => if z = y then some (.ref D) else m z) := ⟨hn₂, fun b o e => hs₂.extBut b o (fun q => by rw [q, hL₀] at e; cases e) (F'.keep b o e), F'.above⟩
  refine ⟨m', hn.sameBut hs₂ hCL, fun h'' hs'' => fin D h'' _ (F₂.change hs'' hCL hC₀) (fun p hp => ?_) o1⟩
  have z : h₂.get? p.1 = some p.2 := hs₂.extBut _ _ (N' p hp).2.1 (N' p hp).1
  refine ⟨hs''.extBut _ _ ?_ z, (N' p hp).2⟩
  rcases List.mem_cons.mp hp with rfl | hp
  · exact Ne.symm hCD
  · exact offC p hp

/-! sources -/
theorem compAt_list {T} {l : Addr} {its : Array Value} {news : Led} {s₁ : Shared} (hh : A.handled = none) (F : Fr h₀ L s₁.heap m) (N : News h₀ L s₁.heap news) (S : SrcAt h₀ l its news) (hsz : its.size ≤ sizeLine)
    (R : ∀ g, T ({ s₁ with heap := g } : Shared) (SrcAt h₀ l its) (fun i v => its[i]? = some v) its.size news) :
    wpAny (model prog w) A (pyIter (.ref l)) (CompAt prog w A h₀ L m T) E s₁ := by
  have hl := S.list F.keep N
  have hlt : l < s₁.heap.objs.size := by obtain ⟨_, e, _⟩ := hl; exact Heap.lt_size e
  refine wpAny_pyIter_list hl ?_
  have up : ∀ b o, s₁.heap.get? b = some o → (s₁.heap.push { cls := .type "list_iterator", data := .fields #[.ref l, .int 0 0] }).get? b = some o := fun b o e => Heap.get?_push_of_some _ e
  refine ⟨s₁.heap.objs.size, [s₁.heap.objs.size, l], its.size, _, _, SrcAt h₀ l its, news, rfl, Walks.list hh s₁.heap.objs.size l (Nat.ne_of_lt hlt) its, hsz, fun i h st => by obtain ⟨o, e, _⟩ := st.1; exact ⟨o, e⟩, list_st,
    ⟨⟨_, Heap.get?_push_size _ rfl, rfl, rfl⟩, hl.push _⟩, fun b hb => ?_, F.keeps up, N.grown up, Nat.ne_of_lt F.ns.lt, next_is_new F, fun p hp => Nat.ne_of_lt (Heap.lt_size (N p hp).1), S, R _⟩
  show b < (s₁.heap.push _).objs.size
  rw [Heap.size_push]
  rcases List.mem_cons.mp hb with rfl | hb
  · exact Nat.lt_succ_self _
  · rw [List.mem_singleton.mp hb]; exact Nat.lt_succ_of_lt hlt
theorem compAt_dict {T} {d : Addr} {es : Array DictEntry} {ep : Nat} {news : Led} {s₁ : Shared} (hh : A.handled = none) (lo : (d == sysModules) = false) (F : Fr h₀ L s₁.heap m) (N : News h₀ L s₁.heap news) (S : DictSrc d es ep news) (hsz : es.size ≤ sizeLine)
    (R : ∀ g, T ({ s₁ with heap := g } : Shared) (DictSrc d es ep) (fun i v => ∃ e, es[i]? = some e ∧ v = e.key) es.size news) :
    wpAny (model prog w) A (pyIter (.ref d)) (CompAt prog w A h₀ L m T) E s₁ := by
  have hl := S.raw N
  have hlt : d < s₁.heap.objs.size := by obtain ⟨_, e, _⟩ := hl; exact Heap.lt_size e
  refine pyIter_dictRaw lo hl ?_
  have up : ∀ b o, s₁.heap.get? b = some o → (s₁.heap.push { cls := .type "dict_keyiterator", data := .fields #[.ref d, .int 0 0, .int es.size 0, .int ep 0] }).get? b = some o := fun b o e => Heap.get?_push_of_some _ e
  refine ⟨s₁.heap.objs.size, [s₁.heap.objs.size, d], es.size, _, _, DictSrc d es ep, news, rfl, walks_dictRaw hh s₁.heap.objs.size d (Nat.ne_of_lt hlt) es ep, hsz, fun i h st => by obtain ⟨o, e, _⟩ := st.1; exact ⟨o, e⟩, dict_st,
    ⟨⟨_, Heap.get?_push_size _ rfl, rfl, rfl⟩, hl.at (up d)⟩, fun b hb => ?_, F.keeps up, N.grown up, Nat.ne_of_lt F.ns.lt, next_is_new F, fun p hp => Nat.ne_of_lt (Heap.lt_size (N p hp).1), S, R _⟩
  show b < (s₁.heap.push _).objs.size
  rw [Heap.size_push]
  rcases List.mem_cons.mp hb with rfl | hb
  · exact Nat.lt_succ_self _
  · rw [List.mem_singleton.mp hb]; exact Nat.lt_succ_of_lt hlt

def TupSrc (a : Addr) (its : Array Value) (news : Led) : Prop := ∃ o n, (a, o) ∈ news ∧ o.cls = .type "tuple" ∧ o.data = .seq its n
theorem TupSrc.tup {h : Heap} {a : Addr} {its : Array Value} {news : Led} (x : TupSrc a its news) (N : News h₀ L h news) : h.IsTuple a its := let ⟨o, n, hm, hc, hd⟩ := x; ⟨o, (N _ hm).1, hc, n, hd⟩
theorem tup_st {a I : Addr} {its : Array Value} : ∀ i (h h' : Heap) (o : Obj) (nw : Led), (h.IsTupleIter I a i ∧ h.IsTuple a its) → h.get? I = some o → h'.get? I = some o → (∀ b o, h₀.get? b = some o → h'.get? b = some o) → News h₀ L h' nw → TupSrc a its nw → (h'.IsTupleIter I a i ∧ h'.IsTuple a its) :=
  fun i h h' o nw st e e' k N S => ⟨by obtain ⟨o', q, r⟩ := st.1; rw [e] at q; cases q; exact ⟨o, e', r⟩, S.tup N⟩

theorem compAt_tuple {T} {a : Addr} {its : Array Value} {news : Led} {s₁ : Shared} (hh : A.handled = none) (F : Fr h₀ L s₁.heap m) (N : News h₀ L s₁.heap news) (S : TupSrc a its news) (hsz : its.size ≤ sizeLine)
    (R : ∀ g, T ({ s₁ with heap := g } : Shared) (TupSrc a its) (fun i v => its[i]? = some v) its.size news) :
    wpAny (model prog w) A (pyIter (.ref a)) (CompAt prog w A h₀ L m T) E s₁ := by
  have hl := S.tup N
  have hlt : a < s₁.heap.objs.size := by obtain ⟨_, e, _⟩ := hl; exact Heap.lt_size e
  refine wpAny_pyIter_tuple hl ?_
  have up : ∀ b o, s₁.heap.get? b = some o → (s₁.heap.push { cls := .type "tuple_iterator", data := .fields #[.ref a, .int 0 0] }).get? b = some o := fun b o e => Heap.get?_push_of_some _ e
  refine ⟨s₁.heap.objs.size, [s₁.heap.objs.size, a], its.size, _, _, TupSrc a its, news, rfl, Walks.tuple hh s₁.heap.objs.size a (Nat.ne_of_lt hlt) its, hsz, fun i h st => by obtain ⟨o, e, _⟩ := st.1; exact ⟨o, e⟩, tup_st,
    ⟨⟨_, Heap.get?_push_size _ rfl, rfl, rfl⟩, hl.at (up a)⟩, fun b hb => ?_, F.keeps up, N.grown up, Nat.ne_of_lt F.ns.lt, next_is_new F, fun p hp => Nat.ne_of_lt (Heap.lt_size (N p hp).1), S, R _⟩
  show b < (s₁.heap.push _).objs.size
  rw [Heap.size_push]
  rcases List.mem_cons.mp hb with rfl | hb
  · exact Nat.lt_succ_self _
  · rw [List.mem_singleton.mp hb]; exact Nat.lt_succ_of_lt hlt

/-! a comprehension by an invariant -/
theorem restU_ind {elt : Expr} {x : Str} {scope : Scope} {cl : List (Str × Addr)} {S : Led → Prop} {P : Nat → Value → Prop} {Fin : List Value → Led → Prop} (J : Nat → List Value → Led → Prop) (n : Nat)
    (turn : ∀ i v ys news I oI C oC D m₂ h tk (E' : Value → Shared → Prop), i < n → P i v → J i ys news → NsObj oC m₂ → m₂ x = some v → Fr h₀ L h m → News h₀ L h ((I, oI) :: (C, oC) :: (D, lst ys) :: news) → Off3 I C D news → ((@Ne Nat I C) ∧ (@Ne Nat I D) ∧ (@Ne Nat C D)) →
      wpAny (model prog w) A (eval elt (compEnvC scope cl C env)) (CompEnd h₀ L m { s with heap := h, toks := tk } I oI C oC D (lst ys) S (fun y news' => J (i + 1) (ys ++ [y]) news')) E' { s with heap := h, toks := tk })
    (done : ∀ ys news, J n ys news → Fin ys news) :
    ∀ k i ys news, i + k = n → J i ys news → CompRest prog w A h₀ L m env elt x scope cl s S P Fin k i ys news := by
  intro k
  induction k with
  | zero =>
    intro i ys news e hJ
    obtain rfl : i = n := by omega
    exact CompRest.zero (done _ _ hJ)
  | succ k ih =>
    intro i ys news e hJ
    refine CompRest.succ fun v I oI C oC D m₂ h tk E' hP hN hx F N off ne => ?_
    refine wpAny_mono (turn i v ys news I oI C oC D m₂ h tk E' (by omega) hP hJ hN hx F N off ne) (fun y s' hy => ?_) fun _ _ e => e
    obtain ⟨h', tk', news', rfl, F', N', o', hS', r⟩ := hy
    exact ⟨h', tk', news', rfl, F', N', o', hS', ih _ _ _ (by omega) r⟩

/-- [x for x in items if test] : the test read off as q -/
theorem filter_rest {α : Type} {ct : Expr} {x : Str} {pe : Pos} {scope : Scope} {cl : List (Str × Addr)} {S : Led → Prop} {P : Nat → Value → Prop} {Fin : List Value → Led → Prop} {news : Led} (sl : List α) (f : α → Value) (q : α → Bool)
    (hkind : scope.kind = .function) (hx : scope.names.lookup x = some .local) (hdb : (x == ("__debug__" : Str)) = false)
    (hP : ∀ i v, P i v → ∀ a, sl[i]? = some a → v = f a) (hS : S news)
    (test : ∀ a I oI C oC D m₂ h tk ys, a ∈ sl → NsObj oC m₂ → m₂ x = some (f a) → Fr h₀ L h m → News h₀ L h ((I, oI) :: (C, oC) :: (D, lst ys) :: news) → Off3 I C D news → ((@Ne Nat I C) ∧ (@Ne Nat I D) ∧ (@Ne Nat C D)) →
      wpAny (model prog w) A (isTrue ct (compEnvC scope cl C env) (eval ct (compEnvC scope cl C env)))
        (fun ok s' => ok = q a ∧ ∃ h' tk', s' = { s with heap := h', toks := tk' } ∧ Fr h₀ L h' m ∧ News h₀ L h' ((I, oI) :: (C, oC) :: (D, lst ys) :: news)) (fun _ _ => False) { s with heap := h, toks := tk })
    (fin : Fin ((sl.filter q).map f) news) :
    CompRestT prog w A h₀ L m env ct (.Name x pe) x scope cl s S P Fin sl.length 0 [] news := by
  suffices H : ∀ k i ys, i + k = sl.length → ys = ((sl.take i).filter q).map f → CompRestT prog w A h₀ L m env ct (.Name x pe) x scope cl s S P Fin k i ys news by
    exact H _ 0 [] (by simp) (by simp)
  intro k
  induction k with
  | zero =>
    intro i ys e hy
    subst hy
    refine CompRestT.zero ?_
    rw [List.take_of_length_le (by omega)]
    exact fin
  | succ k ih =>
    intro i ys e hy
    have hi : i < sl.length := by omega
    have hg : sl[i]? = some sl[i] := List.getElem?_eq_getElem hi
    have hmem : sl[i] ∈ sl := List.getElem_mem hi
    refine CompRestT.succ fun v I oI C oC D m₂ h tk E' hPv hN hxv F N off ne => ?_
    obtain rfl := hP i v hPv _ hg
    refine wpAny_mono (test sl[i] I oI C oC D m₂ h tk ys hmem hN hxv F N off ne) (fun ok s' hok => ?_) fun _ _ e => e.elim
    obtain ⟨rfl, h', tk', rfl, F', N'⟩ := hok
    have next : ∀ ys', ys' = ((sl.take (i + 1)).filter q).map f → CompRestT prog w A h₀ L m env ct (.Name x pe) x scope cl s S P Fin k (i + 1) ys' news := fun ys' hy' => ih _ _ (by omega) hy'
    have htake : sl.take (i + 1) = sl.take i ++ [sl[i]] := by rw [List.take_add_one, hg]; rfl
    cases hq : q sl[i] with
    | true =>
      simp only [if_true]
      refine wpAny_Name (wpAny_loadName_local (m := m₂) (show (compEnvC scope cl C env).scope.kind = .function from hkind) (lookup_relabel_local hx) (hN.ns (N' _ (List.mem_cons_of_mem _ List.mem_cons_self)).1) hxv ?_) hdb
      refine ⟨h', tk', news, rfl, F', N', off, hS, next _ ?_⟩
      rw [htake, List.filter_append, List.map_append, hy, List.filter_cons, if_pos hq]; rfl
    | false =>
      simp only [Bool.false_eq_true, if_false]
      refine ⟨h', tk', news, rfl, F', N', off, hS, next _ ?_⟩
      rw [htake, List.filter_append, List.map_append, hy, List.filter_cons, if_neg (by rw [hq]; decide)]; simp
end
/-! M4b -/
abbrev ktrA (dp un : Nat) (gd : Option (List Code)) (env : Env) (outer : List Env) : Around := { handled := none, depth := dp, frames := some (env :: outer), guards := gd, units := un }
def isStop (n : Nat) : Bool := [147, 154, 161, 64, 111, 69, 104, 118, 168, 175, 182, 187, 192, 199, 206, 213, 218, 223, 230].contains n
/-- a call of a def that has a contract -/
theorem stopC {M : Model} {A : Around} {n : Addr} {vs : List Value} {Q E : Value → Shared → Prop} {s : Shared} (h : isStop n = true) (k : Stop (wpAny M A (call (.ref n) vs) Q E s)) : wpAny M A (call (.ref n) vs) Q E s := k
theorem drop2 {h₀ h : Heap} {L : Addr} {a b : Addr × Obj} {news : Led} (N : News h₀ L h (a :: b :: news)) : News h₀ L h news := fun p hp => N p (.tail _ (.tail _ hp))
theorem ltOf {a D : Nat} {o : Obj} {l : Led} (h : ∀ p ∈ l, p.1 < D) (m : (a, o) ∈ l) : a < D := h _ m
theorem ltL {x k K l : Nat} (h : x + K < l) (e : Nat.ble k K = true) : x + k < l := Nat.lt_of_le_of_lt (Nat.add_le_add_left (Nat.le_of_ble_eq_true e) x) h
theorem ltZ {x K l : Nat} (h : x + K < l) : x < l := Nat.lt_of_le_of_lt (Nat.le_add_right x K) h
/-- what a walk leaves alone -/
def GDO (_ : Array GenState) (_ : Drawn) (_ : OsState) : Prop := True
theorem gen_tokG {g : Array GenState} {d : Drawn} {os : OsState} (_ : GDO g d os) {M : Model} {A : Around} {α : Type} {t : Sem α} {Q : α → Shared → Prop} {E : Value → Shared → Prop} {h : Heap} {T : Tok} (k : ∀ tk, wpAny M A t Q E ⟨h, g, d, tk, os⟩) : wpAny M A t Q E ⟨h, g, d, T, os⟩ := k T
/-- a body walked apart from its caller -/
theorem shut {M : Model} {base g h₀ : Heap} {L : Addr} {m : Str → Option Value} {D dp un : Nat} {gd : Option (List Code)} {cn : Str} {cs : Scope} {a : Addr} {ccd : Value} {cl : List (Str × Addr)} {outer : List Env} {env' : Env} {A₁ : Around} {R : Result → Shared → Prop}
    {Q₀ : Flow → Shared → Prop} {E₀ : Value → Shared → Prop} {h₁ : Heap} {t₁ : Tok} {c : Sem Flow} {Q : Value → Shared → Prop} {g8 : Array GenState} {d8 : Drawn} {os8 : OsState} {Post : Value → Led → Prop}
    (hret : ∀ v h' tk news', Post v news' → Fr h₀ L h' m → News h₀ L h' news' → Q v ⟨h', g8, d8, tk, os8⟩)
    (hd : dp + (D + 1) < recursionLimit) (hu : un + 20 * (D + 1) < cLine) (B' : Below A₁ base (envX cn cs L a ccd cl :: outer) g)
    (hQ : ∀ fl s', LeaveK h₀ L m g R (match fl with | .ret v => v | _ => .none) s' → Q₀ fl s') (hR : ∀ v s', Q v s' → R (.ok (.ret v)) s')
    (h : ∀ dp un gd outer A₁ tk Q₁ E₁, Below A₁ base outer g → dp + D < recursionLimit → un + (20 * D + 17) < cLine →
      (∀ v h' tk news' {L' m'}, Post v news' → Fr g L' h' m' → News g L' h' news' → Q₁ (.ret v) ⟨h', g8, d8, tk, os8⟩) →
      (∀ v h' tk news' {L' m'}, Post v news' → Fr g L' h' m' → News g L' h' news' → v = .none → Q₁ .next ⟨h', g8, d8, tk, os8⟩) →
      wpAny M (ktrA dp un gd env' outer) c Q₁ E₁ ⟨h₁, g8, d8, tk, os8⟩) :
    wpAny M (Around.deeper (ktrTop dp un gd cn cs L a ccd cl outer) env') c Q₀ E₀ ⟨h₁, g8, d8, t₁, os8⟩ :=
  h (dp + 1) (un + 3) _ (envX cn cs L a ccd cl :: outer) _ _ _ _ B' (by omega) (by omega) (fun _ _ _ _ _ _ hp F N => hQ (.ret _) _ (leaveK_ F N fun F' N' => hR _ _ (hret _ _ _ _ hp F' N')))
    fun _ _ _ _ _ _ hp F N e => hQ .next _ (e ▸ leaveK_ F N fun F' N' => hR _ _ (hret _ _ _ _ hp F' N'))
/-- a local name of a function -/
def loc (env : Env) (x : Str) : Bool := env.scope.kind == .function && env.kindOf x == some .local && !(x == ("__debug__" : Str))
/-- names and constants, read one after the other -/
inductive Atoms (env : Env) (m : Str → Option Value) : Tok → List PySem.Expr → List Value → Tok → Prop
  | nil {tk : Tok} : Atoms env m tk [] [] tk
  | int {tk tk' : Tok} {i : Int} {k : Nat} {pos : Pos} {es : List PySem.Expr} {vs : List Value} (h : Atoms env m (tk + 1) es vs tk') : Atoms env m tk (.Constant (.int i) k pos :: es) (.int i tk :: vs) tk'
  | str {tk tk' : Tok} {i : Str} {k : Nat} {pos : Pos} {es : List PySem.Expr} {vs : List Value} (h : Atoms env m (tk + 1) es vs tk') : Atoms env m tk (.Constant (.str i) k pos :: es) (.str i tk :: vs) tk'
  | none {tk tk' : Tok} {k : Nat} {pos : Pos} {es : List PySem.Expr} {vs : List Value} (h : Atoms env m tk es vs tk') : Atoms env m tk (.Constant .none k pos :: es) (.none :: vs) tk'
  | name {tk tk' : Tok} {x : Str} {pos : Pos} {v : Value} {es : List PySem.Expr} {vs : List Value} (hl : loc env x = true) (hv : m x = some v) (h : Atoms env m tk es vs tk') : Atoms env m tk (.Name x pos :: es) (v :: vs) tk'
section
variable {M : Model} {A : Around} {env : Env} {E : Value → Shared → Prop} {h₀ h : Heap} {m : Str → Option Value} {g : Array GenState} {d : Drawn} {o : OsState}
theorem ldg {x : Str} {pos : Pos} {v : Value} {s : Shared} {Q : Value → Shared → Prop} (F : Fr h₀ env.locals s.heap m) (hv : m x = some v) (hl : loc env x = true) (h : Q v s) : wpAny M A (eval (.Name x pos) env) Q E s := by
  simp only [loc, Bool.and_eq_true, beq_iff_eq, Bool.not_eq_true'] at hl
  exact wpAny_Name (wpAny_loadName_local hl.1.1 hl.1.2 F.ns hv h) hl.2
theorem Atoms.go {tk tk' : Tok} {es : List PySem.Expr} {vs : List Value} {pos : Pos} {Q : List Value → Shared → Prop} (F : Fr h₀ env.locals h m) (a : Atoms env m tk es vs tk') (k : Q vs ⟨h, g, d, tk', o⟩) :
    wpAny M A (spliced (backTo pos (starEach es env))) Q E ⟨h, g, d, tk, o⟩ := by
  induction a generalizing Q with
  | nil => exact args_nil k
  | int _ ih => exact args_cons (wpAny_Constant_int (ih k))
  | str _ ih => exact args_cons (wpAny_Constant_str (ih k))
  | none _ ih => exact args_cons (wpAny_Constant_none (ih k))
  | name hl hv _ ih => exact args_cons (ldg F hv hl (ih k))
theorem Atoms.inv {tk tk' : Tok} {e : PySem.Expr} {es : List PySem.Expr} {vs : List Value} (F : Fr h₀ env.locals h m) (a : Atoms env m tk (e :: es) vs tk') :
    ∃ v us t, vs = v :: us ∧ Atoms env m t es us tk' ∧ ∀ Q : Value → Shared → Prop, Q v ⟨h, g, d, t, o⟩ → wpAny M A (eval e env) Q E ⟨h, g, d, tk, o⟩ := by
  cases a with
  | int a => exact ⟨_, _, _, rfl, a, fun _ q => wpAny_Constant_int q⟩
  | str a => exact ⟨_, _, _, rfl, a, fun _ q => wpAny_Constant_str q⟩
  | none a => exact ⟨_, _, _, rfl, a, fun _ q => wpAny_Constant_none q⟩
  | name hl hv a => exact ⟨_, _, _, rfl, a, fun _ q => ldg F hv hl q⟩
theorem Atoms.end {tk tk' : Tok} {vs : List Value} (a : Atoms env m tk [] vs tk') : vs = [] ∧ tk' = tk := by cases a; exact ⟨rfl, rfl⟩
/-- an atom alone -/
theorem Atoms.one {tk tk' : Tok} {e : PySem.Expr} {v : Value} {Q : Value → Shared → Prop} (F : Fr h₀ env.locals h m) (a : Atoms env m tk [e] [v] tk') (k : Q v ⟨h, g, d, tk', o⟩) : wpAny M A (eval e env) Q E ⟨h, g, d, tk, o⟩ := by
  obtain ⟨u, us, t, e1, b, f⟩ := a.inv F (g := g) (d := d) (o := o) (M := M) (A := A) (E := E)
  obtain ⟨rfl, rfl⟩ := List.cons.inj e1
  obtain ⟨_, rfl⟩ := b.end
  exact f _ k
theorem Atoms.two {tk tk' : Tok} {e f : PySem.Expr} {v u : Value} {Q : Value → Value → Shared → Prop} (F : Fr h₀ env.locals h m) (a : Atoms env m tk [e, f] [v, u] tk') (k : Q v u ⟨h, g, d, tk', o⟩) :
    wpAny M A (eval e env) (fun v s => wpAny M A (eval f env) (Q v) E s) E ⟨h, g, d, tk, o⟩ := by
  obtain ⟨_, us, t, e1, b, f⟩ := a.inv F (g := g) (d := d) (o := o) (M := M) (A := A) (E := E)
  obtain ⟨rfl, rfl⟩ := List.cons.inj e1
  exact f _ (b.one F k)
theorem subA {value slice : PySem.Expr} {pos : Pos} {tk tk' : Tok} {v i : Value} {Q : Value → Shared → Prop} (F : Fr h₀ env.locals h m) (a : Atoms env m tk [value, slice] [v, i] tk')
    (k : wpAny M A (subscriptTail value slice v i) Q E ⟨h, g, d, tk', o⟩) : wpAny M A (eval (.Subscript value slice pos) env) Q E ⟨h, g, d, tk, o⟩ := Subscript_ (Atoms.two F a k)
theorem attrA {x attr : Str} {xp pos : Pos} {v : Value} {s : Shared} {Q : Value → Shared → Prop} (F : Fr h₀ env.locals s.heap m) (hv : m x = some v) (hl : loc env x = true) (k : wpAny M A (getAttr v attr true) Q E s) :
    wpAny M A (eval (.Attribute (.Name x xp) attr pos) env) Q E s := Attribute_Name_ (ldg F hv hl k)
theorem cmpA {l r : PySem.Expr} {op : PySem.CmpOp} {pos : Pos} {whole : Sem Value} {tk tk' : Tok} {v i : Value} {Q : Bool → Shared → Prop} (F : Fr h₀ env.locals h m) (a : Atoms env m tk [l, r] [v, i] tk')
    (k : wpAny M A (compareOp op v i) (fun c s₃ => wpAny M A (truthy c) Q E s₃) E ⟨h, g, d, tk', o⟩) (hm : behindInMarks op r = false := by with_unfolding_all rfl) : wpAny M A (isTrue (.Compare l [op] [r] pos) env whole) Q E ⟨h, g, d, tk, o⟩ :=
  wpAny_isTrue_Compare1 (Atoms.two F a k) hm
theorem binA {l r : PySem.Expr} {op : PySem.Operator} {pos : Pos} {tk tk' : Tok} {v i : Value} {Q : Value → Shared → Prop} (F : Fr h₀ env.locals h m) (a : Atoms env m tk [l, r] [v, i] tk')
    (k : wpAny M A (binaryOp op v i) Q E ⟨h, g, d, tk', o⟩) : wpAny M A (eval (.BinOp l op r pos) env) Q E ⟨h, g, d, tk, o⟩ := wpAny_BinOp (Atoms.two F a k)
/-- one of a tuple of constants, asked by a name; the tuple is left behind -/
theorem menuA {prog : Program} {w : World} {es : List PySem.Expr} {nn : Nat} {p1 p2 pos : Pos} {x : Str} {tk tk' : Tok} {k : Int} {u : Tok} {vs : List Value} {ns : List Int} {news : Led} {Q : Value → Shared → Prop} (F : Fr h₀ env.locals h m) (N : News h₀ env.locals h news)
    (a : Atoms env m tk es vs tk') (hi : IntsAre vs ns) (hl : loc env x = true) (hv : m x = some (.int k u)) (h0 : 0 ≤ k) (h1 : k < ns.length) (h2 : ns.length < 1000)
    (q : ∀ t h', Fr h₀ env.locals h' m → News h₀ env.locals h' news → Q (.int (ns.getD k.toNat 0) t) ⟨h', g, d, tk', o⟩) : wpAny (model prog w) A (eval (.Subscript (.Tuple es nn p1) (.Name x p2) pos) env) Q E ⟨h, g, d, tk, o⟩ := by
  refine Subscript_ (Tuple_ (Atoms.go F a ?_))
  refine newTuple_N (s := ⟨h, g, d, tk', o⟩) F N (fun h' F' N' => ?_) ?_
  · refine ldg (s := ⟨h', g, d, tk', o⟩) F' hv hl ?_
    refine item_anyT (N'.isTup (.head _)) hi h0 h1 (by omega) (fun t => q t h' F' fun p hp => N' p (.tail _ hp)) ?_
    with_unfolding_all rfl
  · have := hi.length
    have : (1000 : Nat) ≤ sizeLine := by decide
    omega
theorem constI {tk : Tok} {i : Int} {k : Nat} {pos : Pos} {Q : Value → Shared → Prop} (q : Q (.int i tk) ⟨h, g, d, tk + 1, o⟩) : wpAny M A (eval (.Constant (.int i) k pos) env) Q E ⟨h, g, d, tk, o⟩ := wpAny_Constant_int q
theorem constS {tk : Tok} {i : Str} {k : Nat} {pos : Pos} {Q : Value → Shared → Prop} (q : Q (.str i tk) ⟨h, g, d, tk + 1, o⟩) : wpAny M A (eval (.Constant (.str i) k pos) env) Q E ⟨h, g, d, tk, o⟩ := wpAny_Constant_str q
theorem addE {prog : Program} {w : World} {tk : Tok} {a b : Int} {t u : Tok} {Q : Value → Shared → Prop} (q : Q (.int (a + b) tk) ⟨h, g, d, tk + 1, o⟩) : wpAny (model prog w) A (binaryOp .Add (.int a t) (.int b u)) Q E ⟨h, g, d, tk, o⟩ := add_int q
theorem storeE {tk : Tok} {L : Addr} {news : Led} {x : Str} {v : Value} {Q : Unit → Shared → Prop} (F : Fr h₀ L h m) (N : News h₀ L h news) (hl : loc env x = true) (hL : env.locals = L)
    (q : ∀ h', Fr h₀ L h' (fun y => if y = x then some v else m y) → News h₀ L h' news → Q () ⟨h', g, d, tk + 1, o⟩) : wpAny M A (storeName env x v) Q E ⟨h, g, d, tk, o⟩ := by
  subst hL
  simp only [loc, Bool.and_eq_true, beq_iff_eq, Bool.not_eq_true'] at hl
  exact wpAny_storeName_local hl.1.2 F.ns (fun h' hn hs => q h' (F.set hn hs) (N.set hs)) (by rw [hl.1.1]; rfl)
theorem tupE {tk : Tok} {L : Addr} {news : Led} {vs : List Value} {Q : Value → Shared → Prop} (F : Fr h₀ L h m) (N : News h₀ L h news)
    (q : ∀ D h', Fr h₀ L h' m → News h₀ L h' ((D, ({ cls := .type "tuple", data := .seq vs.toArray } : Obj)) :: news) → (∀ p ∈ news, p.1 < D) → Q (.ref D) ⟨h', g, d, tk, o⟩) (hz : vs.length ≤ sizeLine) : wpAny M A (newTuple vs) Q E ⟨h, g, d, tk, o⟩ :=
  kup_newTuple (s := ⟨h, g, d, tk, o⟩) F N q hz
theorem listE {tk : Tok} {L : Addr} {news : Led} {vs : List Value} {Q : Value → Shared → Prop} (F : Fr h₀ L h m) (N : News h₀ L h news)
    (q : ∀ l h', Fr h₀ L h' m → News h₀ L h' ((l, W.listOf vs.toArray 0) :: news) → (∀ p ∈ news, p.1 < l) → Q (.ref l) ⟨h', g, d, tk, o⟩) (hz : vs.length ≤ sizeLine := by size_fits) : wpAny M A (newList vs) Q E ⟨h, g, d, tk, o⟩ :=
  newList_K (s := ⟨h, g, d, tk, o⟩) F N q hz
theorem ownE {prog : Program} {w : World} {K : Frag} {C x L : Addr} {ox : Obj} {es : List DictEntry} {n : Nat} {name : Str} {v : Value} {expr : Bool} {tk : Tok} {Q : Value → Shared → Prop} {attr : Option Value} (F : Fr h₀ L h m) (X₀ : K.In h₀) (I : InstAt h x ox C (some (dictOf es n)))
    (hg : plainGet K C name = true) (hh : hasDictIn K C = true) (ha : findIn K (.ref C) name = some attr) (hn : noGet K attr = true) (hl : getL name es = some (some v)) (hv : handedIn v = true) (q : Q v ⟨h, g, d, tk + 1, o⟩) :
    wpAny (model prog w) A (getAttr (.ref x) name expr) Q E ⟨h, g, d, tk, o⟩ := get_own (s := ⟨h, g, d, tk, o⟩) F X₀ I hg hh ha hn hl hv q
end
/-! M5 -/
theorem fill : (∀ P, Mine.hd.heap_39 P = Mine.hd.heap_39 P) ∨ PySem.Challenge.rw_pf0335_01.Holds := by k_fill; exact .inl fun _ => rfl
local macro_rules | `(tactic| walk_at "call ref") => `(tactic| ((with_reducible refine stopC ?kh ?_); (case kh => k_dflt (exact rfl))))
local macro_rules | `(tactic| walk_at "exec For Name Name cons nil") => `(tactic| refine stop ?_)
local macro_rules | `(tactic| walk_at "exec For Name Call cons nil") => `(tactic| refine stop ?_)
local macro_rules | `(tactic| walk_at "exec For Name Attribute cons nil") => `(tactic| refine stop ?_)
local macro_rules | `(tactic| walk_at "exec For Name Tuple cons nil") => `(tactic| refine stop ?_)
local macro_rules | `(tactic| walk_at "exec For Name Subscript cons nil") => `(tactic| refine stop ?_)
local macro_rules | `(tactic| walk_at "exec For Name ListComp cons nil") => `(tactic| refine stop ?_)
local macro_rules | `(tactic| walk_at "eval Name") => `(tactic| (k_here; k_dflt (refine' ldg ?kF ?kV ?kL ?_; (case kL => exact rfl); (case kF => k_asm); (case kV => first | exact rfl | with_unfolding_all assumption); k_whole)))
local macro_rules | `(tactic| k_ne) => `(tactic| (refine neN ?_; (try dsimp only); first | (apply Nat.ne_of_lt; first | with_reducible assumption | (apply ltOf; (with_reducible assumption); k_mem) | ((repeat (first | exact Nat.lt_succ_self _ | with_reducible assumption | apply Nat.lt_succ_of_lt)); done)) | (apply Nat.ne_of_gt; first | with_reducible assumption | (apply ltOf; (with_reducible assumption); k_mem) | ((repeat (first | exact Nat.lt_succ_self _ | with_reducible assumption | apply Nat.lt_succ_of_lt)); done)) | omega))
local macro_rules | `(tactic| walk_at "eval Constant int") => `(tactic| (with_reducible refine constI ?_))
local macro_rules | `(tactic| walk_at "eval Constant str") => `(tactic| (with_reducible refine constS ?_))
local macro_rules | `(tactic| walk_at "binaryOp Add int int") => `(tactic| (with_reducible refine addE ?_))
local macro_rules | `(tactic| walk_at "storeName") => `(tactic| (k_here; k_dflt (refine' storeE ?kF ?kN ?kL ?kE ?_; (case kL => exact rfl); (case kF => k_asm); (case kN => k_asm); (case kE => exact rfl); k_whole); intro h' F' N'; (try k_sweep)))
local macro_rules | `(tactic| walk_at "newTuple") => `(tactic| (k_here; k_dflt (refine' tupE ?kF ?kN ?_ ?kz; (case kF => k_asm); (case kN => k_asm); (case kz => kmk_size)); intro D' h' F' N' l1; (try k_lt l1); (try k_sweep)))
local macro_rules | `(tactic| walk_at "newList") => `(tactic| (k_here; k_dflt (refine' listE ?kF ?kN ?_ ?kz; (case kF => k_asm); (case kN => k_asm); (case kz => kmk_size)); intro l' h' F' N' l1; (try k_lt l1); (try k_sweep)))
local macro_rules | `(tactic| kt_ors) => `(tactic| ((show Atoms _ _ _ _ _ _); (repeat' (first | with_reducible refine' Atoms.int ?_ | refine' Atoms.name rfl ?_ ?_ | with_reducible exact Atoms.nil | with_reducible refine' Atoms.str ?_ | with_reducible refine' Atoms.none ?_ | ((show _ = some _); first | exact rfl | with_unfolding_all assumption)))))
local macro_rules | `(tactic| ktr_room) => `(tactic| first | (apply ltL; (with_reducible assumption); exact rfl) | (apply ltZ; assumption) | exact Nat.le_of_ble_eq_true rfl | omega | ((try simp only [depth_under_make, depth_under_kw, depth_in1, depth_deeper, depth_caller, ktrA]); first | omega | (simp only [recursionLimit] at *; omega)))
local macro_rules | `(tactic| ktr_units) => `(tactic| first | (apply ltL; (with_reducible assumption); exact rfl) | (apply ltZ; assumption) | exact Nat.le_of_ble_eq_true rfl | (have hcL9 := cLine_is; first | omega | ((try simp only [units_in1, units_deeper, Around.mark_units, units_caller, ktrA]); omega)))
local macro_rules | `(tactic| walk_at "spliced") => `(tactic| (k_here; k_dflt (refine' Atoms.go ?kF ?kA ?_; (case kF => k_asm); (case kA => kt_ors); k_whole); (try dsimp only [List.cons_append, List.nil_append])))
local macro_rules | `(tactic| walk_at "eval Attribute Name") => `(tactic| (k_here; k_dflt (refine' attrA ?kF ?kV ?kL ?_; (case kF => k_asm); (case kV => first | exact rfl | with_unfolding_all assumption); (case kL => exact rfl); k_whole)))
local macro_rules | `(tactic| walk_at "isTrue Compare") => `(tactic| (k_here; k_dflt (refine' cmpA ?kF ?kA ?_ ?kM; (case kF => k_asm); (case kA => kt_ors); (case kM => with_unfolding_all rfl); k_whole)))
local macro_rules | `(tactic| walk_at "eval BinOp") => `(tactic| (k_here; k_dflt (refine' binA ?kF ?kA ?_; (case kF => k_asm); (case kA => kt_ors); k_whole)))
local macro_rules | `(tactic| walk_at "eval Subscript") => `(tactic| (k_here; first | ((with_reducible show wpAny _ _ (eval (Expr.Subscript (Expr.Tuple _ _ _) (Expr.Name _ _) _) _) _ _ _); k_dflt (refine' menuA ?kF ?kN ?kA ?kI ?kL ?kV ?k0 ?k1 ?k2 ?_; (case kF => k_asm); (case kN => k_asm); (case kL => exact rfl); (case kV => first | exact rfl | with_unfolding_all assumption); (case kA => kt_ors); (case kI => (repeat' (first | exact IntsAre.nil | refine' IntsAre.cons _ _ ?_))); (case k0 => first | assumption | omega); (case k1 => first | assumption | (simp only [List.length]; omega)); (case k2 => decide); k_whole); intro t9 h9 F9 N9; (try k_fold); (try k_sweep)) | k_dflt (refine' subA ?kF ?kA ?_; (case kF => k_asm); (case kA => kt_ors); k_whole)))

/-- what a call of the def at f does, for every caller -/
abbrev Spec (d : Nat) (w : World) (mean : ExcName → Option Value) (mg mb : Str → Option Value) (base : Heap) (f : Addr) (vs : List Value) (news : Led) (Post : Value → Led → Prop) : Prop :=
  ∀ (dp un : Nat) (gd : Option (List Code)) (cn : Str) (cs : Scope) (a : Addr) (ccd : Value) (cl : List (Str × Addr)) (outer : List Env) (A₀ : Around) (h₀ : Heap) (L : Addr) (m : Str → Option Value) (h₁ : Heap) (g₁ : Array GenState) (d₁ : Drawn) (t₁ : Tok) (o₁ : OsState) (Q E : Value → Shared → Prop),
    Below A₀ base outer h₀ → Fr h₀ L h₁ m → (hd.heap_39 w.params).In h₀ → News h₀ L h₁ news → Top hd.view_39 (looseW hd.view_39 []) mean mg mb h₀ → cs.kind = .function →
    dp + d < recursionLimit → un + 20 * d < cLine →
    (∀ v h' tk news', Post v news' → Fr h₀ L h' m → News h₀ L h' news' → Q v ⟨h', g₁, d₁, tk, o₁⟩) →
    wpAny (model Challenge.rw_pf0335_01.row.prog w) (ktrTop dp un gd cn cs L a ccd cl outer) (call (.ref f) vs) Q E ⟨h₁, g₁, d₁, t₁, o₁⟩
section
variable {d : Nat} {w : World} {mean : ExcName → Option Value} {mg mb : Str → Option Value} {base : Heap} {f : Addr} {vs : List Value} {news : Led} {Post : Value → Led → Prop}
  {dp un : Nat} {gd : Option (List Code)} {cn : Str} {cs : Scope} {a : Addr} {ccd : Value} {cl : List (Str × Addr)} {outer : List Env} {A₀ : Around} {h₀ : Heap} {L : Addr} {m : Str → Option Value} {h₁ : Heap} {g₁ : Array GenState} {d₁ : Drawn} {t₁ : Tok} {o₁ : OsState} {Q E : Value → Shared → Prop}
theorem Spec.use (B : Below A₀ base outer h₀) (F : Fr h₀ L h₁ m) (X : (hd.heap_39 w.params).In h₀) (N : News h₀ L h₁ news) (T : Top hd.view_39 (looseW hd.view_39 []) mean mg mb h₀) (hk : cs.kind = .function)
    (S : Spec d w mean mg mb base f vs news Post) (hd : dp + d < recursionLimit) (hu : un + 20 * d < cLine) (ret : ∀ v h' tk news', Post v news' → Fr h₀ L h' m → News h₀ L h' news' → Q v ⟨h', g₁, d₁, tk, o₁⟩) :
    wpAny (model Challenge.rw_pf0335_01.row.prog w) (ktrTop dp un gd cn cs L a ccd cl outer) (call (.ref f) vs) Q E ⟨h₁, g₁, d₁, t₁, o₁⟩ := S _ _ _ _ _ _ _ _ _ _ _ _ _ _ _ _ _ _ _ _ B F X N T hk hd hu ret
end
theorem tail_ne {d : Addr} {l l' : Led} (h : ∀ p ∈ l, p.1 < d) (s : ∀ p ∈ l', p ∈ l) : ∀ p ∈ l', p.1 ≠ d := fun p hp => Nat.ne_of_lt (h p (s p hp))
theorem drop_led {h₀ h : Heap} {L : Addr} {news news' : Led} (N : News h₀ L h news') (hs : ∀ p ∈ news, p ∈ news') : News h₀ L h news := fun p hp => N p (hs p hp)

local macro_rules | `(tactic| k_room) => `(tactic| ktr_room)
local macro_rules | `(tactic| k_lt $h:ident) => `(tactic| (have hlt9 := $h; replace $h := allLt_of $h; dsimp only [AllLt] at $h:ident))
local macro_rules | `(tactic| k_all) => `(tactic| exact tail_ne (by assumption) (by intro p hp; repeat (first | exact hp | refine List.Mem.tail _ ?_)))

theorem getD_nonneg : ∀ {l : List Int} (i : Nat), (∀ x ∈ l, 0 ≤ x) → 0 ≤ l.getD i 0
  | [], _, _ => by simp
  | a :: r, 0, h => h a (.head _)
  | a :: r, i + 1, h => by simpa using getD_nonneg i fun x hx => h x (.tail _ hx)

theorem draw_spec {w mean mg mb base} {news : Led} {sc : Addr} {vs : List Value} {ns : List Int} {k : Int} {t : Tok} (hl : base.IsList sc vs.toArray) (hi : IntsAre vs ns) (hn : ns.length ≤ 63) (h0 : 0 ≤ k) (hk : k < 100) :
    Spec 4 w mean mg mb base 147 [.ref sc, .int k t] news (fun v news' => news' = news ∧ ∃ x tk, v = .int x tk ∧ 0 ≤ x) := by
  intro dp un gd cn cs a ccd cl outer A₀ h₀ L m h8 g8 d8 T8 os8 Q E B F X N T hk hd hu hret
  refine wpAny_call ?_
  k_dflt cell_enter
  refine @shut _ _ _ h₀ L m _ _ _ _ _ _ _ _ _ _ _ _ _ _ _ _ _ _ Q _ _ _ _ hret hd hu (by assumption) (fun _ _ h => h) (fun _ _ h => h) fun dp un gd outer A₀ tkS Q E Bw hd hu hret hnext => ?_
  have hG : GDO g8 d8 os8 := trivial
  k_steps
  · refine hret _ _ _ news ⟨rfl, _, _, rfl, ?_⟩ (by k_asm) (drop_led (by assumption) (by intro p hp; repeat (first | exact hp | refine List.Mem.tail _ ?_)))
    exact Int.fmod_nonneg_of_pos _ (by decide)
  · refine hret _ _ _ news ⟨rfl, _, _, rfl, ?_⟩ (by k_asm) (drop_led (by assumption) (by intro p hp; repeat (first | exact hp | refine List.Mem.tail _ ?_)))
    exact getD_nonneg _ (by decide)



theorem noPylong_of_lt {x y : Int} (h : y.natAbs < 9223372036854775808) : Builtin.divisionGoesByPylong x y = false := by
  refine PyProof.noPylong_of_log2 ?_
  by_cases h0 : y.natAbs = 0
  · rw [h0]; decide +kernel
  · have h30 : y.natAbs.log2 < 63 := (Nat.log2_lt h0).mpr h
    omega
local macro_rules | `(tactic| walk_at "binaryOp FloorDiv int int") => `(tactic| (k_here; (with_reducible refine floordiv_int ?kbe ?_ (Or.inl (noPylong_of_lt ?kbp))); (case kbe => omega); (case kbp => omega)))
def digs : Int → List Int → List Int
  | _, [] => []
  | n, b :: bs => n.fmod b :: digs (n.fdiv b) bs
theorem digs_length : ∀ (n : Int) (bs : List Int), (digs n bs).length = bs.length
  | _, [] => rfl
  | n, _ :: bs => by simp [digs, digs_length]
def remn : Int → List Int → Int
  | n, [] => n
  | n, b :: bs => remn (n.fdiv b) bs
theorem digs_snoc : ∀ (n : Int) (bs : List Int) (b : Int), digs n (bs ++ [b]) = digs n bs ++ [(remn n bs).fmod b]
  | _, [], _ => rfl
  | n, c :: bs, b => by simp [digs, remn, digs_snoc]
theorem remn_snoc : ∀ (n : Int) (bs : List Int) (b : Int), remn n (bs ++ [b]) = (remn n bs).fdiv b
  | _, [], _ => rfl
  | n, c :: bs, b => by simp [remn, remn_snoc]
theorem fdiv_nonneg' {n b : Int} (h : 0 ≤ n) (hb : 0 < b) : 0 ≤ n.fdiv b := Int.fdiv_nonneg h (Int.le_of_lt hb)
theorem remn_nonneg : ∀ {n : Int} {bs : List Int}, 0 ≤ n → (∀ x ∈ bs, 0 < x) → 0 ≤ remn n bs
  | _, [], h, _ => h
  | n, c :: bs, h, hp => remn_nonneg (n := n.fdiv c) (fdiv_nonneg' h (hp c (.head _))) fun x hx => hp x (.tail _ hx)
theorem ints_snoc {vs : List Value} {ns : List Int} {n : Int} {t : Tok} (h : IntsAre vs ns) : IntsAre (vs ++ [.int n t]) (ns ++ [n]) := by
  induction h with
  | nil => exact .cons _ _ .nil
  | cons _ _ _ ih => exact .cons _ _ ih

theorem digits_spec {w mean mg mb base} {news : Led} {b : Addr} {vs : List Value} {bs : List Int} {ep : Nat} {n : Int} {t : Tok} (hb : (b, W.listOf vs.toArray ep) ∈ news) (hi : IntsAre vs bs) (hp' : ∀ x ∈ bs, 0 < x ∧ x < 9223372036854775808) (hl : bs.length ≤ 20) (h0 : 0 ≤ n) :
    Spec 4 w mean mg mb base 154 [.int n t, .ref b] news (fun v news' => ∃ a ys, v = .ref a ∧ news' = (a, LCg.lst ys) :: news ∧ IntsAre ys (digs n bs) ∧ ∀ p ∈ news, p.1 < a) := by
  intro dp un gd cn cs a ccd cl outer A₀ h₀ L m h8 g8 d8 T8 os8 Q E B F X N T hk hd hu hret
  have hp : ∀ x ∈ bs, 0 < x := fun x hx => (hp' x hx).1
  refine wpAny_call ?_
  k_dflt cell_enter
  refine @shut _ _ _ h₀ L m _ _ _ _ _ _ _ _ _ _ _ _ _ _ _ _ _ _ Q _ _ _ _ hret hd hu (by assumption) (fun _ _ h => h) (fun _ _ h => h) fun dp un gd outer A₀ tkS Q E Bw hd hu hret hnext => ?_
  have hG : GDO g8 d8 os8 := trivial
  k_steps
  refine Stop.go ?_
  rename_i l' h1 l1 h2 F2 N2
  refine For_L F2 rfl rfl ?_
  k_steps
  refine ⟨b, vs.toArray, _, (l', LCg.lst []) :: news, fun i m nw => (∃ t, m (Str.ofString "n") = some (.int (remn n (bs.take i)) t)) ∧ m (Str.ofString "out") = some (.ref l') ∧ ∃ ys, nw = (l', LCg.lst ys) :: news ∧ IntsAre ys (digs n (bs.take i)), rfl, rfl, by k_asm, N2, .inr ⟨_, .tail _ hb, rfl, _, rfl⟩, ⟨⟨_, rfl⟩, rfl, [], rfl, .nil⟩, ?_, ?_⟩
  · rintro i v m₁ news₁ h tk I oI hv hJ9 S off F₁ N₁
    refine and3 hJ9 fun q09 hm2 q29 => ?_
    obtain ⟨t1, hm1⟩ := q09
    obtain ⟨ys, rfl, hys⟩ := q29
    (try dsimp only)
    have hlt : i < bs.length := by
      have := hi.length
      have h2 := (Array.getElem?_eq_some_iff.mp hv).1
      simp at h2; omega
    obtain ⟨t', hv'⟩ := hi.get i bs[i] (by simp [hlt])
    have : v = .int bs[i] t' := by
      rw [List.getElem?_toArray, hv'] at hv; exact (Option.some.inj hv).symm
    subst this
    have hpos : 0 < bs[i] ∧ bs[i] < 9223372036854775808 := hp' _ (List.getElem_mem hlt)
    have hnn : 0 ≤ remn n (bs.take i) := remn_nonneg h0 fun x hx => hp x (List.mem_of_mem_take hx)
    have hne : @Ne Nat l' I := off _ (.head _)
    have hlen : ys.length = i := by have := hys.length; rw [digs_length, List.length_take] at this; omega
    have hfit : ys.toArray.size ≤ sizeLine := by rw [sizeLine_eq, List.size_toArray]; omega
    have htake : bs.take (i + 1) = bs.take i ++ [bs[i]] := by rw [List.take_add_one, List.getElem?_eq_getElem hlt]; rfl
    k_steps
    rename Fr _ _ _ _ => F9
    rename News _ _ _ _ => N9
    refine TurnV.next (news' := (l', LCg.lst (ys ++ [_])) :: news) F9 (by rw [← LCg.lst_snoc]; exact N9) (fun p hp => ?_) ⟨⟨⟨_, by rw [htake, remn_snoc]; rfl⟩, by with_unfolding_all exact hm2, _, rfl, ?_⟩, .inr ⟨_, .tail _ hb, rfl, _, rfl⟩⟩
    · rcases List.mem_cons.mp hp with rfl | hp
      · exact hne
      · exact off p (.tail _ hp)
    · rw [htake, digs_snoc]
      exact ints_snoc hys
  · rintro h tk m' news' F' N' hJ9
    refine and3 hJ9 fun _ hm2 q29 => ?_
    obtain ⟨ys, rfl, hys⟩ := q29
    (try dsimp only)
    k_steps
    rw [List.size_toArray, hi.length, List.take_length] at hys
    exact hret _ _ _ _ ⟨l', ys, rfl, rfl, hys, l1⟩ (by k_asm) (by k_asm)
/-! M6 -/
local macro_rules | `(tactic| walk_at "execs cons") => `(tactic| (k_here; (first | ((with_reducible rename GDO _ _ _ => hG9); (with_reducible apply (gen_tokG hG9))) | (with_reducible refine gen_tok ?_)); intro tk; (try ((with_reducible rename Halt 0 => t9); clear t9; (rename News _ _ _ _ => N9); replace N9 := drop2 N9)); (with_reducible refine wpAny_execs_cons ?_)))
local macro_rules | `(tactic| walk_at "execs nil") => `(tactic| (k_here; (with_reducible refine wpAny_execs_nil ?_)))
local macro_rules | `(tactic| k_mem) => `(tactic| ((show (_ : Addr × Obj) ∈ (_ : List (Addr × Obj))); ktr_member))

local macro_rules | `(tactic| walk_at "eval Call") => `(tactic| (k_here; (with_reducible show wpAny _ _ (eval (Expr.Call (Expr.Name _ _) _ [] _) _) _ _ _); k_dflt (refine Call_ ?_)))
theorem host_spec {w mean mg mb base} {news : Led} {fa k : Int} {t u : Tok} (h0 : 0 ≤ k) :
    Spec 4 w mean mg mb base 161 [.int fa t, .int k u] news (fun v news' => news' = news ∧ ∃ x tk, v = .int x tk ∧ 0 ≤ x) := by
  intro dp un gd cn cs a ccd cl outer A₀ h₀ L m h8 g8 d8 T8 os8 Q E B F X N T hk hd hu hret
  refine wpAny_call ?_
  k_dflt cell_enter
  refine @shut _ _ _ h₀ L m _ _ _ _ _ _ _ _ _ _ _ _ _ _ _ _ _ _ Q _ _ _ _ hret hd hu (by assumption) (fun _ _ h => h) (fun _ _ h => h) fun dp un gd outer A₀ tkS Q E Bw hd hu hret hnext => ?_
  have hG : GDO g8 d8 os8 := trivial
  (repeat' (first | (k_here; (with_reducible show wpAny _ _ (binaryOp _ (Value.ref _) (Value.ref _)) _ _ _); k_dflt (refine add_tup (by k_asm) (by k_asm) (by k_mem) (by k_mem) (Nat.le_of_ble_eq_true rfl) ?_); intro DqQ hqQ FqQ NqQ l1Q; (try simp only [List.cons_append, List.nil_append] at NqQ); (try k_lt l1Q)) | (k_here; (with_reducible show wpAny _ _ (call (Value.ref 161) _) _ _ _); (try k_fold); k_dflt (refine Spec.use (by k_asm) (by k_asm) (by k_asm) (by k_asm) (by k_asm) (by first | exact rfl | assumption) (host_spec (by first | omega | exact Int.fmod_nonneg_of_pos _ (by decide))) (by ktr_room) (by ktr_units) ?_); (k_dflt (intro v9Q h9Q tk9Q news9Q p9Q F9Q N9Q; obtain ⟨e9Q, x9Q, t9Q, e8Q, hx9Q⟩ := p9Q; subst e8Q; subst e9Q)); (try dsimp only at F9Q N9Q ⊢); (try k_fold)) | ((fail_if_success (with_reducible refine Stop.go ?_)); (first | (k_unfold; (try dsimp only)) | (k_end; wrow_close) | walk1 | (dsimp only; walk1) | (leave1; walk_say "STEP leave1"; try dsimp only) | fail "no step"))))
  · refine hret _ _ _ news ⟨rfl, _, _, rfl, ?_⟩ (by k_asm) (drop_led (by assumption) (by intro p hp; repeat (first | exact hp | refine List.Mem.tail _ ?_)))
    omega
  · refine hret _ _ _ news ⟨rfl, _, _, rfl, ?_⟩ (by k_asm) (drop_led (by assumption) (by intro p hp; repeat (first | exact hp | refine List.Mem.tail _ ?_)))
    have h9 : (0 : Int) ≤ 253 * 2 ^ Int.toNat 120 := by decide
    omega
inductive DigC (ys : List Value) (b : Int) (bs : List Int) : Prop
  | mk (x : Int) (t : Tok) (ys' : List Value) (n' : Int) (z0 : ys = .int x t :: ys') (z1 : 0 ≤ x) (z2 : x < b) (z3 : 0 ≤ n') (z4 : IntsAre ys' (digs n' bs)) : DigC ys b bs
theorem digs_cons {ys : List Value} {n b : Int} {bs : List Int} (h : IntsAre ys (digs n (b :: bs))) (hb : 0 < b) (hn : 0 ≤ n) : DigC ys b bs := by
  cases h with
  | cons x t h => exact ⟨_, _, _, _, rfl, Int.fmod_nonneg_of_pos _ hb, Int.fmod_lt_of_pos _ hb, fdiv_nonneg' hn hb, h⟩
theorem digs_nil {ys : List Value} {n : Int} (h : IntsAre ys (digs n [])) : ys = [] := by cases h; rfl
theorem digsE3 {P : Prop} {ys : List Value} {n b1 b2 b3 : Int} (h : IntsAre ys (digs n [b1, b2, b3])) (h1 : 0 < b1) (h2 : 0 < b2) (h3 : 0 < b3) (hn : 0 ≤ n)
    (k : ∀ (x1 x2 x3 : Int) (t1 t2 t3 : Tok), 0 ≤ x1 → x1 < b1 → 0 ≤ x2 → x2 < b2 → 0 ≤ x3 → x3 < b3 → ys = [.int x1 t1, .int x2 t2, .int x3 t3] → P) : P := by
  obtain ⟨x1, t1, _, _, e1, l1, u1, hn, w1⟩ := digs_cons h h1 hn
  obtain ⟨x2, t2, _, _, e2, l2, u2, hn, w2⟩ := digs_cons w1 h2 hn
  obtain ⟨x3, t3, _, _, e3, l3, u3, hn, w3⟩ := digs_cons w2 h3 hn
  obtain rfl := digs_nil w3
  subst e3 e2 e1
  exact k _ _ _ _ _ _ l1 u1 l2 u2 l3 u3 rfl
theorem digsE4 {P : Prop} {ys : List Value} {n b1 b2 b3 b4 : Int} (h : IntsAre ys (digs n [b1, b2, b3, b4])) (h1 : 0 < b1) (h2 : 0 < b2) (h3 : 0 < b3) (h4 : 0 < b4) (hn : 0 ≤ n)
    (k : ∀ (x1 x2 x3 x4 : Int) (t1 t2 t3 t4 : Tok), 0 ≤ x1 → x1 < b1 → 0 ≤ x2 → x2 < b2 → 0 ≤ x3 → x3 < b3 → 0 ≤ x4 → x4 < b4 → ys = [.int x1 t1, .int x2 t2, .int x3 t3, .int x4 t4] → P) : P := by
  obtain ⟨x1, t1, _, _, e1, l1, u1, hn, w1⟩ := digs_cons h h1 hn
  obtain ⟨x2, t2, _, _, e2, l2, u2, hn, w2⟩ := digs_cons w1 h2 hn
  obtain ⟨x3, t3, _, _, e3, l3, u3, hn, w3⟩ := digs_cons w2 h3 hn
  obtain ⟨x4, t4, _, _, e4, l4, u4, hn, w4⟩ := digs_cons w3 h4 hn
  obtain rfl := digs_nil w4
  subst e4 e3 e2 e1
  exact k _ _ _ _ _ _ _ _ l1 u1 l2 u2 l3 u3 l4 u4 rfl
theorem digsE5 {P : Prop} {ys : List Value} {n b1 b2 b3 b4 b5 : Int} (h : IntsAre ys (digs n [b1, b2, b3, b4, b5])) (h1 : 0 < b1) (h2 : 0 < b2) (h3 : 0 < b3) (h4 : 0 < b4) (h5 : 0 < b5) (hn : 0 ≤ n)
    (k : ∀ (x1 x2 x3 x4 x5 : Int) (t1 t2 t3 t4 t5 : Tok), 0 ≤ x1 → x1 < b1 → 0 ≤ x2 → x2 < b2 → 0 ≤ x3 → x3 < b3 → 0 ≤ x4 → x4 < b4 → 0 ≤ x5 → x5 < b5 → ys = [.int x1 t1, .int x2 t2, .int x3 t3, .int x4 t4, .int x5 t5] → P) : P := by
  obtain ⟨x1, t1, _, _, e1, l1, u1, hn, w1⟩ := digs_cons h h1 hn
  obtain ⟨x2, t2, _, _, e2, l2, u2, hn, w2⟩ := digs_cons w1 h2 hn
  obtain ⟨x3, t3, _, _, e3, l3, u3, hn, w3⟩ := digs_cons w2 h3 hn
  obtain ⟨x4, t4, _, _, e4, l4, u4, hn, w4⟩ := digs_cons w3 h4 hn
  obtain ⟨x5, t5, _, _, e5, l5, u5, hn, w5⟩ := digs_cons w4 h5 hn
  obtain rfl := digs_nil w5
  subst e5 e4 e3 e2 e1
  exact k _ _ _ _ _ _ _ _ _ _ l1 u1 l2 u2 l3 u3 l4 u4 l5 u5 rfl
theorem digsE9 {P : Prop} {ys : List Value} {n b1 b2 b3 b4 b5 b6 b7 b8 b9 : Int} (h : IntsAre ys (digs n [b1, b2, b3, b4, b5, b6, b7, b8, b9])) (h1 : 0 < b1) (h2 : 0 < b2) (h3 : 0 < b3) (h4 : 0 < b4) (h5 : 0 < b5) (h6 : 0 < b6) (h7 : 0 < b7) (h8 : 0 < b8) (h9 : 0 < b9) (hn : 0 ≤ n)
    (k : ∀ (x1 x2 x3 x4 x5 x6 x7 x8 x9 : Int) (t1 t2 t3 t4 t5 t6 t7 t8 t9 : Tok), 0 ≤ x1 → x1 < b1 → 0 ≤ x2 → x2 < b2 → 0 ≤ x3 → x3 < b3 → 0 ≤ x4 → x4 < b4 → 0 ≤ x5 → x5 < b5 → 0 ≤ x6 → x6 < b6 → 0 ≤ x7 → x7 < b7 → 0 ≤ x8 → x8 < b8 → 0 ≤ x9 → x9 < b9 → ys = [.int x1 t1, .int x2 t2, .int x3 t3, .int x4 t4, .int x5 t5, .int x6 t6, .int x7 t7, .int x8 t8, .int x9 t9] → P) : P := by
  obtain ⟨x1, t1, _, _, e1, l1, u1, hn, w1⟩ := digs_cons h h1 hn
  obtain ⟨x2, t2, _, _, e2, l2, u2, hn, w2⟩ := digs_cons w1 h2 hn
  obtain ⟨x3, t3, _, _, e3, l3, u3, hn, w3⟩ := digs_cons w2 h3 hn
  obtain ⟨x4, t4, _, _, e4, l4, u4, hn, w4⟩ := digs_cons w3 h4 hn
  obtain ⟨x5, t5, _, _, e5, l5, u5, hn, w5⟩ := digs_cons w4 h5 hn
  obtain ⟨x6, t6, _, _, e6, l6, u6, hn, w6⟩ := digs_cons w5 h6 hn
  obtain ⟨x7, t7, _, _, e7, l7, u7, hn, w7⟩ := digs_cons w6 h7 hn
  obtain ⟨x8, t8, _, _, e8, l8, u8, hn, w8⟩ := digs_cons w7 h8 hn
  obtain ⟨x9, t9, _, _, e9, l9, u9, hn, w9⟩ := digs_cons w8 h9 hn
  obtain rfl := digs_nil w9
  subst e9 e8 e7 e6 e5 e4 e3 e2 e1
  exact k _ _ _ _ _ _ _ _ _ _ _ _ _ _ _ _ _ _ l1 u1 l2 u2 l3 u3 l4 u4 l5 u5 l6 u6 l7 u7 l8 u8 l9 u9 rfl
abbrev tupO (vs : List Value) : Obj := { cls := .type "tuple", data := .seq vs.toArray }
abbrev sKind (w : World) := PySem.strKind Challenge.rw_pf0335_01.row.prog w
inductive End6 (vs : List Value) : Prop
  | mk (a b c d e f : Int) (ta tb tc td te tf : Tok) (z0 : vs = [.int a ta, .int b tb, .int c tc, .int d td, .int e te, .int f tf]) (z1 : 0 ≤ c) (z2 : 0 ≤ e) : End6 vs
/-- the law's dict of a talk -/
inductive TalkMade (w : World) (news : Led) (v : Value) (news' : Led) : Prop
  | mk (T : Addr) (oT : Obj) (Ed Th Ba : Addr) (z : Int) (tz : Tok) (st : Int) (ts : Tok) (th ba : List Value) (z0 : v = .ref T) (z1 : oT.IsDictOf (sKind w) [(Str.ofString "zone", .int z tz), (Str.ofString "status", .int st ts), (Str.ofString "ends", .ref Ed)])
    (z2 : news' = (Ed, tupO [.ref Th, .ref Ba]) :: (T, oT) :: (Ba, tupO ba) :: (Th, tupO th) :: news) (z3 : (T == sysModules) = false) (z4 : 0 ≤ st ∧ st < 1024) (z5 : End6 th) (z6 : End6 ba) (z7 : ∀ p ∈ news, p.1 < Th) (z8 : @LT.lt Nat _ Th Ba) (z9 : @LT.lt Nat _ Ba T) (z10 : @LT.lt Nat _ T Ed) : TalkMade w news v news'
/-- the zone of a number's talk, as the world has it -/
inductive ZoneOf (w : World) (tkl : List (Int × Value)) (news : Led) (i z : Int) : Prop
  | mk (T : Addr) (oT : Obj) (zt : Tok) (st : Int) (ts : Tok) (Ed : Addr) (z0 : valueAt tkl i = some (.ref T)) (z1 : (T, oT) ∈ news) (z2 : oT.IsDictOf (sKind w) [(Str.ofString "zone", .int z zt), (Str.ofString "status", .int st ts), (Str.ofString "ends", .ref Ed)]) : ZoneOf w tkl news i z
/-- a tuple of five ints -/
inductive Tup5 (v : Value) (fx : Led) : Prop
  | mk (S : Addr) (p1 p2 p3 p4 p5 : Int) (t1 t2 t3 t4 t5 : Tok) (z0 : v = .ref S) (z1 : (S, tupO [.int p1 t1, .int p2 t2, .int p3 t3, .int p4 t4, .int p5 t5]) ∈ fx) : Tup5 v fx
theorem tail_lt {d : Addr} {l l' : Led} (h : ∀ p ∈ l, p.1 < d) (s : ∀ p ∈ l', p ∈ l) : ∀ p ∈ l', p.1 < d := fun p hp => h p (s p hp)
theorem getD_mem {l : List Int} {i : Nat} {P : Int → Prop} (h0 : P 0) (h : ∀ x ∈ l, P x) : P (l.getD i 0) := by
  rw [List.getD_eq_getElem?_getD]
  cases e : l[i]? with
  | none => exact h0
  | some x => exact h x (List.mem_of_getElem? e)
theorem add_tup {prog : Program} {w : World} {A : Around} {E : Value → Shared → Prop} {s : Shared} {h₀ : Heap} {L : Addr} {m : Str → Option Value} {news : Led} {t b : Addr} {x y : Value} {xs ys : List Value} {Q : Value → Shared → Prop} (F : Fr h₀ L s.heap m) (N : News h₀ L s.heap news) (ht : (t, tupO (x :: xs)) ∈ news) (hb : (b, tupO (y :: ys)) ∈ news) (hz : xs.length + ys.length ≤ 1000)
    (h : ∀ D h', Fr h₀ L h' m → News h₀ L h' ((D, tupO (x :: xs ++ y :: ys)) :: news) → (∀ p ∈ news, p.1 < D) → Q (.ref D) { s with heap := h' }) : wpAny (model prog w) A (binaryOp .Add (.ref t) (.ref b)) Q E s :=
  kde_addT (its := (x :: xs).toArray) (its2 := (y :: ys).toArray) F N ⟨_, (N _ ht).1, rfl, _, rfl⟩ ⟨_, (N _ hb).1, rfl, _, rfl⟩ (by simp) (by simp) (by simp; omega) rfl fun D h' F' N' l => h D h' F' (by simpa using N') l
set_option genInjectivity false in
set_option genSizeOf false in
/-- the middle of the law's talk: its locals -/
structure TM where
  family : Int
  tfamily : Tok
  source : Int
  tsource : Tok
  target : Int
  ttarget : Tok
  sport : Int
  tsport : Tok
  dport : Int
  tdport : Tok
  change : Int
  tchange : Tok
  zone : Int
  tzone : Tok
  bits : Int
  tbits : Tok
  proto : Int
  tp : Tok
  tf : Tok
  Hd : Addr
  Th : Addr
  th : List Value
structure TM.Is (x : TM) (news : Led) (m : Str → Option Value) (nw : Led) : Prop where
  mfamily : m (Str.ofString "family") = some (.int x.family x.tfamily)
  msource : m (Str.ofString "source") = some (.int x.source x.tsource)
  mtarget : m (Str.ofString "target") = some (.int x.target x.ttarget)
  msport : m (Str.ofString "sport") = some (.int x.sport x.tsport)
  mdport : m (Str.ofString "dport") = some (.int x.dport x.tdport)
  mchange : m (Str.ofString "change") = some (.int x.change x.tchange)
  mzone : m (Str.ofString "zone") = some (.int x.zone x.tzone)
  mbits : m (Str.ofString "bits") = some (.int x.bits x.tbits)
  mhead : m (Str.ofString "head") = some (.ref x.Hd)
  mthere : m (Str.ofString "there") = some (.ref x.Th)
  src0 : 0 ≤ x.source
  tgt0 : 0 ≤ x.target
  bit0 : 0 ≤ x.bits
  bit8 : x.bits < 8
  end6 : End6 x.th
  hHd : (x.Hd, tupO [.int x.family x.tf, .int x.proto x.tp]) ∈ nw
  hTh : (x.Th, tupO x.th) ∈ nw
  sub : ∀ p ∈ news, p ∈ nw
  low : ∀ p ∈ news, p.1 < x.Th
theorem talk_spec {w mean mg mb base} {news : Led} {dr : Int} {t : Tok} (h0 : 0 ≤ dr) :
    Spec 8 w mean mg mb base 168 [.int dr t] news (fun v news' => TalkMade w news v news') := by
  intro dp un gd cn cs a ccd cl outer A₀ h₀ L m h8 g8 d8 T8 os8 Q E B F X N T hk hd hu hret
  refine wpAny_call ?_
  k_dflt cell_enter
  refine @shut _ _ _ h₀ L m _ _ _ _ _ _ _ _ _ _ _ _ _ _ _ _ _ _ Q _ _ _ _ hret hd hu (by assumption) (fun _ _ h => h) (fun _ _ h => h) fun dp un gd outer A₀ tkS Q E Bw hd hu hret hnext => ?_
  have hG : GDO g8 d8 os8 := trivial
  (rename Fr _ _ _ _ => F1)
  refine seq_cut (b1 := [_, _, _, _, _, _]) F1 (fun m nw => ∃ x : TM, x.Is news m nw) ?_ ?_
  · intro Q1 K1; (repeat' (first | (k_here; (with_reducible show wpAny _ _ (binaryOp _ (Value.ref _) (Value.ref _)) _ _ _); k_dflt (refine add_tup (by k_asm) (by k_asm) (by k_mem) (by k_mem) (Nat.le_of_ble_eq_true rfl) ?_); intro DqQ hqQ FqQ NqQ l1Q; (try simp only [List.cons_append, List.nil_append] at NqQ); (try k_lt l1Q)) | (k_here; (with_reducible show wpAny _ _ (call (Value.ref 161) _) _ _ _); (try k_fold); k_dflt (refine Spec.use (by k_asm) (by k_asm) (by k_asm) (by k_asm) (by k_asm) (by first | exact rfl | assumption) (host_spec (by first | omega | exact Int.fmod_nonneg_of_pos _ (by decide))) (by ktr_room) (by ktr_units) ?_); (k_dflt (intro v9Q h9Q tk9Q news9Q p9Q F9Q N9Q; obtain ⟨e9Q, x9Q, t9Q, e8Q, hx9Q⟩ := p9Q; subst e8Q; subst e9Q)); (try dsimp only at F9Q N9Q ⊢); (try k_fold)) | ((fail_if_success (with_reducible refine Stop.go ?_)); (first | (k_unfold; (try dsimp only)) | (k_end; wrow_close) | walk1 | (dsimp only; walk1) | (leave1; walk_say "STEP leave1"; try dsimp only) | fail "no step"))))
    refine Stop.go ?_
    (try k_fold)
    k_dflt refine (Spec.use (by k_asm) (by k_asm) (by k_asm) (by k_asm) (by k_asm) (by first | exact rfl | assumption) (digits_spec (bs := [2, 3, 2, 3, 3, 4, 2, 8, 2]) (by k_mem) (by (repeat (first | exact IntsAre.nil | refine IntsAre.cons _ _ ?_))) (by decide) (by decide) h0) (by ktr_room) (by ktr_units) ?_)
    rintro v h' tk news' ⟨l9, ys, rfl, rfl, hys, hl9⟩ F9 N9
    refine digsE9 hys (by decide) (by decide) (by decide) (by decide) (by decide) (by decide) (by decide) (by decide) (by decide) h0 fun six fst snd spo dpo chg zon bit tcp t1 t2 t3 t4 t5 t6 t7 t8 t9 l1 u1 l2 u2 l3 u3 l4 u4 l5 u5 l6 u6 l7 u7 l8 u8 l9 u9 ey => ?_
    subst ey
    have t9 : Halt 0 := trivial
    clear hys
    (try dsimp only at F9 N9 ⊢)
    (try k_fold)
    (repeat' (first | (k_here; (with_reducible show wpAny _ _ (binaryOp _ (Value.ref _) (Value.ref _)) _ _ _); k_dflt (refine add_tup (by k_asm) (by k_asm) (by k_mem) (by k_mem) (Nat.le_of_ble_eq_true rfl) ?_); intro DqQ hqQ FqQ NqQ l1Q; (try simp only [List.cons_append, List.nil_append] at NqQ); (try k_lt l1Q)) | (k_here; (with_reducible show wpAny _ _ (call (Value.ref 161) _) _ _ _); (try k_fold); k_dflt (refine Spec.use (by k_asm) (by k_asm) (by k_asm) (by k_asm) (by k_asm) (by first | exact rfl | assumption) (host_spec (by first | omega | exact Int.fmod_nonneg_of_pos _ (by decide))) (by ktr_room) (by ktr_units) ?_); (k_dflt (intro v9Q h9Q tk9Q news9Q p9Q F9Q N9Q; obtain ⟨e9Q, x9Q, t9Q, e8Q, hx9Q⟩ := p9Q; subst e8Q; subst e9Q)); (try dsimp only at F9Q N9Q ⊢); (try k_fold)) | ((fail_if_success (with_reducible refine Stop.go ?_)); (first | (k_unfold; (try dsimp only)) | (k_end; wrow_close) | walk1 | (dsimp only; walk1) | (leave1; walk_say "STEP leave1"; try dsimp only) | fail "no step"))))
    (rename Fr _ _ _ _ => F2); (rename News _ _ _ _ => N2)
    refine' SeqV.next K1 F2 N2 ⟨⟨_, _, _, _, _, _, _, _, _, _, _, _, _, _, _, _, _, _, _, _, _, _⟩, { mfamily := rfl, msource := rfl, mtarget := rfl, msport := rfl, mdport := rfl, mchange := rfl, mzone := rfl, mbits := rfl, mhead := rfl, mthere := rfl, src0 := ?_, tgt0 := ?_, bit0 := ?_, bit8 := ?_, end6 := ?_, hHd := by k_mem, hTh := by k_mem, sub := ?_, low := ?_ }⟩
    all_goals first | assumption | k_mem | exact ⟨_, _, _, _, _, _, _, _, _, _, _, _, rfl, by assumption, by assumption⟩ | exact tail_lt (by assumption) (by intro p hp; repeat (first | exact hp | refine List.Mem.tail _ ?_)) | (intro p hp; (repeat (first | exact hp | refine List.Mem.tail _ ?_)); done)
  rintro h1 tk1 m1 nw1 F2 N2 ⟨⟨xfamily, tfamily, xsource, tsource, xtarget, ttarget, xsport, tsport, xdport, tdport, xchange, tchange, xzone, tzone, xbits, tbits, xproto, tp, tf, Hd, Th, th⟩, j1, j2, j3, j4, j5, j6, j7, j8, j9, j10, c1, c2, c3, c4, c5, c6, c7, c8, c9⟩
  dsimp only at j1 j2 j3 j4 j5 j6 j7 j8 j9 j10 c1 c2 c3 c4 c5 c6 c7 c9 ⊢
  (try k_fold)
  refine seq_cut (b1 := [_, _]) F2 (fun m nw => ∃ x : TM, x.Is news m nw) ?_ ?_
  · intro Q1 K1; (repeat' (first | (k_here; (with_reducible show wpAny _ _ (binaryOp _ (Value.ref _) (Value.ref _)) _ _ _); k_dflt (refine add_tup (by k_asm) (by k_asm) (by k_mem) (by k_mem) (Nat.le_of_ble_eq_true rfl) ?_); intro DqQ hqQ FqQ NqQ l1Q; (try simp only [List.cons_append, List.nil_append] at NqQ); (try k_lt l1Q)) | (k_here; (with_reducible show wpAny _ _ (call (Value.ref 161) _) _ _ _); (try k_fold); k_dflt (refine Spec.use (by k_asm) (by k_asm) (by k_asm) (by k_asm) (by k_asm) (by first | exact rfl | assumption) (host_spec (by first | omega | exact Int.fmod_nonneg_of_pos _ (by decide))) (by ktr_room) (by ktr_units) ?_); (k_dflt (intro v9Q h9Q tk9Q news9Q p9Q F9Q N9Q; obtain ⟨e9Q, x9Q, t9Q, e8Q, hx9Q⟩ := p9Q; subst e8Q; subst e9Q)); (try dsimp only at F9Q N9Q ⊢); (try k_fold)) | ((fail_if_success (with_reducible refine Stop.go ?_)); (first | (k_unfold; (try dsimp only)) | (k_end; wrow_close) | walk1 | (dsimp only; walk1) | (leave1; walk_say "STEP leave1"; try dsimp only) | fail "no step"))))
    all_goals
      (rename Fr _ _ _ _ => F3)
      (rename News _ _ _ _ => N3)
      refine' SeqV.next K1 F3 N3 ⟨⟨_, _, _, _, _, _, _, _, _, _, _, _, _, _, _, _, xproto, tp, tf, Hd, Th, th⟩, { mfamily := by first | exact rfl | with_unfolding_all assumption, msource := by first | exact rfl | with_unfolding_all assumption, mtarget := by first | exact rfl | with_unfolding_all assumption, msport := by first | exact rfl | with_unfolding_all assumption, mdport := by first | exact rfl | with_unfolding_all assumption, mchange := by first | exact rfl | with_unfolding_all assumption, mzone := by first | exact rfl | with_unfolding_all assumption, mbits := by first | exact rfl | with_unfolding_all assumption, mhead := by first | exact rfl | with_unfolding_all assumption, mthere := by first | exact rfl | with_unfolding_all assumption, src0 := ?_, tgt0 := ?_, bit0 := ?_, bit8 := ?_, end6 := ?_, hHd := by k_mem, hTh := by k_mem, sub := ?_, low := ?_ }⟩
      all_goals first | exact c9 | exact c5 | assumption | k_mem | (intro p hp; have hp' := c8 p hp; (repeat (first | exact hp' | refine List.Mem.tail _ ?_)); done)
  rintro h3 tk3 m3 nw3 F4 N4 ⟨⟨xfamily, tfamily, xsource, tsource, xtarget, ttarget, xsport, tsport, xdport, tdport, xchange, tchange, xzone, tzone, xbits, tbits, xproto, tp, tf, Hd, Th, th⟩, j1, j2, j3, j4, j5, j6, j7, j8, j9, j10, c1, c2, c3, c4, c5, c6, c7, c8, c9⟩
  dsimp only at j1 j2 j3 j4 j5 j6 j7 j8 j9 j10 c1 c2 c3 c4 c5 c6 c7 c9 ⊢
  (try k_fold)
  obtain ⟨a0, a1, a2, a3, a4, a5, b0, b1, b2, b3, b4, b5, e, q1, q2⟩ := c5
  subst e
  (repeat' (first | (k_here; (with_reducible show wpAny _ _ (binaryOp _ (Value.ref _) (Value.ref _)) _ _ _); k_dflt (refine add_tup (by k_asm) (by k_asm) (by k_mem) (by k_mem) (Nat.le_of_ble_eq_true rfl) ?_); intro DqQ hqQ FqQ NqQ l1Q; (try simp only [List.cons_append, List.nil_append] at NqQ); (try k_lt l1Q)) | (k_here; (with_reducible show wpAny _ _ (call (Value.ref 161) _) _ _ _); (try k_fold); k_dflt (refine Spec.use (by k_asm) (by k_asm) (by k_asm) (by k_asm) (by k_asm) (by first | exact rfl | assumption) (host_spec (by first | omega | exact Int.fmod_nonneg_of_pos _ (by decide))) (by ktr_room) (by ktr_units) ?_); (k_dflt (intro v9Q h9Q tk9Q news9Q p9Q F9Q N9Q; obtain ⟨e9Q, x9Q, t9Q, e8Q, hx9Q⟩ := p9Q; subst e8Q; subst e9Q)); (try dsimp only at F9Q N9Q ⊢); (try k_fold)) | ((fail_if_success (with_reducible refine Stop.go ?_)); (first | (k_unfold; (try dsimp only)) | (k_end; wrow_close) | walk1 | (dsimp only; walk1) | (leave1; walk_say "STEP leave1"; try dsimp only) | fail "no step"))))
  refine' hret _ _ _ _ ⟨_, _, _, _, _, _, _, _, _, _, _, rfl, by assumption, rfl, by assumption, getD_mem (P := fun x => 0 ≤ x ∧ x < 1024) (by decide) (by decide), ⟨_, _, _, _, _, _, _, _, _, _, _, _, rfl, q1, q2⟩, ⟨_, _, _, _, _, _, _, _, _, _, _, _, rfl, c2, c1⟩, c9, ?_, ?_, ?_⟩ (by k_asm) (drop_led (by assumption) (List.forall_mem_cons.mpr ⟨by k_mem, List.forall_mem_cons.mpr ⟨by k_mem, List.forall_mem_cons.mpr ⟨by k_mem, List.forall_mem_cons.mpr ⟨by k_mem, ?_⟩⟩⟩⟩))
  · exact (by assumption : ∀ p ∈ (_ :: nw3), p.1 < _) (Th, _) (.tail _ c7)
  · omega
  · omega
  · intro p hp; have hp' := c8 p hp; repeat (first | exact hp' | refine List.Mem.tail _ ?_)
/-! M7 -/

inductive Int5 (vs : List Value) : Prop
  | mk (a b c d e : Int) (ta tb tc td te : Tok) (z0 : vs = [.int a ta, .int b tb, .int c tc, .int d td, .int e te]) : Int5 vs
theorem spec_spec {w mean mg mb base} {news : Led} {dr : Int} {t : Tok} (h0 : 0 ≤ dr) :
    Spec 8 w mean mg mb base 175 [.int dr t] news (fun v news' => ∃ S vs, v = .ref S ∧ news' = (S, tupO vs) :: news ∧ Int5 vs ∧ ∀ p ∈ news, p.1 < S) := by
  intro dp un gd cn cs a ccd cl outer A₀ h₀ L m h8 g8 d8 T8 os8 Q E B F X N T hk hd hu hret
  refine wpAny_call ?_
  k_dflt cell_enter
  refine @shut _ _ _ h₀ L m _ _ _ _ _ _ _ _ _ _ _ _ _ _ _ _ _ _ Q _ _ _ _ hret hd hu (by assumption) (fun _ _ h => h) (fun _ _ h => h) fun dp un gd outer A₀ tkS Q E Bw hd hu hret hnext => ?_
  have hG : GDO g8 d8 os8 := trivial
  k_steps
  refine Stop.go ?_
  (try k_fold)
  k_dflt refine (Spec.use (by k_asm) (by k_asm) (by k_asm) (by k_asm) (by k_asm) (by first | exact rfl | assumption) (digits_spec (bs := [2, 3, 4, 4, 3]) (by k_mem) (by (repeat (first | exact IntsAre.nil | refine IntsAre.cons _ _ ?_))) (by decide) (by decide) h0) (by ktr_room) (by ktr_units) ?_)
  rintro v h' tk news' ⟨l9, ys, rfl, rfl, hys, hl9⟩ F9 N9
  refine digsE5 hys (by decide) (by decide) (by decide) (by decide) (by decide) h0 fun x1 x2 x3 x4 x5 t1 t2 t3 t4 t5 l1 u1 l2 u2 l3 u3 l4 u4 l5 u5 ey => ?_
  subst ey
  have t9 : Halt 0 := trivial
  clear hys
  (try dsimp only at F9 N9 ⊢)
  (try k_fold)
  k_steps
  all_goals (refine' hret _ _ _ _ ⟨_, _, rfl, rfl, ⟨_, _, _, _, _, _, _, _, _, _, rfl⟩, ?_⟩ (by k_asm) (drop_led (by assumption) (List.forall_mem_cons.mpr ⟨by k_mem, ?_⟩)))
  all_goals first
    | exact tail_lt (by assumption) (by intro p hp; repeat (first | exact hp | refine List.Mem.tail _ ?_))
    | (intro p hp; repeat (first | exact hp | refine List.Mem.tail _ ?_))

abbrev ent (w : World) (x : String) (t : Tok) (v : Value) : DictEntry := ⟨PyData.keyHash w.params (Str.ofString x), .str (Str.ofString x) t, v⟩
abbrev expEnt (w : World) (k1 k2 k3 k4 : Tok) (n : Int) (tn : Tok) (tt : Addr) (z : Int) (tz : Tok) (u : Int) (tu : Tok) : List DictEntry :=
  [ent w "master" k1 (.int n tn), ent w "t" k2 (.ref tt), ent w "zone" k3 (.int z tz), ent w "until" k4 (.int u tu)]
def fitsB (z a0 a1 a2 a3 a4 zz b0 b1 b2 b4 b5 : Int) : Bool := decide (z = zz) && decide (a0 = b0) && decide (a1 = b1) && ((decide (a2 = -1) || decide (a2 = b2)) && (decide (a3 = b4) && decide (a4 = b5)))
theorem fit_spec {w mean mg mb base} {news : Led} {e de tt q : Addr} {k1 k2 k3 k4 tn tz tu tzz : Tok} {n z u zz : Int} {a0 a1 a2 a3 a4 b0 b1 b2 b3 b4 b5 : Int} {s0 s1 s2 s3 s4 r0 r1 r2 r3 r4 r5 : Tok}
    (he : (e, instObj 86 de) ∈ news) (hd : (de, dictOf (expEnt w k1 k2 k3 k4 n tn tt z tz u tu) 4) ∈ news)
    (ht : (tt, tupO [.int a0 s0, .int a1 s1, .int a2 s2, .int a3 s3, .int a4 s4]) ∈ news) (hq : (q, tupO [.int b0 r0, .int b1 r1, .int b2 r2, .int b3 r3, .int b4 r4, .int b5 r5]) ∈ news) :
    Spec 4 w mean mg mb base 111 [.ref e, .int zz tzz, .ref q] news (fun v news' => news' = news ∧ v = .bool (fitsB z a0 a1 a2 a3 a4 zz b0 b1 b2 b4 b5)) := by
  intro dp un gd cn cs a ccd cl outer A₀ h₀ L m h8 g8 d8 T8 os8 Q E B F X N T hk hd hu hret
  refine wpAny_call ?_
  k_dflt cell_enter
  refine @shut _ _ _ h₀ L m _ _ _ _ _ _ _ _ _ _ _ _ _ _ _ _ _ _ Q _ _ _ _ hret hd hu (by assumption) (fun _ _ h => h) (fun _ _ h => h) fun dp un gd outer A₀ tkS Q E Bw hd hu hret hnext => ?_
  have hG : GDO g8 d8 os8 := trivial
  k_steps
  all_goals (refine hret _ _ _ news ⟨rfl, ?_⟩ (by k_asm) (drop_led (by assumption) (by intro p hp; repeat (first | exact hp | refine List.Mem.tail _ ?_))))
  all_goals (refine congrArg Value.bool ?_; clear B F X N T; unfold fitsB)
  all_goals first
    | (simp_all; done)
    | grind
/-! M8 -/

section
variable {prog : Program} {w : World} {A : Around} {E : Value → Shared → Prop} {s : Shared} {h₀ : Heap} {L : Addr} {m : Str → Option Value} {news : Led}
theorem led_list {l : Addr} {its : Array Value} {ep : Nat} (N : News h₀ L s.heap news) (hm : (l, W.listOf its ep) ∈ news) : s.heap.IsList l its := ⟨_, (N _ hm).1, rfl, _, rfl⟩
theorem led_len {l : Addr} {its : Array Value} {ep : Nat} {Q : Value → Shared → Prop} (N : News h₀ L s.heap news) (hm : (l, W.listOf its ep) ∈ news) (hsz : its.size ≤ 100000)
    (h : Q (.int its.size (s.toks + 1)) { s with toks := s.toks + 1 + 1 }) : wpAny (model prog w) A (call (.builtin "len") [.ref l]) Q E s := len_list (led_list N hm) (by omega) h
theorem led_item {value slice : PySem.Expr} {l : Addr} {its : Array Value} {ep : Nat} {k : Int} {u : Tok} {v : Value} {Q : Value → Shared → Prop} (N : News h₀ L s.heap news) (hm : (l, W.listOf its ep) ∈ news) (h0 : 0 ≤ k) (hk : k < 100000) (hx : its[k.toNat]? = some v) (h : Q v s)
    (hs : subscripted slice false (.ref l) (.int k u) = operate [.ref l, .int k u] (getItem (.ref l) (.int k u)) := by with_unfolding_all rfl) (hg : ∀ r, letTemporaryGo value (.ref l) r = pure () := by intro _; with_unfolding_all rfl) :
    wpAny (model prog w) A (subscriptTail value slice (.ref l) (.int k u)) Q E s := item_list (led_list N hm) h0 (by omega) hx h hs hg
end
local macro_rules | `(tactic| walk_at "call builtin:len") => `(tactic| (k_here; (with_reducible show wpAny _ _ (call (Value.builtin "len") [Value.ref _]) _ _ _); k_dflt (refine' led_len ?N ?m ?z ?_; (case N => k_asm); (case m => k_mem); (case z => assumption))))
local macro_rules | `(tactic| walk_at "subscriptTail") => `(tactic| (k_here; (with_reducible show wpAny _ _ (subscriptTail _ _ (Value.ref _) (Value.int _ _)) _ _ _); k_dflt (refine' led_item ?N ?m ?a ?b ?x ?_ ?hs ?hg; (case N => k_asm); (case m => k_mem); (case x => assumption); (case a => omega); (case b => omega); (case hs => with_unfolding_all rfl); (case hg => (intro _; with_unfolding_all rfl)))))
theorem seqIndex_nat {i n : Nat} (h : i < n) : seqIndex? (i : Int) n = some i := by
  have hc : (decide ((0 : Int) ≤ (i : Int)) && decide ((i : Int) < (n : Int))) = true := by rw [decide_eq_true (by omega), decide_eq_true (by omega)]; rfl
  have hn : ¬ (i : Int) < 0 := by omega
  simp only [seqIndex?, hn, if_false]
  exact if_pos hc
/-- the ledger with another object at d -/
abbrev setAt (d : Addr) (o' : Obj) (news : Led) : Led := news.map fun p => if p.1 = d then (d, o') else p
theorem led_set {h₀ h h' : Heap} {L d : Addr} {o o' : Obj} {news : Led} (N : News h₀ L h news) (hm : (d, o) ∈ news) (hs : Heap.SameBut d h h') (hd : h'.get? d = some o') : News h₀ L h' (setAt d o' news) := by
  intro p hp
  obtain ⟨q, hq, rfl⟩ := List.mem_map.mp hp
  split
  · exact ⟨hd, (N _ hm).2⟩
  · rename_i hne
    exact ⟨(hs.2 _ hne).trans (N q hq).1, (N q hq).2⟩
set_option genInjectivity false in
set_option genSizeOf false in
/-- an expected one, as it lies on the heap -/
structure ES where
  e : Addr
  de : Addr
  et : Addr
  n : Int
  z : Int
  u : Int
  a0 : Int
  a1 : Int
  a2 : Int
  a3 : Int
  a4 : Int
  k1 : Tok
  k2 : Tok
  k3 : Tok
  k4 : Tok
  tn : Tok
  tz : Tok
  tu : Tok
  s0 : Tok
  s1 : Tok
  s2 : Tok
  s3 : Tok
  s4 : Tok
abbrev ES.obj (w : World) (x : ES) : Obj := dictOf (expEnt w x.k1 x.k2 x.k3 x.k4 x.n x.tn x.et x.z x.tz x.u x.tu) 4
abbrev ES.tup (x : ES) : Obj := tupO [.int x.a0 x.s0, .int x.a1 x.s1, .int x.a2 x.s2, .int x.a3 x.s3, .int x.a4 x.s4]
structure ES.At (w : World) (news : Led) (x : ES) : Prop where
  inst : (x.e, instObj 86 x.de) ∈ news
  dict : (x.de, x.obj w) ∈ news
  tup : (x.et, x.tup) ∈ news
abbrev refs (es : List ES) : List Value := es.map fun x => .ref x.e
def ES.fits (x : ES) (now zz b0 b1 b2 b4 b5 : Int) : Bool := decide (now < x.u) && fitsB x.z x.a0 x.a1 x.a2 x.a3 x.a4 zz b0 b1 b2 b4 b5
abbrev bookEnt (w : World) (k1 k2 k3 k4 k5 k6 k7 k8 k9 k10 : Tok) (vs : List Value) (v1 v2 v3 : Value) (tb tk : Addr) (v6 : Value) (tr EL fl : Addr) (v10 : Value) : List DictEntry :=
  [ent w "most" k1 v1, ent w "seed" k2 v2, ent w "tries" k3 v3, ent w "table" k4 (.ref tb), ent w "talks" k5 (.ref tk), ent w "last" k6 v6, ent w "trackers" k7 (.ref tr), ent w "expects" k8 (.ref EL), ent w "flows" k9 (.ref fl), ent w "is_loose" k10 v10]

theorem take_spec {w mean mg mb base} {news : Led} {B dB tb tk tr EL fl q : Addr} {k1 k2 k3 k4 k5 k6 k7 k8 k9 k10 tzz tnow : Tok} {v1 v2 v3 v6 v10 : Value} {es : List ES} {ep : Nat} {zz now : Int} {b0 b1 b2 b3 b4 b5 : Int} {r0 r1 r2 r3 r4 r5 : Tok}
    (hB : (B, instObj 53 dB) ∈ news) (hdB : (dB, dictOf (bookEnt w k1 k2 k3 k4 k5 k6 k7 k8 k9 k10 [] v1 v2 v3 tb tk v6 tr EL fl v10) 10) ∈ news)
    (hEL : (EL, W.listOf (refs es).toArray ep) ∈ news) (hes : ∀ x ∈ es, x.At w news) (hlen : es.length ≤ 1000)
    (hq : (q, tupO [.int b0 r0, .int b1 r1, .int b2 r2, .int b3 r3, .int b4 r4, .int b5 r5]) ∈ news) :
    Spec 8 w mean mg mb base 118 [.ref B, .int zz tzz, .ref q, .int now tnow] news (fun v news' =>
      (es.findIdx? (fun x => x.fits now zz b0 b1 b2 b4 b5) = none ∧ v = .none ∧ news' = news) ∨
      ∃ i x, es.findIdx? (fun x => x.fits now zz b0 b1 b2 b4 b5) = some i ∧ es[i]? = some x ∧ v = .ref x.e ∧ news' = setAt EL (W.listOf (refs (es.eraseIdx i)).toArray (ep + 1)) news) := by
  intro dp un gd cn cs a ccd cl outer A₀ h₀ L m h8 g8 d8 T8 os8 Q E B' F X N T hk hd hu hret
  refine wpAny_call ?_
  k_dflt (first | cell_enter | skip)
  refine @shut _ _ _ h₀ L m _ _ _ _ _ _ _ _ _ _ _ _ _ _ _ _ _ _ Q _ _ _ _ hret hd hu (by assumption) (fun _ _ h => h) (fun _ _ h => h) fun dp un gd outer A₀ tkS Q E Bw hd hu hret hnext => ?_
  have hG : GDO g8 d8 os8 := trivial
  k_steps
  refine Stop.go ?_
  (rename Fr _ _ _ _ => F2); (rename News _ _ _ _ => N2)
  refine For_R F2 rfl rfl ?_
  have hz1 : (refs es).toArray.size ≤ 100000 := by simp; omega
  k_steps
  (rename IsRange _ _ _ _ _ _ _ _ => R3); (rename Fr _ _ _ _ => F3); (rename News _ _ _ _ => N3)
  let fit : ES → Bool := fun x => x.fits now zz b0 b1 b2 b4 b5
  have hz2 : (refs es).toArray.size = es.length := by simp
  refine ⟨_, _, _, _, _, _, es.length, _, _, fun i m nw => m (Str.ofString "book") = some (.ref B) ∧ m (Str.ofString "zone") = some (.int zz tzz) ∧ m (Str.ofString "t") = some (.ref q) ∧ m (Str.ofString "now") = some (.int now tnow) ∧ nw = news ∧ ∀ j x, j < i → es[j]? = some x → fit x = false,
    rfl, rfl, F3, N3, R3, small_one (by decide) (by decide) (by omega) (by omega), by rw [rangeSize_nat, hz2]; simp, ⟨rfl, rfl, rfl, rfl, rfl, fun _ _ h => absurd h (Nat.not_lt_zero _)⟩, ?_, ?_⟩
  · rintro i t m₁ news₁ h tk I oI hi ⟨hm1, hm2, hm3, hm4, rfl, hno⟩ off F₁ N₁
    (try dsimp only)
    have hx : es[i]? = some es[i] := List.getElem?_eq_getElem hi
    have hxe : (refs es).toArray[((0 : Int) + (i : Int)).toNat]? = some (.ref es[i].e) := by
      have e : ((0 : Int) + (i : Int)).toNat = i := by omega
      rw [e, List.getElem?_toArray, List.getElem?_map, hx]; rfl
    have hat := hes es[i] (List.getElem_mem hi)
    have hinst := hat.inst
    have hdict := hat.dict
    have htup := hat.tup
    generalize es[i] = x at *
    k_steps
    · refine Stop.go ?_
      (try k_fold)
      k_dflt refine (Spec.use (by k_asm) (by k_asm) (by k_asm) (by k_asm) (by k_asm) (by first | exact rfl | assumption) (fit_spec (.tail _ hinst) (.tail _ hdict) (.tail _ htup) (.tail _ hq)) (by ktr_room) (by ktr_units) ?_)
      k_dflt (intro v9 h9 tk9 news9 p9 F9 N9; obtain ⟨e9, e8⟩ := p9; subst e8; subst e9)
      (try dsimp only at F9 N9 ⊢)
      (try k_fold)
      k_steps
      · rename_i hc1 _ hc2
        have hfx : fit x = true := by simp_all [fit, ES.fits]
        rename Fr _ _ _ _ => F8
        rename News _ _ _ _ => N8
        refine delItem_at (its := (refs es).toArray) (n := ep) (k := i) (N8.get (.tail _ hEL)) (by unfold Builtin.List.listFitsIndex; simp; omega) (by rw [Int.zero_add, hz2]; exact seqIndex_nat hi) (fun h7 hs7 ho7 => ?_) (by rw [sizeLine_eq]; omega)
        have F7 := F8.change hs7 (N8 _ (.tail _ hEL)).2.1 (N8 _ (.tail _ hEL)).2.2
        rw [show (refs es).toArray.toList.eraseIdx i = refs (es.eraseIdx i) from (map_eraseIdx' _ _ _).symm] at ho7
        have N7 := led_set N8 (.tail _ hEL) hs7 ho7
        clear F8 N8
        k_steps
        (try dsimp only)
        (try refine TurnV.retd ?_)
        (try dsimp only)
        k_steps
        refine hret _ _ _ (setAt EL (W.listOf (refs (es.eraseIdx i)).toArray (ep + 1)) news₁) (.inr ⟨i, x, ?_, hx, rfl, rfl⟩) (by k_asm) (drop_led (by assumption) fun p hp => .tail _ hp)
        rw [List.findIdx?_eq_some_iff_getElem]
        refine ⟨hi, ?_, fun j hj => ?_⟩
        · rw [(List.getElem_eq_iff hi).mpr hx]; exact hfx
        · have := hno j _ hj (List.getElem?_eq_getElem (by omega))
          simpa [fit] using this
      · rename_i hc1 _ hc2
        have hfx : fit x = false := by simp_all [fit, ES.fits]
        rename Fr _ _ _ _ => F9
        rename News _ _ _ _ => N9
        refine TurnV.next F9 N9 off ⟨⟨by with_unfolding_all exact hm1, by with_unfolding_all exact hm2, by with_unfolding_all exact hm3, by with_unfolding_all exact hm4, rfl, fun j y hj hy => ?_⟩, trivial⟩
        rcases Nat.lt_succ_iff_lt_or_eq.mp hj with h | rfl
        · exact hno j y h hy
        · rw [hx] at hy; cases hy; exact hfx
    · rename_i hc1 hc2
      have hfx : fit x = false := by
        have h8 : ¬ now < x.u := by first | omega | simp_all
        simp [fit, ES.fits, h8]
      rename Fr _ _ _ _ => F9
      rename News _ _ _ _ => N9
      refine TurnV.next F9 N9 off ⟨⟨by with_unfolding_all exact hm1, by with_unfolding_all exact hm2, by with_unfolding_all exact hm3, by with_unfolding_all exact hm4, rfl, fun j y hj hy => ?_⟩, trivial⟩
      rcases Nat.lt_succ_iff_lt_or_eq.mp hj with h | rfl
      · exact hno j y h hy
      · rw [hx] at hy; cases hy; exact hfx
  · rintro h tk m' news' F' N' ⟨_, _, _, _, rfl, hno⟩
    (try dsimp only)
    k_steps
    refine hret _ _ _ _ (.inl ⟨?_, rfl, rfl⟩) (by k_asm) (by k_asm)
    rw [List.findIdx?_eq_none_iff]
    intro x hx
    obtain ⟨j, hj, rfl⟩ := List.mem_iff_getElem.mp hx
    simpa [fit] using hno j _ hj (List.getElem?_eq_getElem hj)
/-! M9 -/
local macro_rules | `(tactic| walk_at "getAttr ref") => `(tactic| (k_here; k_dflt (refine' ownE ?k1 ?k2 ?k3 ?k4 ?k5 ?k6 ?k7 ?k8 ?k9 ?_; (case k1 => k_asm); (case k2 => k_asm); (case k3 => k_inst); (case k4 => k_is); (case k5 => k_is); (case k6 => k_is); (case k7 => k_is); (case k8 => first | assumption | k_get); (case k9 => k_handed); k_whole)))
section
variable {prog : Program} {w : World} {A : Around} {E : Value → Shared → Prop} {s : Shared} {K : Frag} {h₀ : Heap} {L : Addr} {m : Str → Option Value} {news : Led}
abbrev offOf (d : Addr) (news : Led) : Led := news.filter fun p => decide (p.1 ≠ d)
theorem led_rot {h : Heap} {d : Addr} {o : Obj} (N : News h₀ L h news) (hm : (d, o) ∈ news) : News h₀ L h ((d, o) :: offOf d news) := fun p hp => by
  rcases List.mem_cons.mp hp with rfl | hp
  · exact N _ hm
  · exact N _ (List.mem_filter.mp hp).1
theorem led_off {d : Addr} : ∀ p ∈ offOf d news, p.1 ≠ d := fun p hp => of_decide_eq_true (List.mem_filter.mp hp).2
theorem led_back {h : Heap} {d : Addr} {o' : Obj} (N : News h₀ L h ((d, o') :: offOf d news)) : News h₀ L h (setAt d o' news) := fun p hp => by
  obtain ⟨q, hq, rfl⟩ := List.mem_map.mp hp
  split
  · exact N _ List.mem_cons_self
  · rename_i hne
    exact N _ (List.mem_cons_of_mem _ (List.mem_filter.mpr ⟨hq, decide_eq_true hne⟩))
theorem set_led {x C dx : Addr} {ox : Obj} {es es' : List DictEntry} {n n' : Nat} {name : Str} {v : Value} {Q : Unit → Shared → Prop} (F : Fr h₀ L s.heap m) (X₀ : K.In h₀) (N : News h₀ L s.heap news) (I : InstAt s.heap x ox C (some (dictOf es n))) (hd : ox.dict = some dx)
    (hs : findIn K (.ref C) "__setattr__" = some (some (.builtin "object.__setattr__"))) (hp : plainOver K C = true) (ht : takerIn K C name = some none) (hh : hasDictIn K C = true) (hl : (getL name es).isSome = true)
    (e : (putL name (PyData.keyHash w.params name) (.str name (s.toks + 1)) v es, putN name es n) = (es', n')) (hm : (dx, dictOf es n) ∈ news) (hz : es'.length ≤ 1000)
    (h : ∀ h', Fr h₀ L h' m → News h₀ L h' (setAt dx (dictOf es' n') news) → Q () { s with heap := h', toks := s.toks + 2 }) :
    wpAny (model prog w) A (setAttr (.ref x) name v) Q E s :=
  set_dict F X₀ (led_rot N hm) I hd hs hp ht hh hl e (Upd.head led_off) hz fun h' F' N' => h h' F' (led_back N')
theorem append_led {D : Addr} {its : Array Value} {n : Nat} {x : Value} {Q : Value → Shared → Prop} (F : Fr h₀ L s.heap m) (N : News h₀ L s.heap news) (hm : (D, W.listOf its n) ∈ news) (hsz : its.size ≤ 100000)
    (h : ∀ h', Fr h₀ L h' m → News h₀ L h' (setAt D (W.listOf (its.push x) (n + 1)) news) → Q .none { s with heap := h' }) : wpAny (model prog w) A (call (.builtin "list.append") [.ref D, x]) Q E s :=
  append_K F (led_rot N hm) (Upd.head led_off) (fun h' F' N' => h h' F' (led_back N')) (by rw [sizeLine_eq]; omega)
end
theorem side_spec {w mean mg mb base} {news : Led} {M dM : Addr} {es : List DictEntry} {ne : Nat} {a1 a2 S : Addr} {d : Int} {t : Tok} (hM : (M, instObj 31 dM) ∈ news) (hdM : (dM, dictOf es ne) ∈ news)
    (ho : getL (Str.ofString "original") es = some (some (.ref a1))) (hr : getL (Str.ofString "reply") es = some (some (.ref a2))) (hS : S = if d = 0 then a1 else a2) :
    Spec 4 w mean mg mb base 64 [.ref M, .int d t] news (fun v news' => news' = news ∧ v = .ref S) := by
  intro dp un gd cn cs a ccd cl outer A₀ h₀ L m h8 g8 d8 T8 os8 Q E B F X N T hk hd hu hret
  refine wpAny_call ?_
  k_dflt cell_enter
  refine @shut _ _ _ h₀ L m _ _ _ _ _ _ _ _ _ _ _ _ _ _ _ _ _ _ Q _ _ _ _ hret hd hu (by assumption) (fun _ _ h => h) (fun _ _ h => h) fun dp un gd outer A₀ tkS Q E Bw hd hu hret hnext => ?_
  have hG : GDO g8 d8 os8 := trivial
  k_steps
  all_goals (refine hret _ _ _ news ⟨rfl, ?_⟩ (by k_asm) (drop_led (by assumption) (by intro p hp; repeat (first | exact hp | refine List.Mem.tail _ ?_))))
  all_goals simp_all
/-! M10 -/
local macro_rules | `(tactic| walk_at "setAttr ref") => `(tactic| ((with_reducible rename Halt 1 => hx9); (k_here; k_dflt (first
  | (refine' set_dict ?k1 ?k2 ?k3 ?k4 ?k5 ?k6 ?k7 ?k8 ?k9 ?k10 ?k11 ?k12 ?k13 ?_; (case k1 => k_asm); (case k2 => k_asm); (case k3 => k_asm); (case k4 => k_inst); (case k5 => exact rfl); (case k6 => k_is); (case k7 => k_is); (case k8 => k_is); (case k9 => k_is); (case k10 => k_get); (case k11 => k_put); (case k12 => k_upd); (case k13 => exact Nat.le_of_ble_eq_true rfl); k_whole; intro h' F' N'; (try k_sweep))
  | (refine' set_led ?k1 ?k2 ?k3 ?k4 ?k5 ?k6 ?k7 ?k8 ?k9 ?k10 ?k11 ?k12 ?k13 ?_; (case k1 => k_asm); (case k2 => k_asm); (case k3 => k_asm); (case k4 => k_inst); (case k5 => exact rfl); (case k6 => k_is); (case k7 => k_is); (case k8 => k_is); (case k9 => k_is); (case k10 => k_get); (case k11 => k_put); (case k12 => k_mem); (case k13 => exact Nat.le_of_ble_eq_true rfl); k_whole; intro h' F' N'; (try k_sweep))))))
local macro_rules | `(tactic| walk_at "call builtin:list.append") => `(tactic| ((with_reducible rename Halt 2 => hx9); (k_here; (with_reducible show wpAny _ _ (call (Value.builtin _) [Value.ref _, _]) _ _ _); k_dflt (refine' append_led ?k1 ?k2 ?k3 ?z ?_; (case k1 => k_asm); (case k2 => k_asm); (case k3 => k_mem); (case z => assumption); k_whole); intro h' F' N'; (try k_sweep))))
abbrev brk (t u : Tok) : Obj := tupO [.str (Str.ofString "break") t, .str (Str.ofString "") u]
theorem head_lt {a d : Addr} {o : Obj} {r : Led} (h : ∀ p ∈ (a, o) :: r, p.1 < d) : @LT.lt Nat _ a d := h _ (.head _)
theorem head_of {h₀ h : Heap} {L a : Addr} {o : Obj} {r : Led} (_ : News h₀ L h ((a, o) :: r)) : ∃ a' : Addr, a' = a := ⟨_, rfl⟩
/-- what a part of an expression hands on when it leaves the heap alone -/
def CutEnd (R : Value → Prop) (s : Shared) (v : Value) (s' : Shared) : Prop := R v ∧ ∃ tk', s' = { s with toks := tk' }
theorem cut {M : Model} {A : Around} {t : Sem Value} {Q : Value → Shared → Prop} {E : Value → Shared → Prop} {s : Shared} (R : Value → Prop) (h1 : wpAny M A t (CutEnd R s) (fun _ _ => False) s)
    (h2 : ∀ v tk', R v → Q v { s with toks := tk' }) : wpAny M A t Q E s :=
  wpAny_mono h1 (fun v s' ⟨r, tk', e⟩ => e ▸ h2 v tk' r) fun _ _ x => x.elim
def IsI (x : Int) (v : Value) : Prop := ∃ t, v = .int x t
def cntE (es : List ES) (n now : Int) : Int := ((es.filter fun x => decide (x.n = n) && decide (now < x.u)).length : Nat)
theorem cntE_snoc (es : List ES) (x : ES) (n now : Int) : cntE (es ++ [x]) n now = cntE es n now + if x.n = n ∧ now < x.u then 1 else 0 := by
  unfold cntE
  rw [List.filter_append, List.length_append, List.filter_cons]
  by_cases h : x.n = n ∧ now < x.u
  · rw [if_pos h, if_pos (by simp [h.1, h.2])]; simp
  · rw [if_neg h, if_neg (by simpa using h)]; simp
def ES.matches (x : ES) (n z t0 t1 t2 t3 t4 : Int) : Bool := decide (x.n = n) && (decide (x.z = z) && (decide (x.a0 = t0) && (decide (x.a1 = t1) && (decide (x.a2 = t2) && (decide (x.a3 = t3) && decide (x.a4 = t4))))))
def AddPost (w : World) (news : Led) (es : List ES) (EL : Addr) (ep : Nat) (n z st now timeout most t0 t1 t2 t3 t4 : Int) (v : Value) (news' : Led) : Prop :=
  ((¬ Builtin.bitAnd st (Builtin.bitOr 8 512) = 0 ∨ most ≤ cntE es n now) ∧ ∃ b t u, v = .ref b ∧ news' = (b, brk t u) :: news) ∨
  (¬ (¬ Builtin.bitAnd st (Builtin.bitOr 8 512) = 0 ∨ most ≤ cntE es n now) ∧ v = .none ∧
    ((∃ i x tu, es.findIdx? (fun x => x.matches n z t0 t1 t2 t3 t4) = some i ∧ es[i]? = some x ∧ news' = setAt x.de (ES.obj w { x with u := now + timeout, tu := tu }) news) ∨
     (es.findIdx? (fun x => x.matches n z t0 t1 t2 t3 t4) = none ∧ ∃ x : ES, x.n = n ∧ x.z = z ∧ x.u = now + timeout ∧ x.a0 = t0 ∧ x.a1 = t1 ∧ x.a2 = t2 ∧ x.a3 = t3 ∧ x.a4 = t4 ∧
       news' = setAt EL (W.listOf ((refs es).toArray.push (.ref x.e)) (ep + 1)) ((x.e, instObj 86 x.de) :: (x.de, x.obj w) :: (x.et, x.tup) :: news) ∧ (∀ p ∈ news, p.1 < x.et) ∧ @LT.lt Nat _ x.et x.de ∧ @LT.lt Nat _ x.de x.e)))
theorem add_spec {w mean mg mb base} {news : Led} {Sc dSc M dM B dB EL S Th Ba Sd : Addr} {eSc eM eB : List DictEntry} {nSc nM nB ep : Nat} {now way n st z proto port timeout most nf a b c d e f : Int}
    {tnow tway tn ts tz t1 t2 t3 t4 t5 ta tb tc td te tf : Tok} {es : List ES}
    (hSc : (Sc, instObj 136 dSc) ∈ news) (hdSc : (dSc, dictOf eSc nSc) ∈ news)
    (s1 : getL (Str.ofString "talk") eSc = some (some (.ref M))) (s2 : getL (Str.ofString "talks") eSc = some (some (.ref B))) (s3 : getL (Str.ofString "now") eSc = some (some (.int now tnow))) (s4 : getL (Str.ofString "is_reply") eSc = some (some (.int way tway)))
    (hM : (M, instObj 31 dM) ∈ news) (hdM : (dM, dictOf eM nM) ∈ news)
    (m1 : getL (Str.ofString "number") eM = some (some (.int n tn))) (m2 : getL (Str.ofString "status") eM = some (some (.int st ts))) (m3 : getL (Str.ofString "original") eM = some (some (.ref Th))) (m4 : getL (Str.ofString "reply") eM = some (some (.ref Ba))) (m5 : getL (Str.ofString "zone") eM = some (some (.int z tz)))
    (hB : (B, instObj 53 dB) ∈ news) (hdB : (dB, dictOf eB nB) ∈ news) (b1 : getL (Str.ofString "expects") eB = some (some (.ref EL)))
    (hEL : (EL, W.listOf (refs es).toArray ep) ∈ news) (hes : ∀ x ∈ es, x.At w news) (hlen : es.length ≤ 1000)
    (hS : (S, tupO [.int proto t1, .int port t2, .int timeout t3, .int most t4, .int nf t5]) ∈ news)
    (hSd : Sd = if 1 - way = 0 then Th else Ba) (hSdt : (Sd, tupO [.int a ta, .int b tb, .int c tc, .int d td, .int e te, .int f tf]) ∈ news) :
    Spec 8 w mean mg mb base 97 [.ref Sc, .ref S] news (fun v news' => AddPost w news es EL ep n z st now timeout most (if nf = 0 then a else nf) proto c e port v news') := by
  intro dp un gd cn cs a9 ccd cl outer A₀ h₀ L m h8 g8 d8 T8 os8 Q E B9 F X N T hk hd hu hret
  refine wpAny_call ?_
  k_dflt cell_enter
  refine @shut _ _ _ h₀ L m _ _ _ _ _ _ _ _ _ _ _ _ _ _ _ _ _ _ Q _ _ _ _ hret hd hu (by assumption) (fun _ _ h => h) (fun _ _ h => h) fun dp un gd outer A₀ tkS Q E Bw hd hu hret hnext => ?_
  have hG : GDO g8 d8 os8 := trivial
  have hm1 : Halt 1 := trivial
  have hm2 : Halt 2 := trivial
  have hz1 : (refs es).toArray.size ≤ 100000 := by simp; omega
  (repeat' (first | ((with_reducible show wpAny _ _ (eval (Expr.IfExp _ _ _ _) _) _ _ _); refine stop ?_) | ((fail_if_success (with_reducible refine Stop.go ?_)); (first | (k_unfold; (try dsimp only)) | (k_end; wrow_close) | walk1 | (dsimp only; walk1) | (leave1; walk_say "STEP leave1"; try dsimp only) | fail "no step"))))
  · refine hret _ _ _ _ (.inl ⟨.inl (by assumption), _, _, _, rfl, rfl⟩) (by k_asm) (by k_asm)
  rename_i hst
  refine Stop.go ?_
  (rename Fr _ _ _ _ => F2)
  refine For_L F2 rfl rfl ?_
  (repeat' (first | ((with_reducible show wpAny _ _ (eval (Expr.IfExp _ _ _ _) _) _ _ _); refine stop ?_) | ((fail_if_success (with_reducible refine Stop.go ?_)); (first | (k_unfold; (try dsimp only)) | (k_end; wrow_close) | walk1 | (dsimp only; walk1) | (leave1; walk_say "STEP leave1"; try dsimp only) | fail "no step"))))
  (rename Fr _ _ _ _ => F3); (rename News _ _ _ _ => N3)
  refine ⟨EL, (refs es).toArray, _, _, fun i m nw => m (Str.ofString "scene") = some (.ref Sc) ∧ m (Str.ofString "talk") = some (.ref M) ∧ m (Str.ofString "book") = some (.ref B) ∧ m (Str.ofString "protocol") = some (.int proto t1) ∧ m (Str.ofString "port") = some (.int port t2) ∧ m (Str.ofString "timeout") = some (.int timeout t3) ∧ m (Str.ofString "most") = some (.int most t4) ∧ m (Str.ofString "nfproto") = some (.int nf t5) ∧ (∃ t, m (Str.ofString "many") = some (.int (cntE (es.take i) n now) t)) ∧ nw = news,
    rfl, rfl, F3, N3, .inr ⟨_, hEL, rfl, _, rfl⟩, ⟨rfl, rfl, rfl, rfl, rfl, rfl, rfl, rfl, ⟨_, rfl⟩, rfl⟩, ?_, ?_⟩
  · rintro i v m₁ news₁ h tk I oI hv hJ9 S9 off F₁ N₁
    refine and10 hJ9 fun j1 j2 j3 j4 j5 j6 j7 j8 q89 q99 => ?_
    obtain ⟨tj, j9⟩ := q89
    subst news₁
    (try dsimp only)
    have hi : i < es.length := by have := (Array.getElem?_eq_some_iff.mp hv).1; simpa using this
    have hx : es[i]? = some es[i] := List.getElem?_eq_getElem hi
    have hve : v = .ref es[i].e := by
      rw [List.getElem?_toArray, List.getElem?_map, hx] at hv
      exact (Option.some.inj hv).symm
    have htake : es.take (i + 1) = es.take i ++ [es[i]] := by rw [List.take_add_one, hx]; rfl
    subst hve
    have hat := hes es[i] (List.getElem_mem hi)
    have hinst := hat.inst
    have hdict := hat.dict
    generalize es[i] = x at *
    (repeat' (first | ((with_reducible show wpAny _ _ (eval (Expr.IfExp _ _ _ _) _) _ _ _); refine stop ?_) | ((fail_if_success (with_reducible refine Stop.go ?_)); (first | (k_unfold; (try dsimp only)) | (k_end; wrow_close) | walk1 | (dsimp only; walk1) | (leave1; walk_say "STEP leave1"; try dsimp only) | fail "no step"))))
    · rename_i c1 c2 _ _ _
      rename Fr _ _ _ _ => F9
      rename News _ _ _ _ => N9
      refine TurnV.next F9 N9 off ⟨⟨by with_unfolding_all exact j1, by with_unfolding_all exact j2, by with_unfolding_all exact j3, by with_unfolding_all exact j4, by with_unfolding_all exact j5, by with_unfolding_all exact j6, by with_unfolding_all exact j7, by with_unfolding_all exact j8, ⟨_, by rw [htake, cntE_snoc, if_pos (by refine ⟨?_, ?_⟩ <;> first | assumption | omega)]; rfl⟩, rfl⟩, .inr ⟨_, hEL, rfl, _, rfl⟩⟩
    · rename_i c1 c2 _
      rename Fr _ _ _ _ => F9
      rename News _ _ _ _ => N9
      refine TurnV.next F9 N9 off ⟨⟨by with_unfolding_all exact j1, by with_unfolding_all exact j2, by with_unfolding_all exact j3, by with_unfolding_all exact j4, by with_unfolding_all exact j5, by with_unfolding_all exact j6, by with_unfolding_all exact j7, by with_unfolding_all exact j8, ⟨tj, ?_⟩, rfl⟩, .inr ⟨_, hEL, rfl, _, rfl⟩⟩
      rw [htake, cntE_snoc, if_neg (by intro hh; first | omega | exact absurd hh.2 (by assumption))]
      rw [Int.add_zero]
      with_unfolding_all exact j9
    · rename_i c1 _
      rename Fr _ _ _ _ => F9
      rename News _ _ _ _ => N9
      refine TurnV.next F9 N9 off ⟨⟨by with_unfolding_all exact j1, by with_unfolding_all exact j2, by with_unfolding_all exact j3, by with_unfolding_all exact j4, by with_unfolding_all exact j5, by with_unfolding_all exact j6, by with_unfolding_all exact j7, by with_unfolding_all exact j8, ⟨tj, ?_⟩, rfl⟩, .inr ⟨_, hEL, rfl, _, rfl⟩⟩
      rw [htake, cntE_snoc, if_neg (by intro hh; first | omega | exact absurd hh.1 (by assumption))]
      rw [Int.add_zero]
      with_unfolding_all exact j9
  · rintro h tk m' news' F' N' hJ9
    refine and10 hJ9 fun j1 j2 j3 j4 j5 j6 j7 j8 q89 q99 => ?_
    obtain ⟨tj, j9⟩ := q89
    subst news'
    (try dsimp only)
    rw [List.size_toArray, List.length_map, List.take_length] at j9
    (repeat' (first | ((with_reducible show wpAny _ _ (eval (Expr.IfExp _ _ _ _) _) _ _ _); refine stop ?_) | ((fail_if_success (with_reducible refine Stop.go ?_)); (first | (k_unfold; (try dsimp only)) | (k_end; wrow_close) | walk1 | (dsimp only; walk1) | (leave1; walk_say "STEP leave1"; try dsimp only) | fail "no step"))))
    · refine hret _ _ _ _ (.inl ⟨.inr (by assumption), _, _, _, rfl, rfl⟩) (by k_asm) (by k_asm)
    rename_i hcnt
    refine Stop.go ?_
    (try k_fold)
    k_dflt refine (Spec.use (by k_asm) (by k_asm) (by k_asm) (by k_asm) (by k_asm) (by first | exact rfl | assumption) (side_spec (S := Sd) hM hdM m3 m4 hSd) (by ktr_room) (by ktr_units) ?_)
    k_dflt (intro v9 h9 tk9 news9 p9 F9 N9; obtain ⟨e9, e8⟩ := p9; subst e8; subst e9)
    (try dsimp only at F9 N9 ⊢)
    (try k_fold)
    (repeat' (first | ((with_reducible show wpAny _ _ (eval (Expr.IfExp _ _ _ _) _) _ _ _); refine stop ?_) | ((fail_if_success (with_reducible refine Stop.go ?_)); (first | (k_unfold; (try dsimp only)) | (k_end; wrow_close) | walk1 | (dsimp only; walk1) | (leave1; walk_say "STEP leave1"; try dsimp only) | fail "no step"))))
    refine Stop.go (cut (IsI (if nf = 0 then a else nf)) ?_ ?_)
    · refine IfExp_ ?_
      (repeat' (first | ((with_reducible show wpAny _ _ (eval (Expr.IfExp _ _ _ _) _) _ _ _); refine stop ?_) | ((fail_if_success (with_reducible refine Stop.go ?_)); (first | (k_unfold; (try dsimp only)) | (k_end; wrow_close) | walk1 | (dsimp only; walk1) | (leave1; walk_say "STEP leave1"; try dsimp only) | fail "no step"))))
      · exact ⟨⟨ta, by rw [if_pos (by assumption)]⟩, _, rfl⟩
      · exact ⟨⟨t5, by rw [if_neg (by assumption)]⟩, _, rfl⟩
    intro v9 tk9 r9
    obtain ⟨t9, e9⟩ := r9
    subst e9
    dsimp only
    (repeat' (first | ((with_reducible show wpAny _ _ (eval (Expr.IfExp _ _ _ _) _) _ _ _); refine stop ?_) | ((fail_if_success (with_reducible refine Stop.go ?_)); (first | (k_unfold; (try dsimp only)) | (k_end; wrow_close) | walk1 | (dsimp only; walk1) | (leave1; walk_say "STEP leave1"; try dsimp only) | fail "no step"))))
    refine Stop.go ?_
    (rename Fr _ _ _ _ => F4); (rename News _ _ _ _ => N4)
    obtain ⟨Dt, eDt⟩ := head_of N4
    subst eDt
    have lDt : ∀ p ∈ news9, p.1 < Dt := tail_lt (by assumption) (fun p hp => hp)
    refine For_L F4 rfl rfl ?_
    (repeat' (first | ((with_reducible show wpAny _ _ (eval (Expr.IfExp _ _ _ _) _) _ _ _); refine stop ?_) | ((fail_if_success (with_reducible refine Stop.go ?_)); (first | (k_unfold; (try dsimp only)) | (k_end; wrow_close) | walk1 | (dsimp only; walk1) | (leave1; walk_say "STEP leave1"; try dsimp only) | fail "no step"))))
    (rename Fr _ _ _ _ => F5); (rename News _ _ _ _ => N5)
    generalize hg0 : (if nf = 0 then a else nf) = g0 at *
    refine ⟨EL, (refs es).toArray, _, _, fun i m nw => m (Str.ofString "scene") = some (.ref Sc) ∧ m (Str.ofString "talk") = some (.ref M) ∧ m (Str.ofString "book") = some (.ref B) ∧ m (Str.ofString "timeout") = some (.int timeout t3) ∧ m (Str.ofString "t") = some (.ref Dt) ∧
        nw = (Dt, tupO [.int g0 t9, .int proto t1, .int c tc, .int e te, .int port t2]) :: news9 ∧ ∀ j x, j < i → es[j]? = some x → x.matches n z g0 proto c e port = false,
      rfl, rfl, F5, N5, .inr ⟨_, .tail _ hEL, rfl, _, rfl⟩, ⟨by with_unfolding_all exact j1, by with_unfolding_all exact j2, by with_unfolding_all exact j3, by with_unfolding_all exact j6, rfl, rfl, fun _ _ h => absurd h (Nat.not_lt_zero _)⟩, ?_, ?_⟩
    · rintro i v m₁ news₁ h tk I oI hv hJ9 S9 off F₁ N₁
      refine and7 hJ9 fun q1 q2 q3 q4 q5 q59 hno => ?_
      subst news₁
      (try dsimp only)
      have hi : i < es.length := by have := (Array.getElem?_eq_some_iff.mp hv).1; simpa using this
      have hx : es[i]? = some es[i] := List.getElem?_eq_getElem hi
      have hve : v = .ref es[i].e := by
        rw [List.getElem?_toArray, List.getElem?_map, hx] at hv
        exact (Option.some.inj hv).symm
      subst hve
      have hat := hes es[i] (List.getElem_mem hi)
      have hinst := hat.inst
      have hdict := hat.dict
      have htup := hat.tup
      generalize es[i] = x at *
      (repeat' (first | ((with_reducible show wpAny _ _ (eval (Expr.IfExp _ _ _ _) _) _ _ _); refine stop ?_) | ((fail_if_success (with_reducible refine Stop.go ?_)); (first | (k_unfold; (try dsimp only)) | (k_end; wrow_close) | walk1 | (dsimp only; walk1) | (leave1; walk_say "STEP leave1"; try dsimp only) | fail "no step"))))
      · rename_i c1 c2 c3 _ _
        (try dsimp only)
        (try refine TurnV.retd ?_)
        (try dsimp only)
        (repeat' (first | ((with_reducible show wpAny _ _ (eval (Expr.IfExp _ _ _ _) _) _ _ _); refine stop ?_) | ((fail_if_success (with_reducible refine Stop.go ?_)); (first | (k_unfold; (try dsimp only)) | (k_end; wrow_close) | walk1 | (dsimp only; walk1) | (leave1; walk_say "STEP leave1"; try dsimp only) | fail "no step"))))
        k_dflt refine hret _ _ _ _ (.inr ⟨by intro hh; rcases hh with hh | hh <;> contradiction, rfl, .inl ⟨i, x, _, ?_, hx, rfl⟩⟩) (by k_asm) (drop_led (by assumption) fun p hp => .tail _ (.tail _ hp))
        rw [List.findIdx?_eq_some_iff_getElem]
        refine ⟨hi, ?_, fun j hj => ?_⟩
        · rw [(List.getElem_eq_iff hi).mpr hx]; simp_all [ES.matches]
        · simpa using hno j _ hj (List.getElem?_eq_getElem (by omega))
      all_goals
        have hfx : x.matches n z g0 proto c e port = false := by simp_all [ES.matches]
        rename Fr _ _ _ _ => F9
        rename News _ _ _ _ => N9
        refine TurnV.next F9 N9 off ⟨⟨by with_unfolding_all exact q1, by with_unfolding_all exact q2, by with_unfolding_all exact q3, by with_unfolding_all exact q4, by with_unfolding_all exact q5, rfl, fun j y hj hy => ?_⟩, .inr ⟨_, .tail _ hEL, rfl, _, rfl⟩⟩
        rcases Nat.lt_succ_iff_lt_or_eq.mp hj with h | rfl
        · exact hno j y h hy
        · rw [hx] at hy; cases hy; exact hfx
    · rintro h tk m' news' F' N' hJ9
      refine and7 hJ9 fun q1 q2 q3 q4 q5 q59 hno => ?_
      subst news'
      (try dsimp only)
      (repeat' (first | ((with_reducible show wpAny _ _ (eval (Expr.IfExp _ _ _ _) _) _ _ _); refine stop ?_) | ((fail_if_success (with_reducible refine Stop.go ?_)); (first | (k_unfold; (try dsimp only)) | (k_end; wrow_close) | walk1 | (dsimp only; walk1) | (leave1; walk_say "STEP leave1"; try dsimp only) | fail "no step"))))
      refine hret _ _ _ _ (.inr ⟨by intro hh; rcases hh with hh | hh <;> contradiction, rfl, .inr ⟨?_, ⟨_, _, Dt, n, z, now + timeout, g0, proto, c, e, port, _, _, _, _, _, _, _, t9, t1, tc, te, t2⟩, rfl, rfl, rfl, rfl, rfl, rfl, rfl, rfl, rfl, lDt, ?_, ?_⟩⟩) (by k_asm) (by k_asm)
      · rw [List.findIdx?_eq_none_iff]
        intro x hx
        obtain ⟨j, hj, rfl⟩ := List.mem_iff_getElem.mp hx
        simpa using hno j _ (by simpa using hj) (List.getElem?_eq_getElem hj)
      all_goals (first | exact head_lt (by assumption) | ((try dsimp only); assumption))
/-! M11 -/
theorem isSome_of {α : Type} {x : Option α} {v : α} (h : x = some v) : x.isSome = true := by rw [h]; rfl
theorem isNone_of {α : Type} {x : Option α} (h : x = none) : x.isSome = false := by rw [h]; rfl
theorem lt_succ_all {d : Addr} {l : Led} (h : ∀ p ∈ l, p.1 < d) : ∀ p ∈ l, p.1 < d + 1 := fun p hp => Nat.lt_succ_of_lt (h p hp)
set_option genInjectivity false in
set_option genSizeOf false in
/-- a slot of the law's world, as it lies on the heap -/
structure SL where
  k : Addr
  b : Addr
  n : Int
  a0 : Int
  a1 : Int
  a2 : Int
  a3 : Int
  a4 : Int
  r : Int
  u : Int
  tn : Tok
  s0 : Tok
  s1 : Tok
  s2 : Tok
  s3 : Tok
  s4 : Tok
  tr : Tok
  tu : Tok
abbrev SL.key (x : SL) : SK := (x.n, [x.a0, x.a1, x.a2, x.a3, x.a4], x.r)
abbrev SL.ent (x : SL) : SK × Addr × Value := (x.key, x.k, .int x.u x.tu)
abbrev SL.ok (x : SL) : Obj := tupO [.int x.n x.tn, .ref x.b, .int x.r x.tr]
abbrev SL.ob (x : SL) : Obj := tupO [.int x.a0 x.s0, .int x.a1 x.s1, .int x.a2 x.s2, .int x.a3 x.s3, .int x.a4 x.s4]
structure SL.At (news : Led) (x : SL) : Prop where
  hk : (x.k, x.ok) ∈ news
  hb : (x.b, x.ob) ∈ news
abbrev sk (w : World) := slotKind Challenge.rw_pf0335_01.row.prog w
/-- the object of the slots -/
structure Slots (w : World) (o : Obj) (sl : List SL) : Prop where
  ex : o.ExactDict
  dat : ∃ es ep, o.data = .dict es ep ∧ es.toList = (sl.map SL.ent).map (entryOfKey (sk w))
  nd : (sl.map SL.key).Nodup
def putS (sl : List SL) (y : SL) : List SL := if sl.any (fun x => decide (x.key = y.key)) then sl.map (fun x => if x.key = y.key then { x with u := y.u, tu := y.tu } else x) else sl ++ [y]
def dropS (sl : List SL) (k : SK) : List SL := sl.filter fun x => decide (x.key ≠ k)
section
variable {w : World} {A : Around} {E : Value → Shared → Prop} {s : Shared} {h₀ h : Heap} {L SD : Addr} {m : Str → Option Value} {news : Led} {oS : Obj} {sl : List SL}
theorem SL.At.is {x : SL} (a : x.At news) (N : News h₀ L h news) : (sk w).is h x.key x.k :=
  ⟨_, _, _, (N _ a.hk).1, rfl, rfl, .cons (.int _ _) (.cons (.tup ⟨_, _, _, (N _ a.hb).1, rfl, rfl, .cons (intKind_is _ _ _ _) (.cons (intKind_is _ _ _ _) (.cons (intKind_is _ _ _ _) (.cons (intKind_is _ _ _ _) (.cons (intKind_is _ _ _ _) .nil))))⟩) (.cons (.int _ _) .nil))⟩
theorem ent_keys : (sl.map SL.ent).map (·.1) = sl.map SL.key := by rw [List.map_map]; rfl
theorem Slots.of (S : Slots w oS sl) (hm : (SD, oS) ∈ news) (hat : ∀ x ∈ sl, x.At news) (N : News h₀ L h news) : h.DictOfH (sk w) SD (sl.map SL.ent) := by
  obtain ⟨ex, ⟨es, ep, hd, he⟩, nd⟩ := S
  refine ⟨oS, es, ep, (N _ hm).1, ex, hd, he, fun x hx => ?_, by rw [ent_keys]; exact nd⟩
  obtain ⟨y, hy, rfl⟩ := List.mem_map.mp hx
  exact (hat y hy).is N
theorem at_ent {x : SL} (nd : (sl.map SL.key).Nodup) (hx : x ∈ sl) : atKey (sl.map SL.ent) x.key = some (x.k, .int x.u x.tu) := by
  obtain ⟨i, hi⟩ := List.mem_iff_getElem?.mp hx
  exact atKey_of_get (by rw [ent_keys]; exact nd) (i := i) (by rw [List.getElem?_map, hi]; rfl)
theorem Slots.back {h' : Heap} {sl' : List SL} (hm : h'.DictOfH (sk w) SD (sl'.map SL.ent)) : ∃ o', h'.get? SD = some o' ∧ Slots w o' sl' := by
  obtain ⟨o, es, ep, ho, ex, hd, he, _, nd⟩ := hm
  exact ⟨o, ho, ex, ⟨es, ep, hd, he⟩, by rw [← ent_keys]; exact nd⟩
theorem slot_item {value slice : PySem.Expr} {x : SL} {Q : Value → Shared → Prop} (N : News h₀ L s.heap news) (hm : (SD, oS) ∈ news) (S : Slots w oS sl) (hat : ∀ x ∈ sl, x.At news) (hx : x ∈ sl) (hu : A.units + 2 < cLine)
    (h : ∀ tk, Q (.int x.u x.tu) { s with toks := tk })
    (hs : subscripted slice false (.ref SD) (.ref x.k) = operate [.ref SD, .ref x.k] (getItem (.ref SD) (.ref x.k)) := by with_unfolding_all rfl) (hg : ∀ r, letTemporaryGo value (.ref SD) r = pure () := by intro _; with_unfolding_all rfl) :
    wpAny (model Challenge.rw_pf0335_01.row.prog w) A (subscriptTail value slice (.ref SD) (.ref x.k)) Q E s :=
  have hD := S.of hm hat N
  subscriptTail_builtin hD.typeIs slot_dict_getitem.lookup (wpAny_getItem_heap (knd := sk w) hu ((hat x hx).is N) hD (at_ent S.nd hx) (h _)) hs hg
theorem at_none {k : SK} (h : sl.any (fun x => decide (x.key = k)) = false) : atKey (sl.map SL.ent) k = none := by
  unfold atKey
  rw [List.find?_eq_none.mpr, Option.map_none]
  intro y hy
  obtain ⟨x, hx, rfl⟩ := List.mem_map.mp hy
  simpa using List.any_eq_false.mp h x hx
theorem stored_put (nd : (sl.map SL.key).Nodup) (y : SL) : storedH (sl.map SL.ent) y.key y.k (.int y.u y.tu) = (putS sl y).map SL.ent := by
  unfold putS
  cases e : sl.any (fun x => decide (x.key = y.key)) with
  | false => rw [storedH_new (at_none e), if_neg (by decide), List.map_append]; rfl
  | true =>
    obtain ⟨x, hx, hk⟩ := List.any_eq_true.mp e
    have hk := of_decide_eq_true hk
    have := at_ent nd hx
    rw [hk] at this
    rw [storedH_old this, if_pos rfl, List.map_map, List.map_map]
    refine List.map_congr_left fun z _ => ?_
    show putAt y.key _ z.ent = _
    unfold putAt
    by_cases c : z.key = y.key
    · rw [if_pos c]; simp only [Function.comp, if_pos c]
    · rw [if_neg c]; simp only [Function.comp, if_neg c]
theorem tup_ne_dict : (Value.type "tuple") ≠ (Value.type "dict") := by decide
theorem mem_set_ne {d : Addr} {o' : Obj} {l : Led} {p : Addr × Obj} (hp : p ∈ l) (h : p.1 ≠ d) : p ∈ setAt d o' l := List.mem_map.mpr ⟨p, hp, if_neg h⟩
theorem mem_set_self {d : Addr} {o o' : Obj} {l : Led} (hp : (d, o) ∈ l) : (d, o') ∈ setAt d o' l := List.mem_map.mpr ⟨_, hp, if_pos rfl⟩
theorem led_fn {h₀ h : Heap} {L : Addr} {news : Led} (N : News h₀ L h news) {a : Addr} {o o' : Obj} (h1 : (a, o) ∈ news) (h2 : (a, o') ∈ news) : o = o' := Option.some.inj ((N _ h1).1.symm.trans (N _ h2).1)
theorem led_ne {h₀ h : Heap} {L : Addr} {news : Led} (N : News h₀ L h news) {a b : Addr} {o o' : Obj} (h1 : (a, o) ∈ news) (h2 : (b, o') ∈ news) (h : o.cls ≠ o'.cls) : a ≠ b := fun e => h (by subst e; rw [led_fn N h1 h2])
theorem Slots.cls (S : Slots w oS sl) : oS.cls = .type "dict" := S.ex.1
theorem SL.At.set {x : SL} {o' : Obj} (a : x.At news) (N : News h₀ L h news) (hm : (SD, oS) ∈ news) (hc : oS.cls = .type "dict") : x.At (setAt SD o' news) :=
  ⟨mem_set_ne a.hk (led_ne N a.hk hm (by rw [hc]; exact tup_ne_dict)), mem_set_ne a.hb (led_ne N a.hb hm (by rw [hc]; exact tup_ne_dict))⟩
theorem slot_set {y : SL} {Q : Unit → Shared → Prop} (F : Fr h₀ L s.heap m) (N : News h₀ L s.heap news) (hm : (SD, oS) ∈ news) (S : Slots w oS sl) (hat : ∀ x ∈ sl, x.At news) (hy : y.At news) (hu : A.units + 2 < cLine) (hl : sl.length ≤ 100000)
    (h : ∀ h' tk oS', Fr h₀ L h' m → News h₀ L h' (setAt SD oS' news) → Slots w oS' (putS sl y) → y.At (setAt SD oS' news) → Q () { s with heap := h', toks := tk }) :
    wpAny (model Challenge.rw_pf0335_01.row.prog w) A (setItem (.ref SD) (.ref y.k) (.int y.u y.tu)) Q E s := by
  refine wpAny_setItem_heap (knd := sk w) hu (hy.is N) (S.of hm hat N) (fun h' hm' hs => ?_) (by rw [sizeLine_eq, List.length_map]; omega)
  rw [stored_put S.nd] at hm'
  obtain ⟨o', ho', S'⟩ := Slots.back hm'
  exact h h' _ o' (F.change hs (N _ hm).2.1 (N _ hm).2.2) (led_set N hm hs ho') S' (hy.set N hm S.cls)
theorem drop_ent (k : SK) : dropKey (sl.map SL.ent) k = (dropS sl k).map SL.ent := by
  unfold dropKey dropS
  rw [List.filter_map]
  rfl
theorem at_idx {x : SL} (hx : x ∈ sl) : ∃ j : Nat, (sl.map SL.ent)[j]? = some (x.key, x.k, Value.int x.u x.tu) := by
  obtain ⟨i, hi⟩ := List.mem_iff_getElem?.mp hx
  exact ⟨i, by rw [List.getElem?_map, hi]; rfl⟩
theorem slot_del {x : SL} {Q : Unit → Shared → Prop} (F : Fr h₀ L s.heap m) (N : News h₀ L s.heap news) (hm : (SD, oS) ∈ news) (S : Slots w oS sl) (hat : ∀ x ∈ sl, x.At news) (hx : x ∈ sl) (hxa : x.At news) (hu : A.units + 2 < cLine) (hl : sl.length ≤ 100000)
    (h : ∀ h' tk oS', Fr h₀ L h' m → News h₀ L h' (setAt SD oS' news) → Slots w oS' (dropS sl x.key) → Q () { s with heap := h', toks := tk }) :
    wpAny (model Challenge.rw_pf0335_01.row.prog w) A (delItem (.ref SD) (.ref x.k)) Q E s := by
  have hD := S.of hm hat N
  obtain ⟨j, hj⟩ := at_idx hx
  unfold delItem
  try with_reducible refine wpAny_holding ?_
  refine wpAny_bind (wpAny_sequenceKey hD.typeIs (by decide) ?_)
  refine wpAny_bind (wpAny_callSpecial?_slot (name := Str.ofString "__delitem__") hD.typeIs PySem.F.slot_dict_delitem
    (wpAny_call_entry PySem.F.slot_dict_delitem hD.typeIs PySem.F.entry_dict_delitem ?_ (PySem.F.args_dict_delitem_2 _ _)))
  refine delitem_heap (knd := sk w) hu (hxa.is N) hD hj (by rw [sizeLine_eq, List.length_map]; omega) (fun h' hm' hs => ?_)
  rw [drop_ent] at hm'
  obtain ⟨o', ho', S'⟩ := Slots.back hm'
  exact ⟨_, rfl, wpAny_pure (h h' _ o' (F.change hs (N _ hm).2.1 (N _ hm).2.2) (led_set N hm hs ho') S')⟩
theorem slot_pop {x : SL} {Q : Value → Shared → Prop} (F : Fr h₀ L s.heap m) (N : News h₀ L s.heap news) (hm : (SD, oS) ∈ news) (S : Slots w oS sl) (hat : ∀ x ∈ sl, x.At news) (hx : x ∈ sl) (hu : A.units + 2 < cLine) (hl : sl.length ≤ 100000)
    (h : ∀ h' tk oS', Fr h₀ L h' m → News h₀ L h' (setAt SD oS' news) → Slots w oS' (dropS sl x.key) → Q (.int x.u x.tu) { s with heap := h', toks := tk }) :
    wpAny (model Challenge.rw_pf0335_01.row.prog w) A (call (.builtin "dict.pop") [.ref SD, .ref x.k]) Q E s := by
  have hD := S.of hm hat N
  obtain ⟨j, hj⟩ := at_idx hx
  refine wpAny_call_entry PySem.F.slot_dict_pop hD.typeIs PySem.F.entry_dict_pop ?_ (PySem.F.args_dict_pop_2 _ _)
  refine pop_heap (knd := sk w) hu ((hat x hx).is N) hD hj (by rw [sizeLine_eq, List.length_map]; omega) (fun h' hm' hs => ?_)
  rw [drop_ent] at hm'
  obtain ⟨o', ho', S'⟩ := Slots.back hm'
  exact ⟨_, rfl, h h' _ o' (F.change hs (N _ hm).2.1 (N _ hm).2.2) (led_set N hm hs ho') S'⟩
theorem SL.At.mono {x : SL} {news' : Led} (a : x.At news) (h : ∀ p ∈ news, p ∈ news') : x.At news' := ⟨h _ a.hk, h _ a.hb⟩
theorem slot_item2 {news₀ : Led} {value slice : PySem.Expr} {x : SL} {Q : Value → Shared → Prop} (N : News h₀ L s.heap news) (hm : (SD, oS) ∈ news) (S : Slots w oS sl) (hat : ∀ x ∈ sl, x.At news₀) (hx : x ∈ sl) (hsub : ∀ p ∈ news₀, p ∈ news) (hu : A.units + 2 < cLine)
    (h : ∀ tk, Q (.int x.u x.tu) { s with toks := tk })
    (hs : subscripted slice false (.ref SD) (.ref x.k) = operate [.ref SD, .ref x.k] (getItem (.ref SD) (.ref x.k)) := by with_unfolding_all rfl) (hg : ∀ r, letTemporaryGo value (.ref SD) r = pure () := by intro _; with_unfolding_all rfl) :
    wpAny (model Challenge.rw_pf0335_01.row.prog w) A (subscriptTail value slice (.ref SD) (.ref x.k)) Q E s := slot_item N hm S (fun x hx => (hat x hx).mono hsub) hx hu h hs hg
theorem Slots.src (S : Slots w oS sl) (hm : (SD, oS) ∈ news) : ∃ (es : Array DictEntry) (ep : Nat), DictSrc SD es ep news ∧ es.size = sl.length ∧ ∀ (i : Nat) (e : DictEntry), es[i]? = some e → ∀ x, sl[i]? = some x → e.key = Value.ref x.k := by
  obtain ⟨ex, ⟨es, ep, hd, he⟩, nd⟩ := S
  refine ⟨es, ep, ⟨oS, hm, ex, hd⟩, by rw [size_of_entries he, List.length_map], fun i e h1 x h2 => ?_⟩
  rw [entry_at he, List.getElem?_map, h2] at h1
  exact (Option.some.inj h1) ▸ rfl
end
theorem DictSrc.mono {d : Addr} {es : Array DictEntry} {ep : Nat} {news news' : Led} (x : DictSrc d es ep news) (h : ∀ p ∈ news, p ∈ news') : DictSrc d es ep news' := let ⟨o, hm, r⟩ := x; ⟨o, h _ hm, r⟩
open LCg LCt in
theorem ListComp_fT {prog : Program} {w : World} {A : Around} {E : Value → Shared → Prop} {s : Shared} {h₀ : Heap} {L : Addr} {m : Str → Option Value} {env : Env} {ct elt iter : Expr} {x : Str} {px : Pos} {scope : Scope} {cl : List (Str × Addr)} {pos : Pos} {Q : Value → Shared → Prop} (_F : Fr h₀ L s.heap m)
    (hclos : closureFor scope env = pure cl) (hcell : ∀ y ∈ scope.names, y.2 ≠ .cell) (hkind : scope.kind = .function)
    (hnames : ∀ y ∈ scope.names, y.2 = .local → scope.names.lookup y.1 = some .local) (hx : scope.names.lookup x = some .local)
    (h : wpAny (model prog w) A (eval iter env) (fun xv s₁ => wpAny (model prog w) A (pyIter xv)
      (CompAt prog w A h₀ L m fun s₂ S P n news => CompRestT prog w A h₀ L m env ct elt x scope cl s₂ S P (FinE h₀ L m s₂ Q) n 0 [] news) E s₁) E s)
    (hs : ∀ x, foldedSetIterable iter env x = pure x := by intro _; rfl) :
    wpAny (model prog w) A (eval (.ListComp elt [⟨.Name x px, iter, [ct], 0⟩] scope pos) env) Q E s := ListComp_gT hclos hcell hkind hnames hx h hs
open LCg LCt in
theorem ListComp_fU {prog : Program} {w : World} {A : Around} {E : Value → Shared → Prop} {s : Shared} {h₀ : Heap} {L : Addr} {m : Str → Option Value} {env : Env} {elt iter : Expr} {x : Str} {px : Pos} {scope : Scope} {cl : List (Str × Addr)} {pos : Pos} {Q : Value → Shared → Prop} (_F : Fr h₀ L s.heap m)
    (hclos : closureFor scope env = pure cl) (hcell : ∀ y ∈ scope.names, y.2 ≠ .cell) (hkind : scope.kind = .function)
    (hnames : ∀ y ∈ scope.names, y.2 = .local → scope.names.lookup y.1 = some .local) (hx : scope.names.lookup x = some .local)
    (h : wpAny (model prog w) A (eval iter env) (fun xv s₁ => wpAny (model prog w) A (pyIter xv)
      (CompAt prog w A h₀ L m fun s₂ S P n news => CompRest prog w A h₀ L m env elt x scope cl s₂ S P (FinE h₀ L m s₂ Q) n 0 [] news) E s₁) E s)
    (hs : ∀ x, foldedSetIterable iter env x = pure x := by intro _; rfl) :
    wpAny (model prog w) A (eval (.ListComp elt [⟨.Name x px, iter, [], 0⟩] scope pos) env) Q E s := ListComp_gU hclos hcell hkind hnames hx h hs
open LCg LCt in
theorem Assign_fT {prog : Program} {w : World} {A : Around} {E : Value → Shared → Prop} {s : Shared} {h₀ : Heap} {L : Addr} {m : Str → Option Value} {env : Env} {ct elt iter : Expr} {x y : Str} {px py : Pos} {scope : Scope} {cl : List (Str × Addr)} {pos spos : Pos} {Q : Flow → Shared → Prop} (_F : Fr h₀ L s.heap m) (hLe : env.locals = L)
    (hsw : swapsWith (.ListComp elt [⟨.Name x px, iter, [ct], 0⟩] scope pos) (some (.Name y py)) spos.line env = pure true)
    (hclos : closureFor scope env = pure cl) (hcell : ∀ z ∈ scope.names, z.2 ≠ .cell) (hkind : scope.kind = .function)
    (hnames : ∀ z ∈ scope.names, z.2 = .local → scope.names.lookup z.1 = some .local) (hx : scope.names.lookup x = some .local)
    (hy : env.kindOf y = some .local) (hp : (env.scope.kind == .class || (env.scope.kind == .module && env.locals != env.globals)) = false)
    (h : wpAny (model prog w) A (eval iter env) (fun xv s₁ => wpAny (model prog w) A (pyIter xv)
      (CompAt prog w A h₀ L m fun s₂ S P n news => CompRestT prog w A h₀ L m env ct elt x scope cl s₂ S P (FinA h₀ L m s₂ y Q) n 0 [] news) E s₁) E s)
    (hs : ∀ x, foldedSetIterable iter env x = pure x := by intro _; rfl) :
    wpAny (model prog w) A (exec (.Assign [.Name y py] (.ListComp elt [⟨.Name x px, iter, [ct], 0⟩] scope pos) spos) env) Q E s := Assign_gT hLe hsw hclos hcell hkind hnames hx hy hp h hs
theorem pair_item {prog : Program} {w : World} {A : Around} {E : Value → Shared → Prop} {s : Shared} {h₀ : Heap} {L : Addr} {news : Led} {value slice : PySem.Expr} {a x y z : Addr} {k : Int} {u : Tok} {Q : Value → Shared → Prop} (N : News h₀ L s.heap news) (hm : (a, tupO [.ref x, .ref y]) ∈ news) (hz : z = if k = 0 then x else y) (h0 : 0 ≤ k) (hk : k < 2)
    (h : Q (.ref z) s)
    (hs : subscripted slice false (.ref a) (.int k u) = operate [.ref a, .int k u] (getItem (.ref a) (.int k u)) := by with_unfolding_all rfl) :
    wpAny (model prog w) A (subscriptTail value slice (.ref a) (.int k u)) Q E s := by
  have t : IsTup s.heap a ([.ref x, .ref y] : List Value).toArray := ⟨_, (N _ hm).1, rfl, _, rfl⟩
  subst hz
  by_cases c : k = 0
  · subst c
    rw [if_pos rfl] at h
    exact item_tupleT (j := 0) t (by omega) (by omega) rfl rfl h hs
  · obtain rfl : k = 1 := by omega
    rw [if_neg (by decide)] at h
    exact item_tupleT (j := 1) t (by omega) (by omega) rfl rfl h hs
/-! M12 -/
local macro_rules | `(tactic| k_all) => `(tactic| (first
  | exact List.forall_mem_nil _
  | (refine tail_ne (by assumption) ?_; intro p hp; (repeat (first | exact hp | refine List.Mem.tail _ ?_)); done)
  | ((repeat (refine List.forall_mem_cons.mpr (And.intro ?_ ?_); (focus k_ne))); first | (intro p hp; exact absurd hp List.not_mem_nil) | (refine tail_ne (by assumption) ?_; intro p hp; (repeat (first | exact hp | refine List.Mem.tail _ ?_)); done))))
local macro_rules | `(tactic| walk_at "eval ListComp") => `(tactic| ((with_reducible show wpAny _ _ (eval (Expr.ListComp _ _ _ _) _) _ _ _); refine stop ?_))
local macro_rules | `(tactic| k_steps) => `(tactic| repeat' ((fail_if_success (with_reducible refine Stop.go ?_)); (first | (k_unfold; (try dsimp only)) | (k_end; wrow_close) | walk1 | (dsimp only; walk1) | (leave1; walk_say "STEP leave1"; try dsimp only) | fail "no step")))
local macro_rules | `(tactic| walk_at "storeName") => `(tactic| (k_here; k_dflt (refine' storeX_C ?F ?N ?c ?U ?d ?_ ?a ?b; (case a => rfl); (case b => rfl); (case F => k_asm); (case N => k_asm); (case c => rfl); (case U => k_updF); (case d => k_asm); k_whole); intro h' o' F' N' d'; (try dsimp only at N' ⊢); (try k_fold); (try k_sweep)))
local macro_rules | `(tactic| walk_at "pyIter ref") => `(tactic| ((with_reducible show wpAny _ _ (pyIter (Value.ref _)) (CompAt _ _ _ _ _ _ _) _ _); refine stop ?_))
local macro_rules | `(tactic| walk_at "subscriptTail") => `(tactic| (k_here; first
  | ((with_reducible show wpAny _ _ (subscriptTail _ _ (Value.ref _) (Value.str _ _)) _ _ _); k_dflt (refine kda_item (knd := PySem.strKind _ _) (by k_asm) (by k_mem) (by assumption) (strKind_is _ _ _ _) (by first | assumption | rfl) ?_); (try dsimp only))
  | ((with_reducible show wpAny _ _ (subscriptTail _ _ (Value.ref _) (Value.int _ _)) _ _ _); k_dflt (refine kda_item (knd := PySem.intKind _ _) (by k_asm) (by k_mem) (by assumption) (intKind_is _ _ _ _) (by assumption) ?_))))
local macro_rules | `(tactic| walk_at "getMethod ref") => `(tactic| (k_here; (with_reducible show wpAny _ _ (getMethod (Value.ref _) (Str.ofString "get") _) _ _ _); k_dflt (first
  | refine kdg_method (knd := PySem.intKind _ _) (by k_asm) (by k_mem) (by assumption) ?_
  | refine kdg_method (knd := PySem.strKind _ _) (by k_asm) (by k_mem) (by assumption) ?_)))
local macro_rules | `(tactic| walk_at "call builtin:dict.get") => `(tactic| (k_here; k_dflt (first
  | refine kdg_get1 (knd := PySem.intKind _ _) (by k_asm) (by k_mem) (by assumption) (by assumption) (intKind_is _ _ _ _) _ (by assumption) ?_
  | refine kdg_get1 (knd := PySem.strKind _ _) (by k_asm) (by k_mem) (by assumption) (by assumption) (strKind_is _ _ _ _) _ (by assumption) ?_); (try dsimp only [Option.getD])))
local macro_rules | `(tactic| walk_at "compareOp NotIn str ref") => `(tactic| (k_here; k_dflt (first
  | refine kdg_notin (knd := PySem.strKind _ _) (by k_asm) (by k_mem) (by assumption) (by assumption) (strKind_is _ _ _ _) true (isSome_of (by assumption)) ?_
  | refine kdg_notin (knd := PySem.strKind _ _) (by k_asm) (by k_mem) (by assumption) (by assumption) (strKind_is _ _ _ _) false (isNone_of (by assumption)) ?_); (try dsimp only [Bool.not_true, Bool.not_false])))
local macro_rules | `(tactic| walk_at "subscriptTail") => `(tactic| (k_here; (with_reducible show wpAny _ _ (subscriptTail _ _ (Value.ref _) (Value.int _ _)) _ _ _); k_dflt (refine pair_item (by k_asm) (by k_mem) (by assumption) (by omega) (by omega) ?_)))
def cntS (sl : List SL) (n now : Int) : Int := ((sl.filter fun x => decide (x.n = n) && decide (now < x.u)).length : Nat)
def RequestPost (w : World) (news : Led) (SD : Addr) (sl : List SL) (n st now timeout most t0 t1 t2 t3 t4 : Int) (v : Value) (news' : Led) : Prop :=
  (((st.fdiv 8).fmod 2 = 1 ∨ 512 ≤ st ∨ most ≤ cntS sl n now) ∧ ∃ b t u, v = .ref b ∧ (b, brk t u) ∈ news' ∧ ∀ p ∈ news, p ∈ news') ∨
  (¬ ((st.fdiv 8).fmod 2 = 1 ∨ 512 ≤ st ∨ most ≤ cntS sl n now) ∧ v = .none ∧ ∃ (y : SL) (oS' : Obj), y.key = (n, [t0, t1, t2, t3, t4], 0) ∧ y.u = now + timeout ∧ (SD, oS') ∈ news' ∧ Slots w oS' (putS sl y) ∧ y.At news' ∧ ∀ p ∈ news, p.1 ≠ SD → p ∈ news')
theorem request_spec {w mean mg mb base} {news : Led} {W TK NM T Ed Th Ba SD S Sd : Addr} {oW oTK oNM oT oS : Obj} {tkl : List (Int × Value)} {nml : List (Str × Value)} {sl : List SL} {nm : Str} {n way now z st proto port timeout most nf a b c d e f : Int}
    {tnm tn tway tnow tz ts t1 t2 t3 t4 t5 ta tb tc td te tf : Tok}
    (hW : (W, oW) ∈ news) (dW : oW.IsDictOf (sKind w) [(Str.ofString "talks", .ref TK), (Str.ofString "names", .ref NM), (Str.ofString "slots", .ref SD)])
    (hTK : (TK, oTK) ∈ news) (dTK : oTK.IsDictOf (intKind Challenge.rw_pf0335_01.row.prog w) tkl) (vT : valueAt tkl n = some (.ref T)) (lTK : (TK == sysModules) = false)
    (hNM : (NM, oNM) ∈ news) (dNM : oNM.IsDictOf (sKind w) nml) (vN : valueAt nml nm = some (.ref S)) (lNM : (NM == sysModules) = false)
    (hT : (T, oT) ∈ news) (dT : oT.IsDictOf (sKind w) [(Str.ofString "zone", .int z tz), (Str.ofString "status", .int st ts), (Str.ofString "ends", .ref Ed)])
    (hEd : (Ed, tupO [.ref Th, .ref Ba]) ∈ news)
    (hS5 : (S, tupO [.int proto t1, .int port t2, .int timeout t3, .int most t4, .int nf t5]) ∈ news)
    (hSD : (SD, oS) ∈ news) (lSD : (SD == sysModules) = false) (hS : Slots w oS sl) (hat : ∀ x ∈ sl, x.At news) (hlen : sl.length ≤ 1000)
    (hway : 0 ≤ way ∧ way < 2) (hst : 0 ≤ st ∧ st < 1024)
    (hSd : Sd = if 1 - way = 0 then Th else Ba) (hSdt : (Sd, tupO [.int a ta, .int b tb, .int c tc, .int d td, .int e te, .int f tf]) ∈ news) :
    Spec 8 w mean mg mb base 187 [.ref W, .int n tn, .int way tway, .str nm tnm, .int now tnow] news (RequestPost w news SD sl n st now timeout most (if nf = 0 then a else nf) proto c e port) := by
  intro dp un gd cn cs a9 ccd cl outer A₀ h₀ L m h8 g8 d8 T8 os8 Q E B9 F X N T hk hd hu hret
  refine wpAny_call ?_
  k_dflt (refine' code_defC ?k1 ?k2 ?k3 ?k4 ?k5 ?kA ?kF ?kK ?k6 ?k7 ?k8 ?k9 ?kB ?kD ?_ ?c2 ?c3 ?c4; (case kA => exact rfl); (case kF => exact rfl); (case kK => assumption); (case k1 => k_asm); (case k2 => k_asm); (case k3 => k_asm); (case k4 => k_asm); (case k5 => k_asm); (case k6 => k_is); (case k7 => k_is); (case k8 => ktr_room); (case k9 => exact BindsTo.of_eq rfl); (case kB => exact rfl); (case kD => decide +kernel); (case c2 => exact rfl); (case c3 => exact rfl); (case c4 => exact rfl); k_whole; intro g' L' h' tk' cells' FG' F' N' Y' B' X' T' l1; (try k_lt l1); k_cells Y'; (try simp only [List.cons_append, List.nil_append] at N'); (try (have l1a := lt_succ_all l1; have l1b := lt_succ_all l1a; have l1c := lt_succ_all l1b; have l1d := lt_succ_all l1c; have l1e := lt_succ_all l1d; have l1f := lt_succ_all l1e)); (try dsimp only); (try k_lift B'); (try k_fold))
  refine @shut _ _ _ h₀ L m _ _ _ _ _ _ _ _ _ _ _ _ _ _ _ _ _ _ Q _ _ _ _ hret hd hu (by assumption) (fun _ _ h => h) (fun _ _ h => h) fun dp un gd outer A₀ tkS Q E Bw hd hu hret hnext => ?_
  have hG : GDO g8 d8 os8 := trivial
  (repeat' (first | (k_here; (with_reducible show wpAny _ _ (subscriptTail _ _ (Value.ref _) (Value.ref _)) _ _ _); k_dflt (refine slot_item2 (by k_asm) (by k_mem) (by assumption) (by assumption) (by assumption) (by intro pQ hpQ; (repeat (first | exact hpQ | refine List.Mem.tail _ ?_)); done) (by first | ktr_room | ktr_units) ?_); intro tkQ) | ((fail_if_success (with_reducible refine Stop.go ?_)); (first | (k_unfold; (try dsimp only)) | (k_end; wrow_close) | walk1 | (dsimp only; walk1) | (leave1; walk_say "STEP leave1"; try dsimp only) | fail "no step"))))
  · refine hret _ _ _ _ ?_ (by k_asm) (by k_asm)
    refine .inl ⟨.inl (by assumption), _, _, _, rfl, by k_mem, by intro p hp; (repeat (first | exact hp | refine List.Mem.tail _ ?_)); done⟩
  · refine hret _ _ _ _ ?_ (by k_asm) (by k_asm)
    refine .inl ⟨.inr (.inl (by assumption)), _, _, _, rfl, by k_mem, by intro p hp; (repeat (first | exact hp | refine List.Mem.tail _ ?_)); done⟩
  refine Stop.go ?_
  (rename Fr _ _ _ _ => F2); (rename News _ _ _ _ => N2)
  obtain ⟨es9, ep9, src9, size9, keys9⟩ := hS.src (SD := SD) hSD
  k_dflt (refine ListComp_fT F2 (by with_unfolding_all rfl) (by decide) (by rfl) (by decide) (by rfl) ?_)
  (repeat' (first | (k_here; (with_reducible show wpAny _ _ (subscriptTail _ _ (Value.ref _) (Value.ref _)) _ _ _); k_dflt (refine slot_item2 (by k_asm) (by k_mem) (by assumption) (by assumption) (by assumption) (by intro pQ hpQ; (repeat (first | exact hpQ | refine List.Mem.tail _ ?_)); done) (by first | ktr_room | ktr_units) ?_); intro tkQ) | ((fail_if_success (with_reducible refine Stop.go ?_)); (first | (k_unfold; (try dsimp only)) | (k_end; wrow_close) | walk1 | (dsimp only; walk1) | (leave1; walk_say "STEP leave1"; try dsimp only) | fail "no step"))))
  refine Stop.go ?_
  k_dflt (refine compAt_dict (by rfl) lSD (by k_asm) (by k_asm) (es := es9) (ep := ep9) ?_ (by rw [sizeLine_eq, size9]; omega) ?_)
  · exact src9.mono (by intro p hp; (repeat (first | exact hp | refine List.Mem.tail _ ?_)); done)
  intro g9
  rw [size9]
  refine filter_rest sl (fun x => .ref x.k) (fun x => decide (x.n = n) && decide (now < x.u)) (by rfl) (by rfl) (by decide) ?_ ?_ ?_ ?_
  · rintro i v ⟨e, he, rfl⟩ a ha
    exact keys9 i e he a ha
  · exact src9.mono (by intro p hp; (repeat (first | exact hp | refine List.Mem.tail _ ?_)); done)
  · intro x I oI C oC D m₂ h tk ys hx hN hxv F9 N9 off ne
    have hk9 := (hat x hx).hk
    (repeat' (first | (k_here; (with_reducible show wpAny _ _ (subscriptTail _ _ (Value.ref _) (Value.ref _)) _ _ _); k_dflt (refine slot_item2 (by k_asm) (by k_mem) (by assumption) (by assumption) (by assumption) (by intro pQ hpQ; (repeat (first | exact hpQ | refine List.Mem.tail _ ?_)); done) (by first | ktr_room | ktr_units) ?_); intro tkQ) | ((fail_if_success (with_reducible refine Stop.go ?_)); (first | (k_unfold; (try dsimp only)) | (k_end; wrow_close) | walk1 | (dsimp only; walk1) | (leave1; walk_say "STEP leave1"; try dsimp only) | fail "no step"))))
    all_goals first
      | exact F9
      | exact N9
      | (symm; rw [Bool.and_eq_true, decide_eq_true_eq, decide_eq_true_eq]; constructor <;> omega)
      | (symm; rw [Bool.and_eq_false_iff, decide_eq_false_iff_not, decide_eq_false_iff_not]; omega)
  have hz9 : ((sl.filter fun x => decide (x.n = n) && decide (now < x.u)).map fun x => Value.ref x.k).toArray.size ≤ 100000 := by
    have := List.length_filter_le (fun x : SL => decide (x.n = n) && decide (now < x.u)) sl
    simp; omega
  have hcn9 : (((sl.filter fun x => decide (x.n = n) && decide (now < x.u)).map fun x => Value.ref x.k).toArray.size : Int) = cntS sl n now := by unfold cntS; simp
  (unfold LCg.FinE); intro D' h' tk' F' N' o1'; (try simp only [List.nil_append, List.cons_append] at N'); (try dsimp only at F' N' ⊢); (try k_fold)
  (repeat' (first | (k_here; (with_reducible show wpAny _ _ (subscriptTail _ _ (Value.ref _) (Value.ref _)) _ _ _); k_dflt (refine slot_item2 (by k_asm) (by k_mem) (by assumption) (by assumption) (by assumption) (by intro pQ hpQ; (repeat (first | exact hpQ | refine List.Mem.tail _ ?_)); done) (by first | ktr_room | ktr_units) ?_); intro tkQ) | ((fail_if_success (with_reducible refine Stop.go ?_)); (first | (k_unfold; (try dsimp only)) | (k_end; wrow_close) | walk1 | (dsimp only; walk1) | (leave1; walk_say "STEP leave1"; try dsimp only) | fail "no step"))))
  · refine hret _ _ _ _ ?_ (by k_asm) (by k_asm)
    refine .inl ⟨.inr (.inr ?_), _, _, _, rfl, by k_mem, by intro p hp; (repeat (first | exact hp | refine List.Mem.tail _ ?_)); done⟩
    rw [← hcn9]; assumption
  · k_dflt refine slot_set (y := ⟨_, _, n, _, proto, c, e, port, 0, now + timeout, _, _, _, _, _, _, _, _⟩) (by k_asm) (by k_asm) (by k_mem) hS (fun x hx => (hat x hx).mono (by intro p hp; (repeat (first | exact hp | refine List.Mem.tail _ ?_)); done)) ⟨by k_mem, by k_mem⟩ (by ktr_units) (by omega) ?_
    intro h' tk oS' F' N' S' y'
    (repeat' (first | (k_here; (with_reducible show wpAny _ _ (subscriptTail _ _ (Value.ref _) (Value.ref _)) _ _ _); k_dflt (refine slot_item2 (by k_asm) (by k_mem) (by assumption) (by assumption) (by assumption) (by intro pQ hpQ; (repeat (first | exact hpQ | refine List.Mem.tail _ ?_)); done) (by first | ktr_room | ktr_units) ?_); intro tkQ) | ((fail_if_success (with_reducible refine Stop.go ?_)); (first | (k_unfold; (try dsimp only)) | (k_end; wrow_close) | walk1 | (dsimp only; walk1) | (leave1; walk_say "STEP leave1"; try dsimp only) | fail "no step"))))
    k_dflt refine hret _ _ _ _ ?_ (by k_asm) (by k_asm)
    refine .inr ⟨?_, rfl, _, _, ?_, rfl, mem_set_self (by k_mem), S', y', fun p hp hne => mem_set_ne (by (repeat (first | exact hp | refine List.Mem.tail _ ?_)); done) hne⟩
    · rintro (hh | hh | hh)
      · contradiction
      · contradiction
      · rw [← hcn9] at hh; contradiction
    · rw [if_neg (by assumption)]
  · k_dflt refine slot_set (y := ⟨_, _, n, _, proto, c, e, port, 0, now + timeout, _, _, _, _, _, _, _, _⟩) (by k_asm) (by k_asm) (by k_mem) hS (fun x hx => (hat x hx).mono (by intro p hp; (repeat (first | exact hp | refine List.Mem.tail _ ?_)); done)) ⟨by k_mem, by k_mem⟩ (by ktr_units) (by omega) ?_
    intro h' tk oS' F' N' S' y'
    (repeat' (first | (k_here; (with_reducible show wpAny _ _ (subscriptTail _ _ (Value.ref _) (Value.ref _)) _ _ _); k_dflt (refine slot_item2 (by k_asm) (by k_mem) (by assumption) (by assumption) (by assumption) (by intro pQ hpQ; (repeat (first | exact hpQ | refine List.Mem.tail _ ?_)); done) (by first | ktr_room | ktr_units) ?_); intro tkQ) | ((fail_if_success (with_reducible refine Stop.go ?_)); (first | (k_unfold; (try dsimp only)) | (k_end; wrow_close) | walk1 | (dsimp only; walk1) | (leave1; walk_say "STEP leave1"; try dsimp only) | fail "no step"))))
    k_dflt refine hret _ _ _ _ ?_ (by k_asm) (by k_asm)
    refine .inr ⟨?_, rfl, _, _, ?_, rfl, mem_set_self (by k_mem), S', y', fun p hp hne => mem_set_ne (by (repeat (first | exact hp | refine List.Mem.tail _ ?_)); done) hne⟩
    · rintro (hh | hh | hh)
      · contradiction
      · contradiction
      · rw [← hcn9] at hh; contradiction
    · rw [if_pos (by assumption)]
/-! M13 -/
theorem request_none {w mean mg mb base} {news : Led} {W TK NM SD : Addr} {oW oTK oNM : Obj} {tkl : List (Int × Value)} {nml : List (Str × Value)} {nm : Str} {n way now : Int}
    {tnm tn tway tnow : Tok}
    (hW : (W, oW) ∈ news) (dW : oW.IsDictOf (sKind w) [(Str.ofString "talks", .ref TK), (Str.ofString "names", .ref NM), (Str.ofString "slots", .ref SD)])
    (hTK : (TK, oTK) ∈ news) (dTK : oTK.IsDictOf (intKind Challenge.rw_pf0335_01.row.prog w) tkl) (lTK : (TK == sysModules) = false)
    (hNM : (NM, oNM) ∈ news) (dNM : oNM.IsDictOf (sKind w) nml) (lNM : (NM == sysModules) = false)
    (hno : (valueAt nml nm = none ∧ (valueAt tkl n = none ∨ ∃ T, valueAt tkl n = some (.ref T))) ∨ (valueAt tkl n = none ∧ ∃ S, valueAt nml nm = some (.ref S))) :
    Spec 8 w mean mg mb base 187 [.ref W, .int n tn, .int way tway, .str nm tnm, .int now tnow] news (fun v news' => ∃ b t u, v = .ref b ∧ (b, brk t u) ∈ news' ∧ ∀ p ∈ news, p ∈ news') := by
  intro dp un gd cn cs a9 ccd cl outer A₀ h₀ L m h8 g8 d8 T8 os8 Q E B9 F X N T hk hd hu hret
  refine wpAny_call ?_
  k_dflt (refine' code_defC ?k1 ?k2 ?k3 ?k4 ?k5 ?kA ?kF ?kK ?k6 ?k7 ?k8 ?k9 ?kB ?kD ?_ ?c2 ?c3 ?c4; (case kA => exact rfl); (case kF => exact rfl); (case kK => assumption); (case k1 => k_asm); (case k2 => k_asm); (case k3 => k_asm); (case k4 => k_asm); (case k5 => k_asm); (case k6 => k_is); (case k7 => k_is); (case k8 => ktr_room); (case k9 => exact BindsTo.of_eq rfl); (case kB => exact rfl); (case kD => decide +kernel); (case c2 => exact rfl); (case c3 => exact rfl); (case c4 => exact rfl); k_whole; intro g' L' h' tk' cells' FG' F' N' Y' B' X' T' l1; (try k_lt l1); k_cells Y'; (try simp only [List.cons_append, List.nil_append] at N'); (try (have l1a := lt_succ_all l1; have l1b := lt_succ_all l1a; have l1c := lt_succ_all l1b; have l1d := lt_succ_all l1c; have l1e := lt_succ_all l1d; have l1f := lt_succ_all l1e)); (try dsimp only); (try k_lift B'); (try k_fold))
  refine @shut _ _ _ h₀ L m _ _ _ _ _ _ _ _ _ _ _ _ _ _ _ _ _ _ Q _ _ _ _ hret hd hu (by assumption) (fun _ _ h => h) (fun _ _ h => h) fun dp un gd outer A₀ tkS Q E Bw hd hu hret hnext => ?_
  have hG : GDO g8 d8 os8 := trivial
  rcases hno with ⟨h1, h2 | ⟨T, h2⟩⟩ | ⟨h2, S, h1⟩
  all_goals k_steps
  all_goals
    k_dflt refine hret _ _ _ _ ?_ (by k_asm) (by k_asm)
    refine ⟨_, _, _, rfl, by k_mem, by intro p hp; (repeat (first | exact hp | refine List.Mem.tail _ ?_)); done⟩
/-! M14 -/
/-- an item of the objects: the key is a pair of texts -/
structure OL where
  a : Addr
  k0 : Str
  k1 : Str
  t0 : Tok
  t1 : Tok
  v : Value
abbrev OL.key (x : OL) : List Str := [x.k0, x.k1]
abbrev OL.ent (x : OL) : List Str × Addr × Value := (x.key, x.a, x.v)
abbrev OL.ok (x : OL) : Obj := tupO [.str x.k0 x.t0, .str x.k1 x.t1]
def OL.At (news : Led) (x : OL) : Prop := (x.a, x.ok) ∈ news
abbrev okd (w : World) := tupleKind (PySem.strKind Challenge.rw_pf0335_01.row.prog w)
structure Objs (w : World) (o : Obj) (ol : List OL) : Prop where
  ex : o.ExactDict
  dat : ∃ es ep, o.data = .dict es ep ∧ es.toList = (ol.map OL.ent).map (entryOfKey (okd w))
  nd : (ol.map OL.key).Nodup
section
variable {w : World} {A : Around} {E : Value → Shared → Prop} {s : Shared} {h₀ h : Heap} {L OD SD : Addr} {m : Str → Option Value} {news : Led} {oO oS : Obj} {ol : List OL} {sl : List SL}
theorem OL.At.is {x : OL} (a : x.At news) (N : News h₀ L h news) : (okd w).is h x.key x.a :=
  ⟨_, _, _, (N _ a).1, rfl, rfl, .cons (strKind_is _ _ _ _) (.cons (strKind_is _ _ _ _) .nil)⟩
theorem oent_keys : (ol.map OL.ent).map (·.1) = ol.map OL.key := by rw [List.map_map]; rfl
theorem Objs.of (S : Objs w oO ol) (hm : (OD, oO) ∈ news) (hat : ∀ x ∈ ol, x.At news) (N : News h₀ L h news) : h.DictOfH (okd w) OD (ol.map OL.ent) := by
  obtain ⟨ex, ⟨es, ep, hd, he⟩, nd⟩ := S
  refine ⟨oO, es, ep, (N _ hm).1, ex, hd, he, fun x hx => ?_, by rw [oent_keys]; exact nd⟩
  obtain ⟨y, hy, rfl⟩ := List.mem_map.mp hx
  exact (hat y hy).is N
theorem oat_ent {x : OL} (nd : (ol.map OL.key).Nodup) (hx : x ∈ ol) : atKey (ol.map OL.ent) x.key = some (x.a, x.v) := by
  obtain ⟨i, hi⟩ := List.mem_iff_getElem?.mp hx
  exact atKey_of_get (by rw [oent_keys]; exact nd) (i := i) (by rw [List.getElem?_map, hi]; rfl)
theorem oat_none {k : List Str} (h : ∀ x ∈ ol, x.key ≠ k) : atKey (ol.map OL.ent) k = none := by
  unfold atKey
  rw [List.find?_eq_none.mpr, Option.map_none]
  intro y hy
  obtain ⟨x, hx, rfl⟩ := List.mem_map.mp hy
  simpa using h x hx
theorem Objs.back {h' : Heap} {ol' : List OL} (hm : h'.DictOfH (okd w) OD (ol'.map OL.ent)) : ∃ o', h'.get? OD = some o' ∧ Objs w o' ol' := by
  obtain ⟨o, es, ep, ho, ex, hd, he, _, nd⟩ := hm
  exact ⟨o, ho, ex, ⟨es, ep, hd, he⟩, by rw [← oent_keys]; exact nd⟩
theorem dict_method {d : Addr} {o : Obj} {name : Str} {id : String} {pl : Sem Bool} {Q : Value × List Value → Shared → Prop} (slot : Slot "dict" name id) (ty : typeOf (.builtin id) = pure (.type "method_descriptor")) (N : News h₀ L s.heap news) (hm : (d, o) ∈ news) (ex : o.ExactDict) (h : Q (.builtin id, [.ref d]) s) :
    wpAny (model Challenge.rw_pf0335_01.row.prog w) A (getMethod (.ref d) name pl) Q E s :=
  getMethod_builtin (T := "dict") ⟨o, (N _ hm).1, ex.1⟩ PySem.F.plainAttrs_dict slot ty (fun b e => by cases e; exact ⟨o, (N _ hm).1, ex.2.1⟩) h
theorem objs_get {a : Addr} {k0 k1 : Str} {t0 t1 : Tok} {Q : Value → Shared → Prop} (N : News h₀ L s.heap news) (hm : (OD, oO) ∈ news) (S : Objs w oO ol) (lo : (OD == sysModules) = false) (hat : ∀ x ∈ ol, x.At news) (ha : (a, tupO [.str k0 t0, .str k1 t1]) ∈ news) (hu : A.units + 1 < cLine)
    {r : Option (Addr × Value)} (hr : atKey (ol.map OL.ent) [k0, k1] = r) (h : ∀ tk, Q ((r.map (·.2)).getD .none) { s with toks := tk }) : wpAny (model Challenge.rw_pf0335_01.row.prog w) A (call (.builtin "dict.get") [.ref OD, .ref a]) Q E s :=
  have hD := S.of hm hat N
  call_meetsIn PySem.F.slot_dict_get hD.typeIs PySem.F.entry_dict_get (PySem.F.args_dict_get_2 _ _) (meetsH_dict_get (okd w) OD a lo)
    ⟨hu, _, _, OL.At.is (x := ⟨a, k0, k1, t0, t1, .none⟩) ha N, hD, by rw [show OL.key ⟨a, k0, k1, t0, t1, .none⟩ = [k0, k1] from rfl, hr]; exact h _⟩
theorem objs_set {y : OL} {Q : Unit → Shared → Prop} (F : Fr h₀ L s.heap m) (N : News h₀ L s.heap news) (hm : (OD, oO) ∈ news) (S : Objs w oO ol) (hat : ∀ x ∈ ol, x.At news) (hy : y.At news) (hnew : ∀ x ∈ ol, x.key ≠ y.key) (hu : A.units + 1 < cLine) (hl : ol.length ≤ 100000)
    (h : ∀ h' tk oO', Fr h₀ L h' m → News h₀ L h' (setAt OD oO' news) → Objs w oO' (ol ++ [y]) → Q () { s with heap := h', toks := tk }) :
    wpAny (model Challenge.rw_pf0335_01.row.prog w) A (setItem (.ref OD) (.ref y.a) y.v) Q E s := by
  refine wpAny_setItem_heap (knd := okd w) hu (hy.is N) (S.of hm hat N) (fun h' hm' hs => ?_) (by rw [sizeLine_eq, List.length_map]; omega)
  rw [storedH_new (oat_none hnew), show ol.map OL.ent ++ [(y.key, y.a, y.v)] = (ol ++ [y]).map OL.ent by rw [List.map_append]; rfl] at hm'
  obtain ⟨o', ho', S'⟩ := Objs.back hm'
  exact h h' _ o' (F.change hs (N _ hm).2.1 (N _ hm).2.2) (led_set N hm hs ho') S'
theorem Objs.nil {o : Obj} {es : Array DictEntry} {ep : Nat} (ex : o.ExactDict) (hd : o.data = .dict es ep) (he : es.toList = []) : Objs w o [] := ⟨ex, ⟨es, ep, hd, he⟩, List.nodup_nil⟩
end
theorem OL.At.up {ol : List OL} {news news' : Led} (h : ∀ x ∈ ol, x.At news) {x : OL} (hx : x ∈ ol) (hs : ∀ p ∈ news, p ∈ news') : x.At news' := hs _ (h x hx)
theorem ES.At.mono {w : World} {x : ES} {news news' : Led} (a : x.At w news) (h : ∀ p ∈ news, p ∈ news') : x.At w news' := ⟨h _ a.inst, h _ a.dict, h _ a.tup⟩
/-! M15 -/
local macro_rules | `(tactic| walk_at "call builtin:dict.get") => `(tactic| ((with_reducible rename Halt 3 => hx9); (k_here; k_dflt (refine objs_get (by k_asm) (by k_mem) (by assumption) (by assumption) ?kat (by k_mem) (by ktr_units) (by assumption) ?_; (case kat => (intro x hx; exact OL.At.up (by assumption) hx (by intro p hp; (repeat (first | exact hp | refine List.Mem.tail _ ?_)); done)))); intro tk; (try dsimp only [Option.map, Option.getD]))))
theorem expect_none {w mean mg mb base} {news : Led} {Sc dSc OD : Addr} {eSc : List DictEntry} {nSc : Nat} {oO : Obj} {ol : List OL} {nm : Str} {tnm : Tok}
    (hSc : (Sc, instObj 136 dSc) ∈ news) (hdSc : (dSc, dictOf eSc nSc) ∈ news) (s1 : getL (Str.ofString "objects") eSc = some (some (.ref OD)))
    (hOD : (OD, oO) ∈ news) (hO : Objs w oO ol) (lOD : (OD == sysModules) = false) (hat : ∀ x ∈ ol, x.At news)
    (hno : atKey (ol.map OL.ent) [Str.ofString "expectation", nm] = none) :
    Spec 12 w mean mg mb base 104 [.ref Sc, .str nm tnm] news (fun v news' => ∃ b t u, v = .ref b ∧ (b, brk t u) ∈ news' ∧ ∀ p ∈ news, p ∈ news') := by
  intro dp un gd cn cs a9 ccd cl outer A₀ h₀ L m h8 g8 d8 T8 os8 Q E B9 F X N T hk hd hu hret
  refine wpAny_call ?_
  k_dflt cell_enter
  refine @shut _ _ _ h₀ L m _ _ _ _ _ _ _ _ _ _ _ _ _ _ _ _ _ _ Q _ _ _ _ hret hd hu (by assumption) (fun _ _ h => h) (fun _ _ h => h) fun dp un gd outer A₀ tkS Q E Bw hd hu hret hnext => ?_
  have hG : GDO g8 d8 os8 := trivial
  have hm3 : Halt 3 := trivial
  (repeat' (first | (k_here; (with_reducible show wpAny _ _ (getMethod (Value.ref _) (Str.ofString "get") _) _ _ _); k_dflt (refine dict_method PySem.F.slot_dict_get PySem.F.type_dict_get (by k_asm) (by k_mem) (Objs.ex (by assumption)) ?_)) | (first | (with_reducible show wpAny _ _ (call (Value.ref 97) _) _ _ _)); refine stop ?_ | ((fail_if_success (with_reducible refine Stop.go ?_)); (first | (k_unfold; (try dsimp only)) | (k_end; wrow_close) | walk1 | (dsimp only; walk1) | (leave1; walk_say "STEP leave1"; try dsimp only) | fail "no step"))))
  k_dflt refine hret _ _ _ _ ?_ (by k_asm) (by k_asm)
  exact ⟨_, _, _, rfl, by k_mem, by intro p hp; (repeat (first | exact hp | refine List.Mem.tail _ ?_)); done⟩
theorem expect_some {w mean mg mb base} {news : Led} {Sc dSc M dM B dB EL S Th Ba Sd OD Ka : Addr} {eSc eM eB : List DictEntry} {nSc nM nB ep : Nat} {now way n st z proto port timeout most nf a b c d e f : Int}
    {tnow tway tn ts tz t1 t2 t3 t4 t5 ta tb tc td te tf tnm : Tok} {es : List ES} {oO : Obj} {ol : List OL} {nm : Str}
    (hSc : (Sc, instObj 136 dSc) ∈ news) (hdSc : (dSc, dictOf eSc nSc) ∈ news) (s0 : getL (Str.ofString "objects") eSc = some (some (.ref OD)))
    (s1 : getL (Str.ofString "talk") eSc = some (some (.ref M))) (s2 : getL (Str.ofString "talks") eSc = some (some (.ref B))) (s3 : getL (Str.ofString "now") eSc = some (some (.int now tnow))) (s4 : getL (Str.ofString "is_reply") eSc = some (some (.int way tway)))
    (hOD : (OD, oO) ∈ news) (hO : Objs w oO ol) (lOD : (OD == sysModules) = false) (hat : ∀ x ∈ ol, x.At news)
    (hsp : atKey (ol.map OL.ent) [Str.ofString "expectation", nm] = some (Ka, .ref S))
    (hM : (M, instObj 31 dM) ∈ news) (hdM : (dM, dictOf eM nM) ∈ news)
    (m1 : getL (Str.ofString "number") eM = some (some (.int n tn))) (m2 : getL (Str.ofString "status") eM = some (some (.int st ts))) (m3 : getL (Str.ofString "original") eM = some (some (.ref Th))) (m4 : getL (Str.ofString "reply") eM = some (some (.ref Ba))) (m5 : getL (Str.ofString "zone") eM = some (some (.int z tz)))
    (hB : (B, instObj 53 dB) ∈ news) (hdB : (dB, dictOf eB nB) ∈ news) (b1 : getL (Str.ofString "expects") eB = some (some (.ref EL)))
    (hEL : (EL, W.listOf (refs es).toArray ep) ∈ news) (hes : ∀ x ∈ es, x.At w news) (hlen : es.length ≤ 1000)
    (hS : (S, tupO [.int proto t1, .int port t2, .int timeout t3, .int most t4, .int nf t5]) ∈ news)
    (hSd : Sd = if 1 - way = 0 then Th else Ba) (hSdt : (Sd, tupO [.int a ta, .int b tb, .int c tc, .int d td, .int e te, .int f tf]) ∈ news) :
    Spec 12 w mean mg mb base 104 [.ref Sc, .str nm tnm] news (fun v news' => ∃ D o, (∀ p ∈ news, p.1 < D) ∧ AddPost w ((D, o) :: news) es EL ep n z st now timeout most (if nf = 0 then a else nf) proto c e port v news') := by
  intro dp un gd cn cs a9 ccd cl outer A₀ h₀ L m h8 g8 d8 T8 os8 Q E B9 F X N T hk hd hu hret
  refine wpAny_call ?_
  k_dflt cell_enter
  refine @shut _ _ _ h₀ L m _ _ _ _ _ _ _ _ _ _ _ _ _ _ _ _ _ _ Q _ _ _ _ hret hd hu (by assumption) (fun _ _ h => h) (fun _ _ h => h) fun dp un gd outer A₀ tkS Q E Bw hd hu hret hnext => ?_
  have hG : GDO g8 d8 os8 := trivial
  have hm3 : Halt 3 := trivial
  (repeat' (first | (k_here; (with_reducible show wpAny _ _ (getMethod (Value.ref _) (Str.ofString "get") _) _ _ _); k_dflt (refine dict_method PySem.F.slot_dict_get PySem.F.type_dict_get (by k_asm) (by k_mem) (Objs.ex (by assumption)) ?_)) | (first | (with_reducible show wpAny _ _ (call (Value.ref 97) _) _ _ _)); refine stop ?_ | ((fail_if_success (with_reducible refine Stop.go ?_)); (first | (k_unfold; (try dsimp only)) | (k_end; wrow_close) | walk1 | (dsimp only; walk1) | (leave1; walk_say "STEP leave1"; try dsimp only) | fail "no step"))))
  (rename News _ _ _ _ => N4)
  obtain ⟨Dt, eDt⟩ := head_of N4
  subst eDt
  have lDt : ∀ p ∈ news, p.1 < Dt := tail_lt (by assumption) (fun p hp => hp)
  refine Stop.go ?_
  (try k_fold)
  k_dflt refine (Spec.use (by k_asm) (by k_asm) (by k_asm) (by k_asm) (by k_asm) (by first | exact rfl | assumption) (add_spec (.tail _ hSc) (.tail _ hdSc) s1 s2 s3 s4 (.tail _ hM) (.tail _ hdM) m1 m2 m3 m4 m5 (.tail _ hB) (.tail _ hdB) b1 (.tail _ hEL) (fun x hx => (hes x hx).mono fun p hp => .tail _ hp) hlen (.tail _ hS) hSd (.tail _ hSdt)) (by ktr_room) (by ktr_units) ?_)
  k_dflt (intro v9 h9 tk9 news9 p9 F9 N9)
  (try dsimp only at F9 N9 ⊢)
  (try k_fold)
  (repeat' (first | (k_here; (with_reducible show wpAny _ _ (getMethod (Value.ref _) (Str.ofString "get") _) _ _ _); k_dflt (refine dict_method PySem.F.slot_dict_get PySem.F.type_dict_get (by k_asm) (by k_mem) (Objs.ex (by assumption)) ?_)) | (first | (with_reducible show wpAny _ _ (call (Value.ref 97) _) _ _ _)); refine stop ?_ | ((fail_if_success (with_reducible refine Stop.go ?_)); (first | (k_unfold; (try dsimp only)) | (k_end; wrow_close) | walk1 | (dsimp only; walk1) | (leave1; walk_say "STEP leave1"; try dsimp only) | fail "no step"))))
  k_dflt refine hret _ _ _ _ ⟨_, _, lDt, p9⟩ (by k_asm) (by k_asm)
/-! M16 -/
theorem expect_break {w mean mg mb base} {news : Led} {Sc dSc OD Ka S : Addr} {eSc : List DictEntry} {nSc : Nat} {oO : Obj} {ol : List OL} {nm : Str} {tnm : Tok}
    (hSc : (Sc, instObj 136 dSc) ∈ news) (hdSc : (dSc, dictOf eSc nSc) ∈ news) (s1 : getL (Str.ofString "objects") eSc = some (some (.ref OD)))
    (hOD : (OD, oO) ∈ news) (hO : Objs w oO ol) (lOD : (OD == sysModules) = false) (hat : ∀ x ∈ ol, x.At news)
    (hsp : atKey (ol.map OL.ent) [Str.ofString "expectation", nm] = some (Ka, .ref S))
    (hno : (getL (Str.ofString "talk") eSc = some (some .none) ∧ ∃ B, getL (Str.ofString "talks") eSc = some (some (.ref B))) ∨ (getL (Str.ofString "talks") eSc = some (some .none) ∧ ∃ M, getL (Str.ofString "talk") eSc = some (some (.ref M)))) :
    Spec 12 w mean mg mb base 104 [.ref Sc, .str nm tnm] news (fun v news' => ∃ b t u, v = .ref b ∧ (b, brk t u) ∈ news' ∧ ∀ p ∈ news, p ∈ news') := by
  intro dp un gd cn cs a9 ccd cl outer A₀ h₀ L m h8 g8 d8 T8 os8 Q E B9 F X N T hk hd hu hret
  refine wpAny_call ?_
  k_dflt cell_enter
  refine @shut _ _ _ h₀ L m _ _ _ _ _ _ _ _ _ _ _ _ _ _ _ _ _ _ Q _ _ _ _ hret hd hu (by assumption) (fun _ _ h => h) (fun _ _ h => h) fun dp un gd outer A₀ tkS Q E Bw hd hu hret hnext => ?_
  have hG : GDO g8 d8 os8 := trivial
  have hm3 : Halt 3 := trivial
  rcases hno with ⟨s2, B, s3⟩ | ⟨s3, M, s2⟩
  all_goals (repeat' (first | (k_here; (with_reducible show wpAny _ _ (getMethod (Value.ref _) (Str.ofString "get") _) _ _ _); k_dflt (refine dict_method PySem.F.slot_dict_get PySem.F.type_dict_get (by k_asm) (by k_mem) (Objs.ex (by assumption)) ?_)) | ((fail_if_success (with_reducible refine Stop.go ?_)); (first | (k_unfold; (try dsimp only)) | (k_end; wrow_close) | walk1 | (dsimp only; walk1) | (leave1; walk_say "STEP leave1"; try dsimp only) | fail "no step"))))
  all_goals k_dflt refine hret _ _ _ _ ?_ (by k_asm) (by k_asm)
  all_goals exact ⟨_, _, _, rfl, by k_mem, by intro p hp; (repeat (first | exact hp | refine List.Mem.tail _ ?_)); done⟩
/-! M17 -/
abbrev DK := Int × List Int
def DK.parts (k : DK) : List Part := [.inl k.1, .inr k.2]
theorem DK.parts_inj {x y : DK} (h : x.parts = y.parts) : x = y := by
  obtain ⟨a, b⟩ := x
  obtain ⟨a', b'⟩ := y
  injection h with h1 h2; injection h2 with h2
  injection h1 with h1; injection h2 with h2
  subst h1 h2
  rfl
theorem DK.shape (x y : DK) : SameShape x.parts y.parts := .int (.tup .nil)
def doorKind (prog : Program) (w : World) : HeapKind prog w DK := partKind prog w DK.parts DK.parts_inj DK.shape
abbrev dk (w : World) := doorKind Challenge.rw_pf0335_01.row.prog w
section
variable {w : World} {A : Around} {E : Value → Shared → Prop} {s : Shared} {h₀ h : Heap} {L : Addr} {m : Str → Option Value} {news : Led}
theorem table_get {tb a b : Addr} {ep : Nat} {z b0 b1 b2 b3 b4 b5 : Int} {tz r0 r1 r2 r3 r4 r5 : Tok} {Q : Value → Shared → Prop} (N : News h₀ L s.heap news) (hm : (tb, dictOf [] ep) ∈ news) (lo : (tb == sysModules) = false)
    (ha : (a, tupO [.int z tz, .ref b]) ∈ news) (hb : (b, tupO [.int b0 r0, .int b1 r1, .int b2 r2, .int b3 r3, .int b4 r4, .int b5 r5]) ∈ news) (hu : A.units + 2 < cLine)
    (h : ∀ tk, Q .none { s with toks := tk }) : wpAny (model Challenge.rw_pf0335_01.row.prog w) A (call (.builtin "dict.get") [.ref tb, .ref a]) Q E s := by
  have hD : s.heap.DictOfH (dk w) tb [] := ⟨_, _, _, (N _ hm).1, ⟨rfl, rfl, rfl⟩, rfl, rfl, fun x hx => (nomatch hx), List.nodup_nil⟩
  have hk : (dk w).is s.heap (z, [b0, b1, b2, b3, b4, b5]) a :=
    ⟨_, _, _, (N _ ha).1, rfl, rfl, .cons (.int _ _) (.cons (.tup ⟨_, _, _, (N _ hb).1, rfl, rfl, .cons (intKind_is _ _ _ _) (.cons (intKind_is _ _ _ _) (.cons (intKind_is _ _ _ _) (.cons (intKind_is _ _ _ _) (.cons (intKind_is _ _ _ _) (.cons (intKind_is _ _ _ _) .nil)))))⟩) .nil)⟩
  exact call_meetsIn PySem.F.slot_dict_get hD.typeIs PySem.F.entry_dict_get (PySem.F.args_dict_get_2 _ _) (meetsH_dict_get (dk w) tb a lo) ⟨hu, _, _, hk, hD, h _⟩
end
section
variable {prog : Program} {w : World} {A : Around} {s : Shared} {env : Env} {h₀ : Heap}
inductive ForT (prog : Program) (w : World) (A : Around) (h₀ : Heap) (env : Env) (x : Str) (body : List Stmt) (Q : Flow → Shared → Prop) (xv : Value) (s₁ : Shared) : Prop
  | mk (l : Addr) (vs : Array Value) (m : Str → Option Value) (news : Led) (J : Nat → (Str → Option Value) → Led → Prop) (z0 : xv = .ref l) (z1 : A.handled = none) (z2 : Fr h₀ env.locals s₁.heap m) (z3 : News h₀ env.locals s₁.heap news) (z4 : TupSrc l vs news) (z5 : J 0 m news) (z6 : (∀ i v m₁ news₁ h tk I oI, vs[i]? = some v → J i m₁ news₁ → TupSrc l vs news₁ → (∀ p ∈ news₁, p.1 ≠ I) → Fr h₀ env.locals h (fun y => if y = x then some v else m₁ y) → News h₀ env.locals h ((I, oI) :: news₁) → wpAny (model prog w) A (execs body env) (TurnV h₀ env.locals (fun m' nw' => J (i + 1) m' nw' ∧ TupSrc l vs nw') I oI { s₁ with heap := h, toks := tk } Q) (fun _ _ => False) { s₁ with heap := h, toks := tk })) (z7 : ∀ h tk m' news', Fr h₀ env.locals h m' → News h₀ env.locals h news' → J vs.size m' news' → Q .next { s₁ with heap := h, toks := tk }) : ForT prog w A h₀ env x body Q xv s₁
theorem For_T {E : Value → Shared → Prop} {Q : Flow → Shared → Prop} {x : Str} {px pos : Pos} {iter : Expr} {body : List Stmt} {m₀ : Str → Option Value} (_F : Fr h₀ env.locals s.heap m₀) (hx : env.kindOf x = some .local)
    (hp : (env.scope.kind == .class || (env.scope.kind == .module && env.locals != env.globals)) = false)
    (h : wpAny (model prog w) A (eval iter env) (ForT prog w A h₀ env x body Q) (fun _ _ => False) s)
    (hs : ∀ x, foldedSetIterable iter env x = pure x := by intro _; rfl) :
    wpAny (model prog w) A (exec (.For (.Name x px) iter body [] pos) env) Q E s := by
  refine wpAny_noRaise (wpAny_For (wpAny_mono h (fun xv s₁ h₁ => ?_) fun _ _ e => e) hs)
  obtain ⟨l, vs, m, news, J, rfl, hh, F, N, S, h0, step, done⟩ := h₁
  have hl := S.tup N
  have hlt : l < s₁.heap.objs.size := by obtain ⟨_, e, _⟩ := hl; exact Heap.lt_size e
  refine wpAny_pyIter_tuple hl ?_
  have up : ∀ b o, s₁.heap.get? b = some o → (s₁.heap.push { cls := .type "tuple_iterator", data := .fields #[.ref l, .int 0 0] }).get? b = some o := fun b o e => Heap.get?_push_of_some _ e
  have hLlt : env.locals < s₁.heap.objs.size := F.ns.lt
  have hlL : env.locals ≠ l := by
    obtain ⟨o, n, hm, _⟩ := S
    exact Ne.symm (N _ hm).2.1
  refine forLoop_led (R := fun r s' => match r with | .ok f => Q f s' | .error e => cameBackBy (model prog w) A env (fun _ _ => False) e s') (S := TupSrc l vs)
    (Walks.tuple hh s₁.heap.objs.size l (Nat.ne_of_lt hlt) vs) (fun i h st => by obtain ⟨o, e, _⟩ := st.1; exact ⟨o, e⟩) tup_st hx hp ?_ (next_is_new F) (fun p hp => Nat.ne_of_lt (Heap.lt_size (N p hp).1))
    ⟨⟨_, Heap.get?_push_size _ rfl, rfl, rfl⟩, hl.at (up l)⟩ (F.keeps up) (N.grown up) S J h0 ?_ ?_
  · intro hm
    rcases List.mem_cons.mp hm with e | hm
    · exact absurd hLlt (e ▸ Nat.lt_irrefl _)
    · exact hlL (List.mem_singleton.mp hm)
  · intro i v m₁ news₁ h tk oI _ hP hJ hS hoff F₁ N₁
    exact step i v m₁ news₁ h tk _ oI hP hJ hS hoff F₁ N₁
  · intro h' tk m' news' F' N' hJ
    exact done h' tk m' news' F' N' hJ
end
/-! M18 -/
theorem led_of {h₀ h : Heap} {L : Addr} {news : Led} (_ : News h₀ L h news) : ∃ l : Led, l = news := ⟨_, rfl⟩
set_option genInjectivity false in
set_option genSizeOf false in
/-- a talk: the law's dict of it, the made one, the two ends -/
structure TL where
  n : Int
  z : Int
  st : Int
  T : Addr
  Ed : Addr
  Th : Addr
  Ba : Addr
  M : Addr
  dM : Addr
  oT : Obj
  h0 : Int
  h1 : Int
  h2 : Int
  h3 : Int
  h4 : Int
  h5 : Int
  b0 : Int
  b1 : Int
  b2 : Int
  b3 : Int
  b4 : Int
  b5 : Int
  th0 : Tok
  th1 : Tok
  th2 : Tok
  th3 : Tok
  th4 : Tok
  th5 : Tok
  tb0 : Tok
  tb1 : Tok
  tb2 : Tok
  tb3 : Tok
  tb4 : Tok
  tb5 : Tok
  k1 : Tok
  k2 : Tok
  k3 : Tok
  k4 : Tok
  k5 : Tok
  k6 : Tok
  k7 : Tok
  k8 : Tok
  k9 : Tok
  k10 : Tok
  k11 : Tok
  tn : Tok
  tz : Tok
  ts : Tok
  t5 : Tok
  t6 : Tok
  t7 : Tok
  t9 : Tok
  t11 : Tok
  uz : Tok
  us : Tok
abbrev TL.ents (w : World) (x : TL) : List DictEntry :=
  [ent w "number" x.k1 (.int x.n x.tn), ent w "original" x.k2 (.ref x.Th), ent w "reply" x.k3 (.ref x.Ba), ent w "zone" x.k4 (.int x.z x.tz), ent w "until" x.k5 (.int 0 x.t5), ent w "since" x.k6 (.int 0 x.t6), ent w "mark" x.k7 (.int 0 x.t7), ent w "status" x.k8 (.int x.st x.ts), ent w "state" x.k9 (.int 0 x.t9), ent w "sides" x.k10 .none, ent w "master" x.k11 (.int 0 x.t11)]
abbrev TL.mob (w : World) (x : TL) : Obj := dictOf (x.ents w) 11
abbrev TL.tho (x : TL) : Obj := tupO [.int x.h0 x.th0, .int x.h1 x.th1, .int x.h2 x.th2, .int x.h3 x.th3, .int x.h4 x.th4, .int x.h5 x.th5]
abbrev TL.bao (x : TL) : Obj := tupO [.int x.b0 x.tb0, .int x.b1 x.tb1, .int x.b2 x.tb2, .int x.b3 x.tb3, .int x.b4 x.tb4, .int x.b5 x.tb5]
structure TL.At (w : World) (news : Led) (x : TL) : Prop where
  hT : (x.T, x.oT) ∈ news
  dT : x.oT.IsDictOf (sKind w) [(Str.ofString "zone", .int x.z x.uz), (Str.ofString "status", .int x.st x.us), (Str.ofString "ends", .ref x.Ed)]
  hEd : (x.Ed, tupO [.ref x.Th, .ref x.Ba]) ∈ news
  hTh : (x.Th, x.tho) ∈ news
  hBa : (x.Ba, x.bao) ∈ news
  hM : (x.M, instObj 31 x.dM) ∈ news
  hdM : (x.dM, x.mob w) ∈ news
  lT : (x.T == sysModules) = false
  st0 : 0 ≤ x.st
  st1 : x.st < 1024
  p2 : 0 ≤ x.h2
  q2 : 0 ≤ x.b2
set_option genInjectivity false in
set_option genSizeOf false in
/-- the book -/
structure BL where
  B : Addr
  dB : Addr
  tb : Addr
  tk : Addr
  tr : Addr
  fl : Addr
  EL : Addr
  ep : Nat
  k1 : Tok
  k2 : Tok
  k3 : Tok
  k4 : Tok
  k5 : Tok
  k6 : Tok
  k7 : Tok
  k8 : Tok
  k9 : Tok
  k10 : Tok
  t1 : Tok
  t2 : Tok
  t3 : Tok
  t6 : Tok
abbrev BL.obj (w : World) (x : BL) : Obj := dictOf (bookEnt w x.k1 x.k2 x.k3 x.k4 x.k5 x.k6 x.k7 x.k8 x.k9 x.k10 [] (.int 9 x.t1) (.int 0 x.t2) (.int 128 x.t3) x.tb x.tk (.int 0 x.t6) x.tr x.EL x.fl (.bool true)) 10
structure BL.At (w : World) (news : Led) (x : BL) : Prop where
  hB : (x.B, instObj 53 x.dB) ∈ news
  hdB : (x.dB, x.obj w) ∈ news
  htb : ∃ n, (x.tb, dictOf [] n) ∈ news
  htk : ∃ n, (x.tk, dictOf [] n) ∈ news
  hfl : ∃ n, (x.fl, dictOf [] n) ∈ news
  ltb : (x.tb == sysModules) = false
  ltk : (x.tk == sysModules) = false
  lfl : (x.fl == sysModules) = false
theorem empty_is {prog : Program} {w : World} {K : Type} [DecidableEq K] (knd : KeyKind prog w K) (n : Nat) : (dictOf [] n).IsDictOf knd [] := by
  refine ⟨_, _, ⟨rfl, rfl, rfl⟩, rfl, ?_, .nil, List.nodup_nil⟩
  intro e he; simp at he
theorem raw_src {prog : Program} {w : World} {d : Addr} {es : Array DictEntry} {ep : Nat} (lo : (d == sysModules) = false) : KdlSrc prog w "dict" d d es.size (fun i v => ∃ e, es[i]? = some e ∧ v = e.key) (fun h => DictRaw h d es ep) where
  type := fun _ hm => hm.typeIs
  there := fun _ hm => by obtain ⟨_, e, _⟩ := hm; exact ⟨Heap.lt_size e, Heap.lt_size e⟩
  keep := fun _ _ hm hk => hm.at fun o e => hk d (.inl rfl) o e
  notList := by decide
  notTuple := by decide
  hint := fun _ _ _ _ hm hq => kdl_hint_dict hm.typeIs hq
  iter := fun _ _ hh hm => ⟨_, _, (fun _ _ hq => pyIter_dictRaw lo hm hq), walks_dictRaw hh _ d (by obtain ⟨_, e, _⟩ := hm; exact Nat.ne_of_lt (Heap.lt_size e)) es ep, ⟨⟨_, Heap.get?_push_size _ rfl, rfl, rfl⟩, hm.at fun o e => Heap.get?_push_of_some _ e⟩⟩
theorem list_raw {prog : Program} {w : World} {A : Around} {E : Value → Shared → Prop} {s : Shared} {h₀ : Heap} {L d : Addr} {m : Str → Option Value} {news : Led} {es : Array DictEntry} {ep : Nat} {Q : Value → Shared → Prop} (hh : A.handled = none) (F : Fr h₀ L s.heap m) (N : News h₀ L s.heap news) (S : DictSrc d es ep news) (lo : (d == sysModules) = false) (hn : es.size ≤ 16777216)
    (h : ∀ (D : Addr) c h' tk (vs : List Value), Fr h₀ L h' m → News h₀ L h' ((D, W.listOf vs.toArray c) :: news) → (∀ q ∈ news, q.1 < D) → vs.length = es.size → (∀ (j : Nat) (v : Value), vs[j]? = some v → ∃ e : DictEntry, es[j]? = some e ∧ v = e.key) → Q (.ref D) { s with heap := h', toks := tk }) :
    wpAny (model prog w) A (call (.type "list") [.ref d]) Q E s :=
  kdl_N (raw_src (es := es) (ep := ep) lo) hh F N (S.raw N) (kdl_size hn) h
theorem list_empty {prog : Program} {w : World} {A : Around} {E : Value → Shared → Prop} {s : Shared} {h₀ : Heap} {L d : Addr} {m : Str → Option Value} {news : Led} {ep : Nat} {Q : Value → Shared → Prop} (hh : A.handled = none) (F : Fr h₀ L s.heap m) (N : News h₀ L s.heap news) (hm : (d, dictOf [] ep) ∈ news) (lo : (d == sysModules) = false)
    (h : ∀ (D : Addr) c h' tk, Fr h₀ L h' m → News h₀ L h' ((D, W.listOf #[] c) :: news) → (∀ q ∈ news, q.1 < D) → Q (.ref D) { s with heap := h', toks := tk }) :
    wpAny (model prog w) A (call (.type "list") [.ref d]) Q E s :=
  list_raw (es := #[]) (ep := ep) hh F N ⟨_, hm, ⟨rfl, rfl, rfl⟩, rfl⟩ lo (by decide) fun D c h' tk vs F' N' l hl _ => by
    obtain rfl : vs = [] := List.eq_nil_of_length_eq_zero hl
    exact h D c h' tk F' N' l
theorem ld_env {M : Model} {A : Around} {E : Value → Shared → Prop} {s : Shared} {h₀ : Heap} {L : Addr} {m : Str → Option Value} {env : Env} {x : Str} {pos : Pos} {v : Value} {Q : Value → Shared → Prop} (F : Fr h₀ L s.heap m) (hv : m x = some v) (h : Q v s)
    (hLe : env.locals = L := by rfl) (hk : env.scope.kind = .function := by rfl) (hl : env.kindOf x = some .local := by rfl) (hd : (x == ("__debug__" : Str)) = false := by decide) :
    wpAny M A (eval (.Name x pos) env) Q E s := by subst hLe; exact wpAny_Name (wpAny_loadName_local hk hl F.ns hv h) hd
theorem mem_of_led {l l' : Led} (e : l = l') : ∀ p ∈ l', p ∈ l := fun p hp => e ▸ hp
theorem led_as {h₀ h : Heap} {L : Addr} {l l' : Led} (e : l = l') (N : News h₀ L h l') : News h₀ L h l := e ▸ N
theorem mem_sets {d : Addr} {o' : Obj} {l l' : Led} (e : l' = setAt d o' l) {p : Addr × Obj} (hp : p ∈ l) (h : p.1 ≠ d) : p ∈ l' := e ▸ mem_set_ne hp h
theorem mem_sets_self {d : Addr} {o o' : Obj} {l l' : Led} (e : l' = setAt d o' l) (hp : (d, o) ∈ l) : (d, o') ∈ l' := e ▸ mem_set_self hp
theorem led_ne_data {h₀ h : Heap} {L : Addr} {news : Led} (N : News h₀ L h news) {a b : Addr} {o o' : Obj} (h1 : (a, o) ∈ news) (h2 : (b, o') ∈ news) (h : o.data ≠ o'.data) : a ≠ b := fun e => h (by subst e; rw [led_fn N h1 h2])
theorem inst_ne_dict {C dx : Addr} {es : List DictEntry} {n : Nat} : (instObj C dx).cls ≠ (dictOf es n).cls := fun e => Value.noConfusion e
theorem tup_ne_dict' {vs : List Value} {es : List DictEntry} {n : Nat} : (tupO vs).cls ≠ (dictOf es n).cls := fun e => tup_ne_dict e
theorem list_ne_dict {its : Array Value} {k : Nat} {es : List DictEntry} {n : Nat} : (W.listOf its k).cls ≠ (dictOf es n).cls := fun e => absurd (show Value.type "list" = Value.type "dict" from e) (by decide)
theorem cell_ne_dict {o : Obj} {v : Option Value} {es : List DictEntry} {n : Nat} (h : o.data = Data.cell v) : o.data ≠ (dictOf es n).data := fun e => Data.noConfusion (h.symm.trans e)
theorem empty_obj {prog : Program} {w : World} {K : Type} [DecidableEq K] {knd : KeyKind prog w K} {o : Obj} (d : o.IsDictOf knd []) : ∃ n, o = dictOf [] n := by
  obtain ⟨es, ep, ⟨h1, h2, h3⟩, hd, _, hp, _⟩ := d
  have he : es.toList = [] := by
    have := hp.length
    exact List.eq_nil_of_length_eq_zero (by simpa using this)
  have he' : es = #[] := by
    apply Array.toList_inj.mp
    rw [he]
  subst he'
  refine ⟨ep, ?_⟩
  obtain ⟨cls, dd, data, sl⟩ := o
  simp only at h1 h2 h3 hd
  subst h1 h2 h3 hd
  rfl
/-! M19 -/
theorem eq_none_tup {prog : Program} {w : World} {A : Around} {E : Value → Shared → Prop} {s : Shared} {h₀ : Heap} {L a : Addr} {news : Led} {vs : List Value} {Q : Value → Shared → Prop} (N : News h₀ L s.heap news) (hm : (a, tupO vs) ∈ news) (hu : A.units < cLine) (h : Q (.bool false) s) :
    wpAny (model prog w) A (compareOp .Eq .none (.ref a)) Q E s := SeqAt.RcAt.none_tuple ⟨_, (N _ hm).1, rfl, _, rfl⟩ hu prog w E Q h
theorem drop_spec {w mean mg mb base} {news : Led} {bk : BL} {x : TL} {es : List ES} (hb : bk.At w news) (hx : x.At w news) (hEL : (bk.EL, W.listOf (refs es).toArray bk.ep) ∈ news) (hes : ∀ e ∈ es, e.At w news) (hlen : es.length ≤ 1000) (hne : x.dM ≠ bk.dB) :
    Spec 8 w mean mg mb base 69 [.ref bk.B, .ref x.M] news (fun v news' => v = .none ∧ ∃ EL' ep' ts', (EL', W.listOf (refs (es.filter fun e => decide (e.n ≠ x.n))).toArray ep') ∈ news' ∧
      (bk.dB, BL.obj w { bk with EL := EL' }) ∈ news' ∧ (x.dM, TL.mob w { x with st := Builtin.bitOr x.st 512, ts := ts' }) ∈ news' ∧ ∀ p ∈ news, p.1 ≠ bk.dB → p.1 ≠ x.dM → p ∈ news') := by
  intro dp un gd cn cs a9 ccd cl outer A₀ h₀ L m h8 g8 d8 T8 os8 Q E B9 F X N T hk hd hu hret
  obtain ⟨hB, hdB, ⟨ntb, htb⟩, ⟨ntk, htk⟩, ⟨nfl, hfl⟩, ltb, ltk, lfl⟩ := hb
  obtain ⟨hT, dT, hEd, hTh, hBa, hM, hdM, lT, st0, st1, p2, q2⟩ := hx
  refine wpAny_call ?_
  k_dflt (refine' code_defC ?k1 ?k2 ?k3 ?k4 ?k5 ?kA ?kF ?kK ?k6 ?k7 ?k8 ?k9 ?kB ?kD ?_ ?c2 ?c3 ?c4; (case kA => exact rfl); (case kF => exact rfl); (case kK => assumption); (case k1 => k_asm); (case k2 => k_asm); (case k3 => k_asm); (case k4 => k_asm); (case k5 => k_asm); (case k6 => k_is); (case k7 => k_is); (case k8 => ktr_room); (case k9 => exact BindsTo.of_eq rfl); (case kB => exact rfl); (case kD => decide +kernel); (case c2 => exact rfl); (case c3 => exact rfl); (case c4 => exact rfl); k_whole; intro g' L' h' tk' cells' FG' F' N' Y' B' X' T' l1; (try k_lt l1); k_cells Y'; (try simp only [List.cons_append, List.nil_append] at N'); (try (have l1a := lt_succ_all l1; have l1b := lt_succ_all l1a; have l1c := lt_succ_all l1b; have l1d := lt_succ_all l1c; have l1e := lt_succ_all l1d; have l1f := lt_succ_all l1e)); (try dsimp only); (try k_lift B'); (try k_fold))
  refine @shut _ _ _ h₀ L m _ _ _ _ _ _ _ _ _ _ _ _ _ _ _ _ _ _ Q _ _ _ _ hret hd hu (by assumption) (fun _ _ h => h) (fun _ _ h => h) fun dp un gd outer A₀ tkS Q E Bw hd hu hret hnext => ?_
  have hG : GDO g8 d8 os8 := trivial
  (repeat' (first | (k_here; (with_reducible show wpAny _ _ (call (Value.type "list") [Value.ref _]) _ _ _); k_dflt (refine list_empty (by rfl) (by k_asm) (by k_asm) (by k_mem) (by assumption) ?_); intro DqQ cqQ hqQ tkqQ FqQ NqQ l1Q; (try k_lt l1Q)) | ((with_reducible show wpAny _ _ (compareOp CmpOp.In (Value.int _ _) (Value.ref _)) _ _ _); (k_here; k_dflt (refine kda_in (knd := PySem.intKind _ _) (by k_asm) (by k_mem) (by assumption) (by assumption) (intKind_is _ _ _ _) false rfl ?_))) | ((with_reducible show wpAny _ _ (call (Value.builtin "dict.get") _) _ _ _); (k_here; k_dflt (refine table_get (by k_asm) (by k_mem) (by assumption) (by k_mem) (by k_mem) (by ktr_units) ?_); intro tkQ)) | ((with_reducible show wpAny _ _ (compareOp CmpOp.Eq Value.none (Value.ref _)) _ _ _); (k_here; k_dflt (refine eq_none_tup (by k_asm) (by k_mem) (by ktr_units) ?_))) | ((with_reducible show wpAny _ _ (setAttr (Value.ref _) _ _) _ _ _); refine stop ?_) | ((fail_if_success (with_reducible refine Stop.go ?_)); (first | (k_unfold; (try dsimp only)) | (k_end; wrow_close) | walk1 | (dsimp only; walk1) | (leave1; walk_say "STEP leave1"; try dsimp only) | fail "no step"))))
  refine Stop.go ?_
  (rename Fr _ _ _ _ => F2)
  refine For_T F2 rfl rfl ?_
  (repeat' (first | (k_here; (with_reducible show wpAny _ _ (call (Value.type "list") [Value.ref _]) _ _ _); k_dflt (refine list_empty (by rfl) (by k_asm) (by k_asm) (by k_mem) (by assumption) ?_); intro DqQ cqQ hqQ tkqQ FqQ NqQ l1Q; (try k_lt l1Q)) | ((with_reducible show wpAny _ _ (compareOp CmpOp.In (Value.int _ _) (Value.ref _)) _ _ _); (k_here; k_dflt (refine kda_in (knd := PySem.intKind _ _) (by k_asm) (by k_mem) (by assumption) (by assumption) (intKind_is _ _ _ _) false rfl ?_))) | ((with_reducible show wpAny _ _ (call (Value.builtin "dict.get") _) _ _ _); (k_here; k_dflt (refine table_get (by k_asm) (by k_mem) (by assumption) (by k_mem) (by k_mem) (by ktr_units) ?_); intro tkQ)) | ((with_reducible show wpAny _ _ (compareOp CmpOp.Eq Value.none (Value.ref _)) _ _ _); (k_here; k_dflt (refine eq_none_tup (by k_asm) (by k_mem) (by ktr_units) ?_))) | ((with_reducible show wpAny _ _ (setAttr (Value.ref _) _ _) _ _ _); refine stop ?_) | ((fail_if_success (with_reducible refine Stop.go ?_)); (first | (k_unfold; (try dsimp only)) | (k_end; wrow_close) | walk1 | (dsimp only; walk1) | (leave1; walk_say "STEP leave1"; try dsimp only) | fail "no step"))))
  (rename Fr _ _ _ _ => F3); (rename News _ _ _ _ => N3)
  obtain ⟨nw0, e0⟩ := led_of N3
  have dI : (dictOf [] ntk).IsDictOf (PySem.intKind Challenge.rw_pf0335_01.row.prog w) [] := empty_is _ _
  have dI2 : (dictOf [] ntb).IsDictOf (PySem.intKind Challenge.rw_pf0335_01.row.prog w) [] := empty_is _ _
  refine ⟨_, _, _, _, fun i m nw => m (Str.ofString "book") = some (.ref bk.B) ∧ nw = nw0, rfl, rfl, F3, N3, ⟨_, _, .head _, rfl, rfl⟩, ⟨rfl, e0.symm⟩, ?_, ?_⟩
  · rintro i v m₁ news₁ h tk I oI hv ⟨j1, rfl⟩ S9 off F₁ N₁
    (try dsimp only)
    subst e0
    have hv' : ∃ d t, v = .int d t ∧ (d = 0 ∨ d = 1) := by
      rcases i with _ | _ | i
      · simp at hv; exact ⟨_, _, hv.symm, .inl rfl⟩
      · simp at hv; exact ⟨_, _, hv.symm, .inr rfl⟩
      · simp at hv
    obtain ⟨d, t, rfl, hd9⟩ := hv'
    rcases hd9 with rfl | rfl
    · (repeat' (first | (k_here; (with_reducible show wpAny _ _ (call (Value.type "list") [Value.ref _]) _ _ _); k_dflt (refine list_empty (by rfl) (by k_asm) (by k_asm) (by k_mem) (by assumption) ?_); intro DqQ cqQ hqQ tkqQ FqQ NqQ l1Q; (try k_lt l1Q)) | ((with_reducible show wpAny _ _ (compareOp CmpOp.In (Value.int _ _) (Value.ref _)) _ _ _); (k_here; k_dflt (refine kda_in (knd := PySem.intKind _ _) (by k_asm) (by k_mem) (by assumption) (by assumption) (intKind_is _ _ _ _) false rfl ?_))) | ((with_reducible show wpAny _ _ (call (Value.builtin "dict.get") _) _ _ _); (k_here; k_dflt (refine table_get (by k_asm) (by k_mem) (by assumption) (by k_mem) (by k_mem) (by ktr_units) ?_); intro tkQ)) | ((with_reducible show wpAny _ _ (compareOp CmpOp.Eq Value.none (Value.ref _)) _ _ _); (k_here; k_dflt (refine eq_none_tup (by k_asm) (by k_mem) (by ktr_units) ?_))) | ((with_reducible show wpAny _ _ (setAttr (Value.ref _) _ _) _ _ _); refine stop ?_) | ((fail_if_success (with_reducible refine Stop.go ?_)); (first | (k_unfold; (try dsimp only)) | (k_end; wrow_close) | walk1 | (dsimp only; walk1) | (leave1; walk_say "STEP leave1"; try dsimp only) | fail "no step"))))
      try any_goals (first | exact Str.ofString "" | exact (0 : Nat) | exact Value.none)
      refine Stop.go ?_
      (try k_fold)
      k_dflt refine (Spec.use (by k_asm) (by k_asm) (by k_asm) (by k_asm) (by k_asm) (by first | exact rfl | assumption) (side_spec (S := x.Th) (by k_mem) (by k_mem) rfl rfl rfl) (by ktr_room) (by ktr_units) ?_)
      k_dflt (intro v9 h9 tk9 news9 p9 F9 N9; obtain ⟨e9, e8⟩ := p9; subst e8; subst e9)
      (try dsimp only at F9 N9 ⊢)
      (try k_fold)
      (repeat' (first | (k_here; (with_reducible show wpAny _ _ (call (Value.type "list") [Value.ref _]) _ _ _); k_dflt (refine list_empty (by rfl) (by k_asm) (by k_asm) (by k_mem) (by assumption) ?_); intro DqQ cqQ hqQ tkqQ FqQ NqQ l1Q; (try k_lt l1Q)) | ((with_reducible show wpAny _ _ (compareOp CmpOp.In (Value.int _ _) (Value.ref _)) _ _ _); (k_here; k_dflt (refine kda_in (knd := PySem.intKind _ _) (by k_asm) (by k_mem) (by assumption) (by assumption) (intKind_is _ _ _ _) false rfl ?_))) | ((with_reducible show wpAny _ _ (call (Value.builtin "dict.get") _) _ _ _); (k_here; k_dflt (refine table_get (by k_asm) (by k_mem) (by assumption) (by k_mem) (by k_mem) (by ktr_units) ?_); intro tkQ)) | ((with_reducible show wpAny _ _ (compareOp CmpOp.Eq Value.none (Value.ref _)) _ _ _); (k_here; k_dflt (refine eq_none_tup (by k_asm) (by k_mem) (by ktr_units) ?_))) | ((with_reducible show wpAny _ _ (setAttr (Value.ref _) _ _) _ _ _); refine stop ?_) | ((fail_if_success (with_reducible refine Stop.go ?_)); (first | (k_unfold; (try dsimp only)) | (k_end; wrow_close) | walk1 | (dsimp only; walk1) | (leave1; walk_say "STEP leave1"; try dsimp only) | fail "no step"))))
      try any_goals (first | exact Str.ofString "" | exact (0 : Nat) | exact Value.none)
      rename Fr _ _ _ _ => F9
      rename News _ _ _ _ => N9
      refine TurnV.next F9 (drop_led N9 (by intro p hp; (repeat (first | exact hp | refine List.Mem.tail _ ?_)); done)) off ⟨⟨by with_unfolding_all exact j1, rfl⟩, S9⟩
    · (repeat' (first | (k_here; (with_reducible show wpAny _ _ (call (Value.type "list") [Value.ref _]) _ _ _); k_dflt (refine list_empty (by rfl) (by k_asm) (by k_asm) (by k_mem) (by assumption) ?_); intro DqQ cqQ hqQ tkqQ FqQ NqQ l1Q; (try k_lt l1Q)) | ((with_reducible show wpAny _ _ (compareOp CmpOp.In (Value.int _ _) (Value.ref _)) _ _ _); (k_here; k_dflt (refine kda_in (knd := PySem.intKind _ _) (by k_asm) (by k_mem) (by assumption) (by assumption) (intKind_is _ _ _ _) false rfl ?_))) | ((with_reducible show wpAny _ _ (call (Value.builtin "dict.get") _) _ _ _); (k_here; k_dflt (refine table_get (by k_asm) (by k_mem) (by assumption) (by k_mem) (by k_mem) (by ktr_units) ?_); intro tkQ)) | ((with_reducible show wpAny _ _ (compareOp CmpOp.Eq Value.none (Value.ref _)) _ _ _); (k_here; k_dflt (refine eq_none_tup (by k_asm) (by k_mem) (by ktr_units) ?_))) | ((with_reducible show wpAny _ _ (setAttr (Value.ref _) _ _) _ _ _); refine stop ?_) | ((fail_if_success (with_reducible refine Stop.go ?_)); (first | (k_unfold; (try dsimp only)) | (k_end; wrow_close) | walk1 | (dsimp only; walk1) | (leave1; walk_say "STEP leave1"; try dsimp only) | fail "no step"))))
      try any_goals (first | exact Str.ofString "" | exact (0 : Nat) | exact Value.none)
      refine Stop.go ?_
      (try k_fold)
      k_dflt refine (Spec.use (by k_asm) (by k_asm) (by k_asm) (by k_asm) (by k_asm) (by first | exact rfl | assumption) (side_spec (S := x.Ba) (by k_mem) (by k_mem) rfl rfl rfl) (by ktr_room) (by ktr_units) ?_)
      k_dflt (intro v9 h9 tk9 news9 p9 F9 N9; obtain ⟨e9, e8⟩ := p9; subst e8; subst e9)
      (try dsimp only at F9 N9 ⊢)
      (try k_fold)
      (repeat' (first | (k_here; (with_reducible show wpAny _ _ (call (Value.type "list") [Value.ref _]) _ _ _); k_dflt (refine list_empty (by rfl) (by k_asm) (by k_asm) (by k_mem) (by assumption) ?_); intro DqQ cqQ hqQ tkqQ FqQ NqQ l1Q; (try k_lt l1Q)) | ((with_reducible show wpAny _ _ (compareOp CmpOp.In (Value.int _ _) (Value.ref _)) _ _ _); (k_here; k_dflt (refine kda_in (knd := PySem.intKind _ _) (by k_asm) (by k_mem) (by assumption) (by assumption) (intKind_is _ _ _ _) false rfl ?_))) | ((with_reducible show wpAny _ _ (call (Value.builtin "dict.get") _) _ _ _); (k_here; k_dflt (refine table_get (by k_asm) (by k_mem) (by assumption) (by k_mem) (by k_mem) (by ktr_units) ?_); intro tkQ)) | ((with_reducible show wpAny _ _ (compareOp CmpOp.Eq Value.none (Value.ref _)) _ _ _); (k_here; k_dflt (refine eq_none_tup (by k_asm) (by k_mem) (by ktr_units) ?_))) | ((with_reducible show wpAny _ _ (setAttr (Value.ref _) _ _) _ _ _); refine stop ?_) | ((fail_if_success (with_reducible refine Stop.go ?_)); (first | (k_unfold; (try dsimp only)) | (k_end; wrow_close) | walk1 | (dsimp only; walk1) | (leave1; walk_say "STEP leave1"; try dsimp only) | fail "no step"))))
      try any_goals (first | exact Str.ofString "" | exact (0 : Nat) | exact Value.none)
      rename Fr _ _ _ _ => F9
      rename News _ _ _ _ => N9
      refine TurnV.next F9 (drop_led N9 (by intro p hp; (repeat (first | exact hp | refine List.Mem.tail _ ?_)); done)) off ⟨⟨by with_unfolding_all exact j1, rfl⟩, S9⟩
  · rintro h tk m' news' F' N' ⟨j1, rfl⟩
    (try dsimp only)
    subst e0
    (repeat' (first | (k_here; (with_reducible show wpAny _ _ (call (Value.type "list") [Value.ref _]) _ _ _); k_dflt (refine list_empty (by rfl) (by k_asm) (by k_asm) (by k_mem) (by assumption) ?_); intro DqQ cqQ hqQ tkqQ FqQ NqQ l1Q; (try k_lt l1Q)) | ((with_reducible show wpAny _ _ (compareOp CmpOp.In (Value.int _ _) (Value.ref _)) _ _ _); (k_here; k_dflt (refine kda_in (knd := PySem.intKind _ _) (by k_asm) (by k_mem) (by assumption) (by assumption) (intKind_is _ _ _ _) false rfl ?_))) | ((with_reducible show wpAny _ _ (call (Value.builtin "dict.get") _) _ _ _); (k_here; k_dflt (refine table_get (by k_asm) (by k_mem) (by assumption) (by k_mem) (by k_mem) (by ktr_units) ?_); intro tkQ)) | ((with_reducible show wpAny _ _ (compareOp CmpOp.Eq Value.none (Value.ref _)) _ _ _); (k_here; k_dflt (refine eq_none_tup (by k_asm) (by k_mem) (by ktr_units) ?_))) | ((with_reducible show wpAny _ _ (setAttr (Value.ref _) _ _) _ _ _); refine stop ?_) | ((fail_if_success (with_reducible refine Stop.go ?_)); (first | (k_unfold; (try dsimp only)) | (k_end; wrow_close) | walk1 | (dsimp only; walk1) | (leave1; walk_say "STEP leave1"; try dsimp only) | fail "no step"))))
    try any_goals (first | exact Str.ofString "" | exact (0 : Nat) | exact Value.none)
    refine Stop.go ?_
    (rename Fr _ _ _ _ => F4)
    refine For_L F4 rfl rfl ?_
    (repeat' (first | (k_here; (with_reducible show wpAny _ _ (call (Value.type "list") [Value.ref _]) _ _ _); k_dflt (refine list_empty (by rfl) (by k_asm) (by k_asm) (by k_mem) (by assumption) ?_); intro DqQ cqQ hqQ tkqQ FqQ NqQ l1Q; (try k_lt l1Q)) | ((with_reducible show wpAny _ _ (compareOp CmpOp.In (Value.int _ _) (Value.ref _)) _ _ _); (k_here; k_dflt (refine kda_in (knd := PySem.intKind _ _) (by k_asm) (by k_mem) (by assumption) (by assumption) (intKind_is _ _ _ _) false rfl ?_))) | ((with_reducible show wpAny _ _ (call (Value.builtin "dict.get") _) _ _ _); (k_here; k_dflt (refine table_get (by k_asm) (by k_mem) (by assumption) (by k_mem) (by k_mem) (by ktr_units) ?_); intro tkQ)) | ((with_reducible show wpAny _ _ (compareOp CmpOp.Eq Value.none (Value.ref _)) _ _ _); (k_here; k_dflt (refine eq_none_tup (by k_asm) (by k_mem) (by ktr_units) ?_))) | ((with_reducible show wpAny _ _ (setAttr (Value.ref _) _ _) _ _ _); refine stop ?_) | ((fail_if_success (with_reducible refine Stop.go ?_)); (first | (k_unfold; (try dsimp only)) | (k_end; wrow_close) | walk1 | (dsimp only; walk1) | (leave1; walk_say "STEP leave1"; try dsimp only) | fail "no step"))))
    try any_goals (first | exact Str.ofString "" | exact (0 : Nat) | exact Value.none)
    (rename Fr _ _ _ _ => F5); (rename News _ _ _ _ => N5)
    obtain ⟨nw1, e1⟩ := led_of N5
    refine ⟨_, #[], _, _, fun i m nw => m (Str.ofString "book") = some (.ref bk.B) ∧ nw = nw1, rfl, rfl, F5, N5, .inr ⟨_, .head _, rfl, _, rfl⟩, ⟨by with_unfolding_all exact j1, e1.symm⟩, ?_, ?_⟩
    · rintro i v m₁ news₁ h tk I oI hv
      (try dsimp only)
      simp at hv
    rintro h tk m' news' F' N' ⟨j2, rfl⟩
    (try dsimp only)
    subst e1
    (repeat' (first | (k_here; (with_reducible show wpAny _ _ (call (Value.type "list") [Value.ref _]) _ _ _); k_dflt (refine list_empty (by rfl) (by k_asm) (by k_asm) (by k_mem) (by assumption) ?_); intro DqQ cqQ hqQ tkqQ FqQ NqQ l1Q; (try k_lt l1Q)) | ((with_reducible show wpAny _ _ (compareOp CmpOp.In (Value.int _ _) (Value.ref _)) _ _ _); (k_here; k_dflt (refine kda_in (knd := PySem.intKind _ _) (by k_asm) (by k_mem) (by assumption) (by assumption) (intKind_is _ _ _ _) false rfl ?_))) | ((with_reducible show wpAny _ _ (call (Value.builtin "dict.get") _) _ _ _); (k_here; k_dflt (refine table_get (by k_asm) (by k_mem) (by assumption) (by k_mem) (by k_mem) (by ktr_units) ?_); intro tkQ)) | ((with_reducible show wpAny _ _ (compareOp CmpOp.Eq Value.none (Value.ref _)) _ _ _); (k_here; k_dflt (refine eq_none_tup (by k_asm) (by k_mem) (by ktr_units) ?_))) | ((with_reducible show wpAny _ _ (setAttr (Value.ref _) _ _) _ _ _); refine stop ?_) | ((fail_if_success (with_reducible refine Stop.go ?_)); (first | (k_unfold; (try dsimp only)) | (k_end; wrow_close) | walk1 | (dsimp only; walk1) | (leave1; walk_say "STEP leave1"; try dsimp only) | fail "no step"))))
    try any_goals (first | exact Str.ofString "" | exact (0 : Nat) | exact Value.none)
    refine Stop.go ?_
    (rename Fr _ _ _ _ => F6)
    k_dflt (refine ListComp_fT F6 (by with_unfolding_all rfl) (by decide) (by rfl) (by decide) (by rfl) ?_)
    (repeat' (first | (k_here; (with_reducible show wpAny _ _ (call (Value.type "list") [Value.ref _]) _ _ _); k_dflt (refine list_empty (by rfl) (by k_asm) (by k_asm) (by k_mem) (by assumption) ?_); intro DqQ cqQ hqQ tkqQ FqQ NqQ l1Q; (try k_lt l1Q)) | ((with_reducible show wpAny _ _ (compareOp CmpOp.In (Value.int _ _) (Value.ref _)) _ _ _); (k_here; k_dflt (refine kda_in (knd := PySem.intKind _ _) (by k_asm) (by k_mem) (by assumption) (by assumption) (intKind_is _ _ _ _) false rfl ?_))) | ((with_reducible show wpAny _ _ (call (Value.builtin "dict.get") _) _ _ _); (k_here; k_dflt (refine table_get (by k_asm) (by k_mem) (by assumption) (by k_mem) (by k_mem) (by ktr_units) ?_); intro tkQ)) | ((with_reducible show wpAny _ _ (compareOp CmpOp.Eq Value.none (Value.ref _)) _ _ _); (k_here; k_dflt (refine eq_none_tup (by k_asm) (by k_mem) (by ktr_units) ?_))) | ((with_reducible show wpAny _ _ (setAttr (Value.ref _) _ _) _ _ _); refine stop ?_) | ((fail_if_success (with_reducible refine Stop.go ?_)); (first | (k_unfold; (try dsimp only)) | (k_end; wrow_close) | walk1 | (dsimp only; walk1) | (leave1; walk_say "STEP leave1"; try dsimp only) | fail "no step"))))
    try any_goals (first | exact Str.ofString "" | exact (0 : Nat) | exact Value.none)
    refine Stop.go ?_
    k_dflt (refine compAt_list (by rfl) (by k_asm) (by k_asm) (l := bk.EL) (its := (refs es).toArray) ?_ (by rw [sizeLine_eq]; simp; omega) ?_)
    · exact .inr ⟨_, by k_mem, rfl, _, rfl⟩
    intro g9
    rw [show (refs es).toArray.size = es.length by simp]
    refine filter_rest es (fun e => .ref e.e) (fun e => decide (e.n ≠ x.n)) (by rfl) (by rfl) (by decide) ?_ ?_ ?_ ?_
    · intro i v hv a ha
      rw [List.getElem?_toArray, List.getElem?_map, ha] at hv
      exact (Option.some.inj hv).symm
    · exact .inr ⟨_, by k_mem, rfl, _, rfl⟩
    · intro e I oI C oC D m₂ h tk ys he hN hxv F9 N9 off ne
      have hinst := (hes e he).inst
      have hdict := (hes e he).dict
      (repeat' (first | (k_here; (with_reducible show wpAny _ _ (call (Value.type "list") [Value.ref _]) _ _ _); k_dflt (refine list_empty (by rfl) (by k_asm) (by k_asm) (by k_mem) (by assumption) ?_); intro DqQ cqQ hqQ tkqQ FqQ NqQ l1Q; (try k_lt l1Q)) | ((with_reducible show wpAny _ _ (compareOp CmpOp.In (Value.int _ _) (Value.ref _)) _ _ _); (k_here; k_dflt (refine kda_in (knd := PySem.intKind _ _) (by k_asm) (by k_mem) (by assumption) (by assumption) (intKind_is _ _ _ _) false rfl ?_))) | ((with_reducible show wpAny _ _ (call (Value.builtin "dict.get") _) _ _ _); (k_here; k_dflt (refine table_get (by k_asm) (by k_mem) (by assumption) (by k_mem) (by k_mem) (by ktr_units) ?_); intro tkQ)) | ((with_reducible show wpAny _ _ (compareOp CmpOp.Eq Value.none (Value.ref _)) _ _ _); (k_here; k_dflt (refine eq_none_tup (by k_asm) (by k_mem) (by ktr_units) ?_))) | ((with_reducible show wpAny _ _ (setAttr (Value.ref _) _ _) _ _ _); refine stop ?_) | ((fail_if_success (with_reducible refine Stop.go ?_)); (first | (k_unfold; (try dsimp only)) | (k_end; wrow_close) | walk1 | (dsimp only; walk1) | (leave1; walk_say "STEP leave1"; try dsimp only) | fail "no step"))))
      all_goals first
        | exact F9
        | exact N9
        | (symm; rw [decide_eq_true_eq]; omega)
        | (symm; rw [decide_eq_false_iff_not]; omega)
        | (rename_i e9 _; rw [e9]; simp)
        | (by_cases e8 : e.n = x.n <;> simp [e8])
    (unfold LCg.FinE); intro D' h' tk' F' N' o1'; (try simp only [List.nil_append, List.cons_append] at N'); (try dsimp only at F' N' ⊢); (try k_fold)
    (repeat' (first | (k_here; (with_reducible show wpAny _ _ (call (Value.type "list") [Value.ref _]) _ _ _); k_dflt (refine list_empty (by rfl) (by k_asm) (by k_asm) (by k_mem) (by assumption) ?_); intro DqQ cqQ hqQ tkqQ FqQ NqQ l1Q; (try k_lt l1Q)) | ((with_reducible show wpAny _ _ (compareOp CmpOp.In (Value.int _ _) (Value.ref _)) _ _ _); (k_here; k_dflt (refine kda_in (knd := PySem.intKind _ _) (by k_asm) (by k_mem) (by assumption) (by assumption) (intKind_is _ _ _ _) false rfl ?_))) | ((with_reducible show wpAny _ _ (call (Value.builtin "dict.get") _) _ _ _); (k_here; k_dflt (refine table_get (by k_asm) (by k_mem) (by assumption) (by k_mem) (by k_mem) (by ktr_units) ?_); intro tkQ)) | ((with_reducible show wpAny _ _ (compareOp CmpOp.Eq Value.none (Value.ref _)) _ _ _); (k_here; k_dflt (refine eq_none_tup (by k_asm) (by k_mem) (by ktr_units) ?_))) | ((with_reducible show wpAny _ _ (setAttr (Value.ref _) _ _) _ _ _); refine stop ?_) | ((fail_if_success (with_reducible refine Stop.go ?_)); (first | (k_unfold; (try dsimp only)) | (k_end; wrow_close) | walk1 | (dsimp only; walk1) | (leave1; walk_say "STEP leave1"; try dsimp only) | fail "no step"))))
    (rename News _ _ _ _ => N7)
    obtain ⟨nw2, e2⟩ := led_of N7
    have N8 := led_as e2 N7
    clear N7
    have sub2 := mem_of_led e2
    obtain ⟨c1, sub2⟩ := List.forall_mem_cons.mp sub2
    obtain ⟨c2, sub2⟩ := List.forall_mem_cons.mp sub2
    obtain ⟨c3, sub2⟩ := List.forall_mem_cons.mp sub2
    obtain ⟨c4, sub2⟩ := List.forall_mem_cons.mp sub2
    have f1 := sub2 _ hB
    have f2 := sub2 _ hdB
    have f3 := sub2 _ hM
    have f4 := sub2 _ hdM
    clear e2
    (rename _ = Data.cell _ => dc)
    have ne1 : x.M ≠ bk.dB := led_ne N8 f3 f2 inst_ne_dict
    have ne2 := led_ne_data N8 c4 f2 (cell_ne_dict dc)
    have ne3 := led_ne N8 c1 f2 list_ne_dict
    have ne4 := led_ne_data N8 c4 f4 (cell_ne_dict dc)
    have ne5 : x.M ≠ x.dM := led_ne N8 f3 f4 inst_ne_dict
    have ne6 := led_ne N8 c1 f4 list_ne_dict
    refine Stop.go ?_
    k_dflt (refine' set_led ?k1 ?k2 ?k3 ?k4 ?k5 ?k6 ?k7 ?k8 ?k9 ?k10 ?k11 ?k12 ?k13 ?_; (case k1 => k_asm); (case k2 => k_asm); (case k3 => k_asm); (case k4 => k_inst); (case k5 => exact rfl); (case k6 => k_is); (case k7 => k_is); (case k8 => k_is); (case k9 => k_is); (case k10 => k_get); (case k11 => k_put); (case k12 => k_mem); (case k13 => exact Nat.le_of_ble_eq_true rfl); k_whole; intro h' F' N'; (try k_sweep))
    (rename News _ _ _ _ => N9)
    obtain ⟨nw3, e3⟩ := led_of N9
    have N10 := led_as e3 N9
    clear N9
    have all3 : ∀ p ∈ nw2, p.1 ≠ bk.dB → p ∈ nw3 := fun p hp hh => mem_sets e3 hp hh
    have f5 := mem_sets_self e3 f2
    have f6 := all3 _ f3 ne1
    have f7 := all3 _ f4 hne
    have f8 := all3 _ c4 ne2
    have f9 := all3 _ c1 ne3
    clear f1 f2 f3 f4 c1 c2 c3 c4
    (repeat' (first | (k_here; (with_reducible show wpAny _ _ (call (Value.type "list") [Value.ref _]) _ _ _); k_dflt (refine list_empty (by rfl) (by k_asm) (by k_asm) (by k_mem) (by assumption) ?_); intro DqQ cqQ hqQ tkqQ FqQ NqQ l1Q; (try k_lt l1Q)) | ((with_reducible show wpAny _ _ (compareOp CmpOp.In (Value.int _ _) (Value.ref _)) _ _ _); (k_here; k_dflt (refine kda_in (knd := PySem.intKind _ _) (by k_asm) (by k_mem) (by assumption) (by assumption) (intKind_is _ _ _ _) false rfl ?_))) | ((with_reducible show wpAny _ _ (call (Value.builtin "dict.get") _) _ _ _); (k_here; k_dflt (refine table_get (by k_asm) (by k_mem) (by assumption) (by k_mem) (by k_mem) (by ktr_units) ?_); intro tkQ)) | ((with_reducible show wpAny _ _ (compareOp CmpOp.Eq Value.none (Value.ref _)) _ _ _); (k_here; k_dflt (refine eq_none_tup (by k_asm) (by k_mem) (by ktr_units) ?_))) | ((with_reducible show wpAny _ _ (setAttr (Value.ref _) _ _) _ _ _); refine stop ?_) | ((fail_if_success (with_reducible refine Stop.go ?_)); (first | (k_unfold; (try dsimp only)) | (k_end; wrow_close) | walk1 | (dsimp only; walk1) | (leave1; walk_say "STEP leave1"; try dsimp only) | fail "no step"))))
    refine Stop.go ?_
    k_dflt (refine' set_led ?k1 ?k2 ?k3 ?k4 ?k5 ?k6 ?k7 ?k8 ?k9 ?k10 ?k11 ?k12 ?k13 ?_; (case k1 => k_asm); (case k2 => k_asm); (case k3 => k_asm); (case k4 => k_inst); (case k5 => exact rfl); (case k6 => k_is); (case k7 => k_is); (case k8 => k_is); (case k9 => k_is); (case k10 => k_get); (case k11 => k_put); (case k12 => k_mem); (case k13 => exact Nat.le_of_ble_eq_true rfl); k_whole; intro h' F' N'; (try k_sweep))
    (rename News _ _ _ _ => N11)
    obtain ⟨nw4, e4⟩ := led_of N11
    have N12 := led_as e4 N11
    clear N11
    have all4 : ∀ p ∈ nw3, p.1 ≠ x.dM → p ∈ nw4 := fun p hp hh => mem_sets e4 hp hh
    have g1 := mem_sets_self e4 f7
    have g2 := all4 _ f5 (Ne.symm hne)
    have g3 := all4 _ f9 ne6
    (repeat' (first | (k_here; (with_reducible show wpAny _ _ (call (Value.type "list") [Value.ref _]) _ _ _); k_dflt (refine list_empty (by rfl) (by k_asm) (by k_asm) (by k_mem) (by assumption) ?_); intro DqQ cqQ hqQ tkqQ FqQ NqQ l1Q; (try k_lt l1Q)) | ((with_reducible show wpAny _ _ (compareOp CmpOp.In (Value.int _ _) (Value.ref _)) _ _ _); (k_here; k_dflt (refine kda_in (knd := PySem.intKind _ _) (by k_asm) (by k_mem) (by assumption) (by assumption) (intKind_is _ _ _ _) false rfl ?_))) | ((with_reducible show wpAny _ _ (call (Value.builtin "dict.get") _) _ _ _); (k_here; k_dflt (refine table_get (by k_asm) (by k_mem) (by assumption) (by k_mem) (by k_mem) (by ktr_units) ?_); intro tkQ)) | ((with_reducible show wpAny _ _ (compareOp CmpOp.Eq Value.none (Value.ref _)) _ _ _); (k_here; k_dflt (refine eq_none_tup (by k_asm) (by k_mem) (by ktr_units) ?_))) | ((with_reducible show wpAny _ _ (setAttr (Value.ref _) _ _) _ _ _); refine stop ?_) | ((fail_if_success (with_reducible refine Stop.go ?_)); (first | (k_unfold; (try dsimp only)) | (k_end; wrow_close) | walk1 | (dsimp only; walk1) | (leave1; walk_say "STEP leave1"; try dsimp only) | fail "no step"))))
    k_dflt refine hnext _ _ _ nw4 ?_ (by k_asm) (by k_asm) rfl
    exact ⟨rfl, _, _, _, g3, g2, g1, fun p hp h1 h2 => all4 _ (all3 _ (sub2 _ hp) h1) h2⟩
/-! M20 -/
section
variable {prog : Program} {w : World} {A : Around} {E : Value → Shared → Prop} {s : Shared} {h₀ h : Heap} {L a b D : Addr} {m : Str → Option Value} {news : Led} {vs us : List Value} {ns ms : List Int}
theorem itemsAre_ints (hi : IntsAre vs ns) : ItemsAre (intKind prog w) ns vs := by
  induction hi with
  | nil => exact .nil
  | cons _ _ _ ih => exact .cons (intKind_is _ _ _ _) ih
theorem isKey_ints (hi : IntsAre vs ns) (ho : h.get? a = some (tupO vs)) : IsTupleKey (intKind prog w) h ns a := ⟨_, _, _, ho, rfl, rfl, itemsAre_ints hi⟩
theorem ints_eqAt (N : News h₀ L s.heap news) (ha : (a, tupO vs) ∈ news) (hi : IntsAre vs ns) (hb : (b, tupO us) ∈ news) (hj : IntsAre us ms) (hu : A.units < cLine) : SeqAt.EqAt A s (.ref a) (.ref b) (decide (ns = ms)) :=
  fun _ _ _ _ h => wpAny_eqBool_tuple hu (isKey_ints hi (N _ ha).1) (isKey_ints hj (N _ hb).1) h
theorem ints5 (a0 a1 a2 a3 a4 : Int) (t0 t1 t2 t3 t4 : Tok) : IntsAre [.int a0 t0, .int a1 t1, .int a2 t2, .int a3 t3, .int a4 t4] [a0, a1, a2, a3, a4] := .cons _ _ (.cons _ _ (.cons _ _ (.cons _ _ (.cons _ _ .nil))))
theorem in_two {a1 a2 : Addr} {n1 n2 : List Int} {v1 v2 : List Value} {n : Nat} {Q : Value → Shared → Prop} (N : News h₀ L s.heap news) (hD : (D, W.listOf #[.ref a1, .ref a2] n) ∈ news) (h1 : (a1, tupO v1) ∈ news) (i1 : IntsAre v1 n1) (h2 : (a2, tupO v2) ∈ news) (i2 : IntsAre v2 n2)
    (hb : (b, tupO vs) ∈ news) (hi : IntsAre vs ns) (hu : A.units + 2 < cLine) (ht : (n1 = ns ∨ n2 = ns) → Q (.bool true) s) (hf : ¬ (n1 = ns ∨ n2 = ns) → Q (.bool false) s) :
    wpAny (model prog w) A (compareOp .In (.ref b) (.ref D)) Q E s := by
  classical
  let e : Value → Bool := fun v => decide (∃ c, v = .ref c ∧ IsTupleKey (intKind prog w) s.heap ns c)
  have ee : ∀ (c : Addr) (v : List Value) (k : List Int), (c, tupO v) ∈ news → IntsAre v k → e (.ref c) = decide (k = ns) := by
    intro c v k hc ik
    have K : IsTupleKey (intKind prog w) s.heap k c := isKey_ints ik (N _ hc).1
    refine decide_eq_decide.mpr ⟨?_, ?_⟩
    · rintro ⟨c', e', K'⟩
      cases e'
      exact K.inj K'
    · rintro rfl
      exact ⟨_, rfl, K⟩
  have hu1 : A.in1.units < cLine := by show A.units + 1 < cLine; omega
  refine SeqAt.in_listAt e ⟨_, (N _ hD).1, rfl, _, rfl⟩ (fun y hy => ?_) ?_
  · simp at hy
    rcases hy with rfl | rfl
    · rw [ee _ _ _ h1 i1]; exact ints_eqAt N h1 i1 hb hi hu1
    · rw [ee _ _ _ h2 i2]; exact ints_eqAt N h2 i2 hb hi hu1
  · have : (#[Value.ref a1, .ref a2].any e) = decide (n1 = ns ∨ n2 = ns) := by
      simp [ee _ _ _ h1 i1, ee _ _ _ h2 i2]
    rw [this]
    by_cases c : n1 = ns ∨ n2 = ns
    · rw [decide_eq_true c]; exact ht c
    · rw [decide_eq_false c]; exact hf c
theorem eq_lists_nil {n k : Nat} {Q : Value → Shared → Prop} (N : News h₀ L s.heap news) (ha : (a, W.listOf #[] n) ∈ news) (hb : (b, W.listOf #[] k) ∈ news) (hu : A.units < cLine) (h : Q (.bool true) s) : wpAny (model prog w) A (compareOp .Eq (.ref a) (.ref b)) Q E s :=
  SeqAt.eq_listAt (e := fun _ => true) ⟨_, (N _ ha).1, rfl, _, rfl⟩ ⟨_, (N _ hb).1, rfl, _, rfl⟩ rfl hu (fun j h1 => absurd h1 (Nat.not_lt_zero _)) h
theorem eq_lists_cons {n k : Nat} {v : Value} {vs : List Value} {Q : Value → Shared → Prop} (N : News h₀ L s.heap news) (ha : (a, W.listOf (v :: vs).toArray n) ∈ news) (hb : (b, W.listOf #[] k) ∈ news) (hu : A.units < cLine) (h : Q (.bool false) s) : wpAny (model prog w) A (compareOp .Eq (.ref a) (.ref b)) Q E s :=
  SeqAt.eq_list_lengthsAt ⟨_, (N _ ha).1, rfl, _, rfl⟩ ⟨_, (N _ hb).1, rfl, _, rfl⟩ (by simp) hu h
end
open LCg in
theorem CompEnd_grow {h₀ : Heap} {L I C D a : Addr} {m : Str → Option Value} {s₁ : Shared} {oI oC oD o : Obj} {S : Led → Prop} {rest : Value → Led → Prop} {y : Value} {h' : Heap} {tk : Nat} {more nw : Led}
    (F : Fr h₀ L h' m) (N : News h₀ L h' ((a, o) :: more)) (sub : ∀ p ∈ (I, oI) :: (C, oC) :: (D, oD) :: nw, p ∈ more) (n1 : @Ne Nat a I) (n2 : @Ne Nat a C) (n3 : @Ne Nat a D) (off : Off3 I C D nw) (hS : S ((a, o) :: nw)) (r : rest y ((a, o) :: nw)) :
    CompEnd h₀ L m s₁ I oI C oC D oD S rest y { s₁ with heap := h', toks := tk } := by
  refine CompEnd.intro F N ((a, o) :: nw) (fun p hp => ?_) ⟨⟨n1, n2, n3⟩, off⟩ hS r
  rcases List.mem_cons.mp hp with e | hp
  · exact .tail _ (sub p (e ▸ .head _))
  rcases List.mem_cons.mp hp with e | hp
  · exact .tail _ (sub p (e ▸ .tail _ (.head _)))
  rcases List.mem_cons.mp hp with e | hp
  · exact .tail _ (sub p (e ▸ .tail _ (.tail _ (.head _))))
  rcases List.mem_cons.mp hp with e | hp
  · exact e ▸ .head _
  · exact .tail _ (sub p (.tail _ (.tail _ (.tail _ hp))))
/-! M20b -/
section
variable {prog : Program} {w : World} {A : Around} {E : Value → Shared → Prop} {s : Shared} {h₀ : Heap} {L : Addr} {m : Str → Option Value} {news : Led}
theorem sliceApplied_two {sl : Addr} {u : Tok} {Q : Int × Int × Nat → Shared → Prop} (hs : s.heap.IsSliceOf sl .none (.int 2 u) .none) (h : Q (0, 1, 2) s) :
    wpAny (model prog w) A (Builtin.Slice.sliceApplied (.ref sl) (pure (6 : Int))) Q E s := by
  obtain ⟨os, hos, hcs, hds⟩ := id hs
  unfold Builtin.Slice.sliceApplied Builtin.Slice.sliceFields
  refine wpAny_bind (wpAny_bind (wpAny_field hos hds (x := .none) rfl (wpAny_bind (wpAny_field hos hds (x := .int 2 u) rfl (wpAny_bind (wpAny_field hos hds (x := .none) rfl (wpAny_pure ?_)))))))
  refine wpAny_bind (slicePart_none ?_)
  show wpAny _ _ (if ((1 : Int) == 0) = true then _ else _) _ _ s
  rw [if_neg (by decide)]
  refine wpAny_bind (slicePart_none (wpAny_bind (slicePart_int (wpAny_bind (wpAny_pure ?_)))))
  show wpAny _ _ (match Builtin.Slice.sliceAdjust none (some (2 : Int)) 1 (6 : Int) with | (lo, hi) => pure (lo, (1 : Int), Builtin.Slice.slicePlaces lo hi 1)) _ _ s
  rw [show Builtin.Slice.sliceAdjust none (some (2 : Int)) 1 (6 : Int) = (0, 2) from rfl]
  show wpAny _ _ (pure ((0 : Int), (1 : Int), Builtin.Slice.slicePlaces (0 : Int) (2 : Int) 1)) _ _ s
  rw [show Builtin.Slice.slicePlaces (0 : Int) (2 : Int) 1 = 2 from rfl]
  exact wpAny_pure h
theorem getItem_two {t sl : Addr} {v0 v1 v2 v3 v4 v5 : Value} {u : Tok} {Q : Value → Shared → Prop} (ht : IsTup s.heap t #[v0, v1, v2, v3, v4, v5]) (hs : s.heap.IsSliceOf sl .none (.int 2 u) .none)
    (h : Q (.ref s.heap.objs.size) { s with heap := s.heap.push { cls := .type "tuple", data := .seq #[v0, v1] } }) : wpAny (model prog w) A (getItem (.ref t) (.ref sl)) Q E s := by
  have hdrop : sizeOk (.seq #[v0, v1]) := by
    show (2 : Nat) ≤ sizeLine
    rw [sizeLine_eq]; decide
  obtain ⟨os, hos, hcs, hds⟩ := id hs
  have hTs : s.TypeIs (.ref sl) "slice" := ⟨os, hos, hcs⟩
  unfold getItem
  try with_reducible refine wpAny_holding ?_
  first | refine wpAny_bind (wpAny_pure ?_) | skip
  refine wpAny_bind (wpAny_sequenceKey ht.typeIs (by decide) ?_)
  refine wpAny_bind (wpAny_callSpecial?_slot (name := Str.ofString "__getitem__") ht.typeIs slot_tuple_getitem
    (wpAny_call_entry slot_tuple_getitem ht.typeIs entry_tuple_getitem ?_ (args_tuple_getitem _ _)))
  show wpAny _ _ (Builtin.Tuple.tupleItemsOf (.ref t) >>= _) _ _ s
  refine wpAny_bind (tupleItemsOf_ ht ?_)
  refine wpAny_bind (wpAny_typeOf hTs ?_)
  rw [if_pos (by decide)]
  refine wpAny_bind (sliceApplied_two hs ?_)
  show wpAny _ _ (if ((0 : Int) == 0 && (1 : Int) == 1 && ((2 : Nat) == 6)) = true then _ else _) _ _ s
  rw [if_neg (by decide)]
  rw [show ((List.range 2).filterMap fun (k : Nat) => (#[v0, v1, v2, v3, v4, v5] : Array Value)[((0 : Int) + (k : Int) * 1).toNat]?).toArray = #[v0, v1] from rfl]
  first
    | exact wpAny_bind (m := Builtin.Tuple.tupleExact _) (wpAny_newObj_type (wpAny_pure ⟨_, rfl, wpAny_pure h⟩) hdrop)
    | exact wpAny_bind (m := Builtin.Tuple.tupleExact _) (wpAny_newObj_type (wpAny_bind (wpAny_pure (wpAny_pure ⟨_, rfl, wpAny_pure h⟩))) hdrop)
    | exact wpAny_bind (wpAny_bind (m := Builtin.Tuple.tupleExact _) (wpAny_newObj_type (wpAny_pure (wpAny_pure ⟨_, rfl, wpAny_pure h⟩)) hdrop))
    | exact wpAny_bind (wpAny_bind (m := Builtin.Tuple.tupleExact _) (wpAny_newObj_type (wpAny_pure ⟨_, rfl, wpAny_pure h⟩) hdrop))
theorem slice_two {value slice : PySem.Expr} {t : Addr} {v0 v1 v2 v3 v4 v5 : Value} {u : Tok} {Q : Value → Shared → Prop}
    (F : Fr h₀ L s.heap m) (N : News h₀ L s.heap news) (hm : (t, tupO [v0, v1, v2, v3, v4, v5]) ∈ news)
    (h : ∀ D h', Fr h₀ L h' m → News h₀ L h' ((D, tupO [v0, v1]) :: news) → (∀ p ∈ news, p.1 < D) → Q (.ref D) { s with heap := h' })
    (hs : subscripted slice false (.ref t) (.ref s.heap.objs.size) = operate [.ref s.heap.objs.size, .ref t] (getItem (.ref t) (.ref s.heap.objs.size)) := by with_unfolding_all rfl)
    (hg : ∀ r, letTemporaryGo value (.ref t) r = pure () := by intro _; with_unfolding_all rfl) :
    wpAny (model prog w) A (subscriptTail value slice (.ref t) (.ref s.heap.objs.size)) Q E { s with heap := s.heap.push { cls := .type "slice", data := .fields #[.none, .int 2 u, .none] } } := by
  have ht : IsTup s.heap t #[v0, v1, v2, v3, v4, v5] := ⟨_, (N _ hm).1, rfl, _, rfl⟩
  have ht' : IsTup (s.heap.push { cls := .type "slice", data := .fields #[.none, .int 2 u, .none] }) t #[v0, v1, v2, v3, v4, v5] := ht.keeps fun _ _ e => Heap.get?_push_of_some _ e
  refine subscriptTail_ops (s := { s with heap := s.heap.push { cls := .type "slice", data := .fields #[.none, .int 2 u, .none] } }) ht'.typeIs slot_tuple_getitem.lookup
    (getItem_two ht' (Heap.IsSliceOf.new ..) ?_) hs hg
  have N1 := News.push (F.push { cls := .type "slice", data := .fields #[.none, .int 2 u, .none] }) (N.grown fun _ _ e => Heap.get?_push_of_some _ e) { cls := .type "tuple", data := .seq #[v0, v1] }
  rw [Heap.size_push] at N1
  show Q (.ref (s.heap.push _).objs.size) _
  rw [Heap.size_push]
  exact h _ _ ((F.push _).push _) N1 fun p hp => Nat.lt_succ_of_lt (Heap.lt_size (N p hp).1)
end
theorem SL.At.up {sl : List SL} {news news' : Led} (h : ∀ x ∈ sl, x.At news) {x : SL} (hx : x ∈ sl) (hs : ∀ p ∈ news, p ∈ news') : x.At news' := (h x hx).mono hs
section
variable {prog : Program} {w : World} {A : Around} {E : Value → Shared → Prop} {s : Shared} {h₀ : Heap} {L : Addr} {m : Str → Option Value} {news : Led}
theorem slots_list {SD : Addr} {oS : Obj} {sl : List SL} {Q : Value → Shared → Prop} (hh : A.handled = none) (F : Fr h₀ L s.heap m) (N : News h₀ L s.heap news) (hm : (SD, oS) ∈ news) (S : Slots w oS sl) (lo : (SD == sysModules) = false) (hn : sl.length ≤ 100000)
    (h : ∀ (D : Addr) c h' tk, Fr h₀ L h' m → News h₀ L h' ((D, W.listOf (sl.map fun x => Value.ref x.k).toArray c) :: news) → (∀ q ∈ news, q.1 < D) → Q (.ref D) { s with heap := h', toks := tk }) :
    wpAny (model prog w) A (call (.type "list") [.ref SD]) Q E s := by
  obtain ⟨es, ep, src, size, keys⟩ := S.src (SD := SD) hm
  refine list_raw hh F N src lo (by omega) fun D c h' tk vs F' N' l hl hv => ?_
  have e : vs = sl.map fun x => Value.ref x.k := by
    refine List.ext_getElem? fun j => ?_
    rw [List.getElem?_map]
    by_cases c : j < sl.length
    · have hx : sl[j]? = some sl[j] := List.getElem?_eq_getElem c
      have hj : j < vs.length := by omega
      obtain ⟨e, he, hve⟩ := hv j vs[j] (List.getElem?_eq_getElem hj)
      rw [List.getElem?_eq_getElem hj, hve, hx, keys j e he _ hx]; rfl
    · rw [List.getElem?_eq_none (by omega), List.getElem?_eq_none (by omega)]; rfl
  exact h D c h' tk F' (e ▸ N') l
theorem ints6 (a0 a1 a2 a3 a4 a5 : Int) (t0 t1 t2 t3 t4 t5 : Tok) : IntsAre [.int a0 t0, .int a1 t1, .int a2 t2, .int a3 t3, .int a4 t4, .int a5 t5] [a0, a1, a2, a3, a4, a5] := .cons _ _ (.cons _ _ (.cons _ _ (.cons _ _ (.cons _ _ (.cons _ _ .nil)))))
theorem four_rc {a b p q : Addr} {n z u : Int} {t1 t2 t3 r1 r2 r3 : Tok} {ps qs : List Value} {ns : List Int} (N : News h₀ L s.heap news) (ha : (a, tupO [.int n t1, .ref p, .int z t2, .int u t3]) ∈ news) (hb : (b, tupO [.int n r1, .ref q, .int z r2, .int u r3]) ∈ news)
    (hp : (p, tupO ps) ∈ news) (ip : IntsAre ps ns) (hq : (q, tupO qs) ∈ news) (iq : IntsAre qs ns) (hu : A.units + 4 < cLine) : SeqAt.RcAt A s (.ref a) (.ref b) true := by
  have hu1 : A.in1.units < cLine := by show A.units + 1 < cLine; omega
  refine SeqAt.RcAt.tuples (e := fun _ => true) ⟨_, (N _ ha).1, rfl, _, rfl⟩ ⟨_, (N _ hb).1, rfl, _, rfl⟩ (by omega) fun j h1 h2 => ?_
  have ii : ∀ (x : Int) (t r : Tok), SeqAt.EqAt A.in1 s (.int x t) (.int x r) true := fun x t r => by
    have := SeqAt.EqAt.int_int (A := A.in1) (s := s) x t x r
    rwa [beq_self_eq_true] at this
  rcases j with _ | _ | _ | _ | j
  · exact ii n t1 r1
  · have := ints_eqAt (A := A.in1) N hp ip hq iq hu1
    rwa [decide_eq_true rfl] at this
  · exact ii z t2 r2
  · exact ii u t3 r3
  · simp at h1; omega
theorem four_eqAt {a b p q : Addr} {n z u : Int} {t1 t2 t3 r1 r2 r3 : Tok} {ps qs : List Value} {ns : List Int} (N : News h₀ L s.heap news) (ha : (a, tupO [.int n t1, .ref p, .int z t2, .int u t3]) ∈ news) (hb : (b, tupO [.int n r1, .ref q, .int z r2, .int u r3]) ∈ news)
    (hp : (p, tupO ps) ∈ news) (ip : IntsAre ps ns) (hq : (q, tupO qs) ∈ news) (iq : IntsAre qs ns) (hu : A.units + 4 < cLine) : SeqAt.EqAt A s (.ref a) (.ref b) true := by
  by_cases e : a = b
  · subst e; exact SeqAt.EqAt.same _
  · exact SeqAt.EqAt.of_refs e (four_rc N ha hb hp ip hq iq hu)
end
theorem eq_lists_ne {prog : Program} {w : World} {A : Around} {E : Value → Shared → Prop} {s : Shared} {h₀ : Heap} {L a b : Addr} {news : Led} {n k : Nat} {its : Array Value} {Q : Value → Shared → Prop} (N : News h₀ L s.heap news) (ha : (a, W.listOf its n) ∈ news) (hb : (b, W.listOf #[] k) ∈ news) (hne : its.size ≠ 0) (hu : A.units < cLine) (h : Q (.bool false) s) : wpAny (model prog w) A (compareOp .Eq (.ref a) (.ref b)) Q E s :=
  SeqAt.eq_list_lengthsAt ⟨_, (N _ ha).1, rfl, _, rfl⟩ ⟨_, (N _ hb).1, rfl, _, rfl⟩ (by simpa using hne) hu h
/-! M21 -/
local macro_rules | `(tactic| walk_at "call builtin:dict.pop") => `(tactic| ((with_reducible rename Halt 4 => hx9); (k_here; k_dflt (refine slot_pop (by k_asm) (by k_asm) (by k_mem) (by assumption) ?kat (by assumption) (by first | ktr_room | ktr_units) (by omega) ?_; (case kat => (intro x hx; exact SL.At.up (by assumption) hx (by intro p hp; (repeat (first | exact hp | refine List.Mem.tail _ ?_)); done)))); intro h' tk oS' F' N' S')))
def slotFits (zf : Int → Int) (now zz b0 b1 b2 b4 b5 : Int) (x : SL) : Bool :=
  decide ([b0, b1, b2, b4, b5] = [x.a0, x.a1, x.a2, x.a3, x.a4] ∨ [b0, b1, -1, b4, b5] = [x.a0, x.a1, x.a2, x.a3, x.a4]) && (decide (zf x.n = zz) && decide (now < x.u))
theorem slotFits_true {zf : Int → Int} {now zz b0 b1 b2 b4 b5 : Int} {x : SL} (h1 : [b0, b1, b2, b4, b5] = [x.a0, x.a1, x.a2, x.a3, x.a4] ∨ [b0, b1, -1, b4, b5] = [x.a0, x.a1, x.a2, x.a3, x.a4]) (h2 : zf x.n = zz) (h3 : now < x.u) : true = slotFits zf now zz b0 b1 b2 b4 b5 x := by
  unfold slotFits; rw [decide_eq_true h1, decide_eq_true h2, decide_eq_true h3]; rfl
theorem slotFits_f1 {zf : Int → Int} {now zz b0 b1 b2 b4 b5 : Int} {x : SL} (h1 : ¬ ([b0, b1, b2, b4, b5] = [x.a0, x.a1, x.a2, x.a3, x.a4] ∨ [b0, b1, -1, b4, b5] = [x.a0, x.a1, x.a2, x.a3, x.a4])) : false = slotFits zf now zz b0 b1 b2 b4 b5 x := by
  unfold slotFits; rw [decide_eq_false h1]; rfl
theorem slotFits_f2 {zf : Int → Int} {now zz b0 b1 b2 b4 b5 : Int} {x : SL} (h2 : ¬ zf x.n = zz) : false = slotFits zf now zz b0 b1 b2 b4 b5 x := by
  unfold slotFits; rw [decide_eq_false h2]; simp
theorem slotFits_f3 {zf : Int → Int} {now zz b0 b1 b2 b4 b5 : Int} {x : SL} (h3 : ¬ now < x.u) : false = slotFits zf now zz b0 b1 b2 b4 b5 x := by
  unfold slotFits; rw [decide_eq_false h3]; simp
theorem law_take_spec {w mean mg mb base} {news : Led} {W TK NM SD q : Addr} {oW oTK oS : Obj} {tkl : List (Int × Value)} {sl : List SL} {zf : Int → Int} {zz now b0 b1 b2 b3 b4 b5 : Int} {tzz tnow r0 r1 r2 r3 r4 r5 : Tok}
    (hW : (W, oW) ∈ news) (dW : oW.IsDictOf (sKind w) [(Str.ofString "talks", .ref TK), (Str.ofString "names", .ref NM), (Str.ofString "slots", .ref SD)])
    (hTK : (TK, oTK) ∈ news) (dTK : oTK.IsDictOf (intKind Challenge.rw_pf0335_01.row.prog w) tkl) (lTK : (TK == sysModules) = false)
    (hz : ∀ x ∈ sl, ZoneOf w tkl news x.n (zf x.n))
    (hSD : (SD, oS) ∈ news) (lSD : (SD == sysModules) = false) (hS : Slots w oS sl) (hat : ∀ x ∈ sl, x.At news) (hlen : sl.length ≤ 1000)
    (hq : (q, tupO [.int b0 r0, .int b1 r1, .int b2 r2, .int b3 r3, .int b4 r4, .int b5 r5]) ∈ news) :
    Spec 8 w mean mg mb base 192 [.ref W, .int zz tzz, .ref q, .int now tnow] news (fun v news' =>
      (sl.filter (slotFits zf now zz b0 b1 b2 b4 b5) = [] ∧ v = .none ∧ ∀ p ∈ news, p ∈ news') ∨
      ∃ x rest r tz oS', sl.filter (slotFits zf now zz b0 b1 b2 b4 b5) = x :: rest ∧ v = .ref r ∧ (r, tupO [.int x.n x.tn, .ref x.b, .int zz tz, .int x.u x.tu]) ∈ news' ∧ (SD, oS') ∈ news' ∧ Slots w oS' (dropS sl x.key) ∧ ∀ p ∈ news, p.1 ≠ SD → p ∈ news') := by
  intro dp un gd cn cs a9 ccd cl outer A₀ h₀ L m h8 g8 d8 T8 os8 Q E B9 F X N T hk hd hu hret
  refine wpAny_call ?_
  k_dflt (refine' code_defC ?k1 ?k2 ?k3 ?k4 ?k5 ?kA ?kF ?kK ?k6 ?k7 ?k8 ?k9 ?kB ?kD ?_ ?c2 ?c3 ?c4; (case kA => exact rfl); (case kF => exact rfl); (case kK => assumption); (case k1 => k_asm); (case k2 => k_asm); (case k3 => k_asm); (case k4 => k_asm); (case k5 => k_asm); (case k6 => k_is); (case k7 => k_is); (case k8 => ktr_room); (case k9 => exact BindsTo.of_eq rfl); (case kB => exact rfl); (case kD => decide +kernel); (case c2 => exact rfl); (case c3 => exact rfl); (case c4 => exact rfl); k_whole; intro g' L' h' tk' cells' FG' F' N' Y' B' X' T' l1; (try k_lt l1); k_cells Y'; (try simp only [List.cons_append, List.nil_append] at N'); (try (have l1a := lt_succ_all l1; have l1b := lt_succ_all l1a; have l1c := lt_succ_all l1b; have l1d := lt_succ_all l1c; have l1e := lt_succ_all l1d; have l1f := lt_succ_all l1e)); (try dsimp only); (try k_lift B'); (try k_fold))
  refine @shut _ _ _ h₀ L m _ _ _ _ _ _ _ _ _ _ _ _ _ _ _ _ _ _ Q _ _ _ _ hret hd hu (by assumption) (fun _ _ h => h) (fun _ _ h => h) fun dp un gd outer A₀ tkS Q E Bw hd hu hret hnext => ?_
  have hG : GDO g8 d8 os8 := trivial
  have hm4 : Halt 4 := trivial
  (repeat' (first | ((with_reducible show wpAny _ _ (compareOp CmpOp.In (Value.ref _) (Value.ref _)) _ _ _); (k_here; k_dflt (refine in_two (by k_asm) (by k_mem) (by k_mem) (ints5 _ _ _ _ _ _ _ _ _ _) (by k_mem) (ints5 _ _ _ _ _ _ _ _ _ _) (by k_mem) (ints5 _ _ _ _ _ _ _ _ _ _) (by ktr_units) ?_ ?_); all_goals intro hin9Q)) | (k_here; (with_reducible show wpAny _ _ (getMethod (Value.ref _) (Str.ofString "pop") _) _ _ _); k_dflt (refine dict_method PySem.F.slot_dict_pop PySem.F.type_dict_pop (by k_asm) (by k_mem) (Slots.ex (by assumption)) ?_)) | (k_here; (with_reducible show wpAny _ _ (subscriptTail _ _ (Value.ref _) (Value.ref _)) _ _ _); k_dflt (refine slot_item2 (by k_asm) (by k_mem) (by assumption) (by assumption) (by assumption) (by intro pQ hpQ; (repeat (first | exact hpQ | refine List.Mem.tail _ ?_)); done) (by first | ktr_room | ktr_units) ?_); intro tkQ) | (k_here; (with_reducible show wpAny _ _ (subscriptTail _ (PySem.Expr.Slice _ _ none _) (Value.ref _) (Value.ref _)) _ _ _); k_dflt (refine slice_two (by k_asm) (by k_asm) (by k_mem) ?_); intro DqQ hqQ FqQ NqQ l1Q; (try k_lt l1Q)) | ((with_reducible show wpAny _ _ (exec (Stmt.Assign [Expr.Name (PySem.Str.ofString "fit") _] _ _) _) _ _ _); refine stop ?_) | ((with_reducible show wpAny _ _ (compareOp CmpOp.Eq (Value.ref _) (Value.ref _)) _ _ _); (k_here; k_dflt (first | refine eq_lists_nil (by k_asm) (by k_mem) (by k_mem) (by ktr_units) ?_ | refine eq_lists_cons (by k_asm) (by k_mem) (by k_mem) (by ktr_units) ?_))) | ((fail_if_success (with_reducible refine Stop.go ?_)); (first | (k_unfold; (try dsimp only)) | (k_end; wrow_close) | walk1 | (dsimp only; walk1) | (leave1; walk_say "STEP leave1"; try dsimp only) | fail "no step"))))
  refine Stop.go ?_
  (rename Fr _ _ _ _ => F2)
  k_dflt (refine ListComp_fU F2 (by with_unfolding_all rfl) (by decide) (by rfl) (by decide) (by rfl) ?_)
  (repeat' (first | ((with_reducible show wpAny _ _ (compareOp CmpOp.In (Value.ref _) (Value.ref _)) _ _ _); (k_here; k_dflt (refine in_two (by k_asm) (by k_mem) (by k_mem) (ints5 _ _ _ _ _ _ _ _ _ _) (by k_mem) (ints5 _ _ _ _ _ _ _ _ _ _) (by k_mem) (ints5 _ _ _ _ _ _ _ _ _ _) (by ktr_units) ?_ ?_); all_goals intro hin9Q)) | (k_here; (with_reducible show wpAny _ _ (getMethod (Value.ref _) (Str.ofString "pop") _) _ _ _); k_dflt (refine dict_method PySem.F.slot_dict_pop PySem.F.type_dict_pop (by k_asm) (by k_mem) (Slots.ex (by assumption)) ?_)) | (k_here; (with_reducible show wpAny _ _ (subscriptTail _ _ (Value.ref _) (Value.ref _)) _ _ _); k_dflt (refine slot_item2 (by k_asm) (by k_mem) (by assumption) (by assumption) (by assumption) (by intro pQ hpQ; (repeat (first | exact hpQ | refine List.Mem.tail _ ?_)); done) (by first | ktr_room | ktr_units) ?_); intro tkQ) | (k_here; (with_reducible show wpAny _ _ (subscriptTail _ (PySem.Expr.Slice _ _ none _) (Value.ref _) (Value.ref _)) _ _ _); k_dflt (refine slice_two (by k_asm) (by k_asm) (by k_mem) ?_); intro DqQ hqQ FqQ NqQ l1Q; (try k_lt l1Q)) | ((with_reducible show wpAny _ _ (exec (Stmt.Assign [Expr.Name (PySem.Str.ofString "fit") _] _ _) _) _ _ _); refine stop ?_) | ((with_reducible show wpAny _ _ (compareOp CmpOp.Eq (Value.ref _) (Value.ref _)) _ _ _); (k_here; k_dflt (first | refine eq_lists_nil (by k_asm) (by k_mem) (by k_mem) (by ktr_units) ?_ | refine eq_lists_cons (by k_asm) (by k_mem) (by k_mem) (by ktr_units) ?_))) | ((fail_if_success (with_reducible refine Stop.go ?_)); (first | (k_unfold; (try dsimp only)) | (k_end; wrow_close) | walk1 | (dsimp only; walk1) | (leave1; walk_say "STEP leave1"; try dsimp only) | fail "no step"))))
  refine Stop.go ?_
  k_dflt (refine compAt_tuple (by rfl) (by k_asm) (by k_asm) (its := #[.int b2 _, .int (-1) _]) ⟨_, _, .head _, rfl, rfl⟩ (by rw [sizeLine_eq]; exact Nat.le_of_ble_eq_true rfl) ?_)
  intro g9
  refine LCg.CompRest.succ fun v I oI C oC D m₂ h tk E' hP hN hx F9 N9 off ne => ?_
  obtain ⟨ta, rfl⟩ : ∃ t, v = .int b2 t := ⟨_, (Option.some.inj hP).symm⟩
  clear hP
  (repeat' (first | ((with_reducible show wpAny _ _ (compareOp CmpOp.In (Value.ref _) (Value.ref _)) _ _ _); (k_here; k_dflt (refine in_two (by k_asm) (by k_mem) (by k_mem) (ints5 _ _ _ _ _ _ _ _ _ _) (by k_mem) (ints5 _ _ _ _ _ _ _ _ _ _) (by k_mem) (ints5 _ _ _ _ _ _ _ _ _ _) (by ktr_units) ?_ ?_); all_goals intro hin9Q)) | (k_here; (with_reducible show wpAny _ _ (getMethod (Value.ref _) (Str.ofString "pop") _) _ _ _); k_dflt (refine dict_method PySem.F.slot_dict_pop PySem.F.type_dict_pop (by k_asm) (by k_mem) (Slots.ex (by assumption)) ?_)) | (k_here; (with_reducible show wpAny _ _ (subscriptTail _ _ (Value.ref _) (Value.ref _)) _ _ _); k_dflt (refine slot_item2 (by k_asm) (by k_mem) (by assumption) (by assumption) (by assumption) (by intro pQ hpQ; (repeat (first | exact hpQ | refine List.Mem.tail _ ?_)); done) (by first | ktr_room | ktr_units) ?_); intro tkQ) | (k_here; (with_reducible show wpAny _ _ (subscriptTail _ (PySem.Expr.Slice _ _ none _) (Value.ref _) (Value.ref _)) _ _ _); k_dflt (refine slice_two (by k_asm) (by k_asm) (by k_mem) ?_); intro DqQ hqQ FqQ NqQ l1Q; (try k_lt l1Q)) | ((with_reducible show wpAny _ _ (exec (Stmt.Assign [Expr.Name (PySem.Str.ofString "fit") _] _ _) _) _ _ _); refine stop ?_) | ((with_reducible show wpAny _ _ (compareOp CmpOp.Eq (Value.ref _) (Value.ref _)) _ _ _); (k_here; k_dflt (first | refine eq_lists_nil (by k_asm) (by k_mem) (by k_mem) (by ktr_units) ?_ | refine eq_lists_cons (by k_asm) (by k_mem) (by k_mem) (by ktr_units) ?_))) | ((fail_if_success (with_reducible refine Stop.go ?_)); (first | (k_unfold; (try dsimp only)) | (k_end; wrow_close) | walk1 | (dsimp only; walk1) | (leave1; walk_say "STEP leave1"; try dsimp only) | fail "no step"))))
  (rename Fr _ _ _ _ => F8); (rename News _ _ _ _ => N8)
  refine CompEnd_grow F8 N8 (by intro p hp; (repeat (first | exact hp | refine List.Mem.tail _ ?_)); done) (by k_ne) (by k_ne) (by k_ne) off ⟨_, _, .tail _ (.head _), rfl, rfl⟩ ?_
  clear F8 N8 hN hx ne off
  refine LCg.CompRest.succ fun v I oI C oC D m₂ h tk E' hP hN hx F9 N9 off ne => ?_
  obtain ⟨tb, rfl⟩ : ∃ t, v = .int (-1) t := ⟨_, (Option.some.inj hP).symm⟩
  clear hP
  (repeat' (first | ((with_reducible show wpAny _ _ (compareOp CmpOp.In (Value.ref _) (Value.ref _)) _ _ _); (k_here; k_dflt (refine in_two (by k_asm) (by k_mem) (by k_mem) (ints5 _ _ _ _ _ _ _ _ _ _) (by k_mem) (ints5 _ _ _ _ _ _ _ _ _ _) (by k_mem) (ints5 _ _ _ _ _ _ _ _ _ _) (by ktr_units) ?_ ?_); all_goals intro hin9Q)) | (k_here; (with_reducible show wpAny _ _ (getMethod (Value.ref _) (Str.ofString "pop") _) _ _ _); k_dflt (refine dict_method PySem.F.slot_dict_pop PySem.F.type_dict_pop (by k_asm) (by k_mem) (Slots.ex (by assumption)) ?_)) | (k_here; (with_reducible show wpAny _ _ (subscriptTail _ _ (Value.ref _) (Value.ref _)) _ _ _); k_dflt (refine slot_item2 (by k_asm) (by k_mem) (by assumption) (by assumption) (by assumption) (by intro pQ hpQ; (repeat (first | exact hpQ | refine List.Mem.tail _ ?_)); done) (by first | ktr_room | ktr_units) ?_); intro tkQ) | (k_here; (with_reducible show wpAny _ _ (subscriptTail _ (PySem.Expr.Slice _ _ none _) (Value.ref _) (Value.ref _)) _ _ _); k_dflt (refine slice_two (by k_asm) (by k_asm) (by k_mem) ?_); intro DqQ hqQ FqQ NqQ l1Q; (try k_lt l1Q)) | ((with_reducible show wpAny _ _ (exec (Stmt.Assign [Expr.Name (PySem.Str.ofString "fit") _] _ _) _) _ _ _); refine stop ?_) | ((with_reducible show wpAny _ _ (compareOp CmpOp.Eq (Value.ref _) (Value.ref _)) _ _ _); (k_here; k_dflt (first | refine eq_lists_nil (by k_asm) (by k_mem) (by k_mem) (by ktr_units) ?_ | refine eq_lists_cons (by k_asm) (by k_mem) (by k_mem) (by ktr_units) ?_))) | ((fail_if_success (with_reducible refine Stop.go ?_)); (first | (k_unfold; (try dsimp only)) | (k_end; wrow_close) | walk1 | (dsimp only; walk1) | (leave1; walk_say "STEP leave1"; try dsimp only) | fail "no step"))))
  (rename Fr _ _ _ _ => F8); (rename News _ _ _ _ => N8)
  refine CompEnd_grow F8 N8 (by intro p hp; (repeat (first | exact hp | refine List.Mem.tail _ ?_)); done) (by k_ne) (by k_ne) (by k_ne) off ⟨_, _, .tail _ (.tail _ (.head _)), rfl, rfl⟩ ?_
  clear F8 N8 hN hx ne off
  refine LCg.CompRest.zero ?_
  (unfold LCg.FinE); intro D' h' tk' F' N' o1'; (try simp only [LCg.Off1] at o1'); (try simp only [List.nil_append, List.cons_append] at N'); (try dsimp only at F' N' ⊢); (try k_fold)
  (repeat' (first | ((with_reducible show wpAny _ _ (compareOp CmpOp.In (Value.ref _) (Value.ref _)) _ _ _); (k_here; k_dflt (refine in_two (by k_asm) (by k_mem) (by k_mem) (ints5 _ _ _ _ _ _ _ _ _ _) (by k_mem) (ints5 _ _ _ _ _ _ _ _ _ _) (by k_mem) (ints5 _ _ _ _ _ _ _ _ _ _) (by ktr_units) ?_ ?_); all_goals intro hin9Q)) | (k_here; (with_reducible show wpAny _ _ (getMethod (Value.ref _) (Str.ofString "pop") _) _ _ _); k_dflt (refine dict_method PySem.F.slot_dict_pop PySem.F.type_dict_pop (by k_asm) (by k_mem) (Slots.ex (by assumption)) ?_)) | (k_here; (with_reducible show wpAny _ _ (subscriptTail _ _ (Value.ref _) (Value.ref _)) _ _ _); k_dflt (refine slot_item2 (by k_asm) (by k_mem) (by assumption) (by assumption) (by assumption) (by intro pQ hpQ; (repeat (first | exact hpQ | refine List.Mem.tail _ ?_)); done) (by first | ktr_room | ktr_units) ?_); intro tkQ) | (k_here; (with_reducible show wpAny _ _ (subscriptTail _ (PySem.Expr.Slice _ _ none _) (Value.ref _) (Value.ref _)) _ _ _); k_dflt (refine slice_two (by k_asm) (by k_asm) (by k_mem) ?_); intro DqQ hqQ FqQ NqQ l1Q; (try k_lt l1Q)) | ((with_reducible show wpAny _ _ (exec (Stmt.Assign [Expr.Name (PySem.Str.ofString "fit") _] _ _) _) _ _ _); refine stop ?_) | ((with_reducible show wpAny _ _ (compareOp CmpOp.Eq (Value.ref _) (Value.ref _)) _ _ _); (k_here; k_dflt (first | refine eq_lists_nil (by k_asm) (by k_mem) (by k_mem) (by ktr_units) ?_ | refine eq_lists_cons (by k_asm) (by k_mem) (by k_mem) (by ktr_units) ?_))) | ((fail_if_success (with_reducible refine Stop.go ?_)); (first | (k_unfold; (try dsimp only)) | (k_end; wrow_close) | walk1 | (dsimp only; walk1) | (leave1; walk_say "STEP leave1"; try dsimp only) | fail "no step"))))
  refine Stop.go ?_
  (rename Fr _ _ _ _ => F3)
  obtain ⟨es9, ep9, src9, size9, keys9⟩ := hS.src (SD := SD) hSD
  k_dflt (refine Assign_fT F3 (by rfl) (by with_unfolding_all rfl) (by with_unfolding_all rfl) (by decide) (by rfl) (by decide) (by rfl) (by rfl) (by rfl) ?_)
  (repeat' (first | ((with_reducible show wpAny _ _ (compareOp CmpOp.In (Value.ref _) (Value.ref _)) _ _ _); (k_here; k_dflt (refine in_two (by k_asm) (by k_mem) (by k_mem) (ints5 _ _ _ _ _ _ _ _ _ _) (by k_mem) (ints5 _ _ _ _ _ _ _ _ _ _) (by k_mem) (ints5 _ _ _ _ _ _ _ _ _ _) (by ktr_units) ?_ ?_); all_goals intro hin9Q)) | (k_here; (with_reducible show wpAny _ _ (getMethod (Value.ref _) (Str.ofString "pop") _) _ _ _); k_dflt (refine dict_method PySem.F.slot_dict_pop PySem.F.type_dict_pop (by k_asm) (by k_mem) (Slots.ex (by assumption)) ?_)) | (k_here; (with_reducible show wpAny _ _ (subscriptTail _ _ (Value.ref _) (Value.ref _)) _ _ _); k_dflt (refine slot_item2 (by k_asm) (by k_mem) (by assumption) (by assumption) (by assumption) (by intro pQ hpQ; (repeat (first | exact hpQ | refine List.Mem.tail _ ?_)); done) (by first | ktr_room | ktr_units) ?_); intro tkQ) | (k_here; (with_reducible show wpAny _ _ (subscriptTail _ (PySem.Expr.Slice _ _ none _) (Value.ref _) (Value.ref _)) _ _ _); k_dflt (refine slice_two (by k_asm) (by k_asm) (by k_mem) ?_); intro DqQ hqQ FqQ NqQ l1Q; (try k_lt l1Q)) | ((with_reducible show wpAny _ _ (exec (Stmt.Assign [Expr.Name (PySem.Str.ofString "fit") _] _ _) _) _ _ _); refine stop ?_) | ((with_reducible show wpAny _ _ (compareOp CmpOp.Eq (Value.ref _) (Value.ref _)) _ _ _); (k_here; k_dflt (first | refine eq_lists_nil (by k_asm) (by k_mem) (by k_mem) (by ktr_units) ?_ | refine eq_lists_cons (by k_asm) (by k_mem) (by k_mem) (by ktr_units) ?_))) | ((fail_if_success (with_reducible refine Stop.go ?_)); (first | (k_unfold; (try dsimp only)) | (k_end; wrow_close) | walk1 | (dsimp only; walk1) | (leave1; walk_say "STEP leave1"; try dsimp only) | fail "no step"))))
  refine Stop.go ?_
  k_dflt (refine compAt_dict (by rfl) lSD (by k_asm) (by k_asm) (es := es9) (ep := ep9) ?_ (by rw [sizeLine_eq, size9]; omega) ?_)
  · exact src9.mono (by intro p hp; (repeat (first | exact hp | refine List.Mem.tail _ ?_)); done)
  intro g9
  rw [size9]
  refine filter_rest sl (fun x => .ref x.k) (slotFits zf now zz b0 b1 b2 b4 b5) (by rfl) (by rfl) (by decide) ?_ ?_ ?_ ?_
  · rintro i v ⟨e, he, rfl⟩ a ha
    exact keys9 i e he a ha
  · exact src9.mono (by intro p hp; (repeat (first | exact hp | refine List.Mem.tail _ ?_)); done)
  · intro x I oI C oC D m₂ h tk ys hx hN hxv F9 N9 off ne
    have hk9 := (hat x hx).hk
    have hb9 := (hat x hx).hb
    obtain ⟨Tz, oTz, zt, stz, tsz, Edz, v1, v2, v3⟩ := hz x hx
    (repeat' (first | ((with_reducible show wpAny _ _ (compareOp CmpOp.In (Value.ref _) (Value.ref _)) _ _ _); (k_here; k_dflt (refine in_two (by k_asm) (by k_mem) (by k_mem) (ints5 _ _ _ _ _ _ _ _ _ _) (by k_mem) (ints5 _ _ _ _ _ _ _ _ _ _) (by k_mem) (ints5 _ _ _ _ _ _ _ _ _ _) (by ktr_units) ?_ ?_); all_goals intro hin9Q)) | (k_here; (with_reducible show wpAny _ _ (getMethod (Value.ref _) (Str.ofString "pop") _) _ _ _); k_dflt (refine dict_method PySem.F.slot_dict_pop PySem.F.type_dict_pop (by k_asm) (by k_mem) (Slots.ex (by assumption)) ?_)) | (k_here; (with_reducible show wpAny _ _ (subscriptTail _ _ (Value.ref _) (Value.ref _)) _ _ _); k_dflt (refine slot_item2 (by k_asm) (by k_mem) (by assumption) (by assumption) (by assumption) (by intro pQ hpQ; (repeat (first | exact hpQ | refine List.Mem.tail _ ?_)); done) (by first | ktr_room | ktr_units) ?_); intro tkQ) | (k_here; (with_reducible show wpAny _ _ (subscriptTail _ (PySem.Expr.Slice _ _ none _) (Value.ref _) (Value.ref _)) _ _ _); k_dflt (refine slice_two (by k_asm) (by k_asm) (by k_mem) ?_); intro DqQ hqQ FqQ NqQ l1Q; (try k_lt l1Q)) | ((with_reducible show wpAny _ _ (exec (Stmt.Assign [Expr.Name (PySem.Str.ofString "fit") _] _ _) _) _ _ _); refine stop ?_) | ((with_reducible show wpAny _ _ (compareOp CmpOp.Eq (Value.ref _) (Value.ref _)) _ _ _); (k_here; k_dflt (first | refine eq_lists_nil (by k_asm) (by k_mem) (by k_mem) (by ktr_units) ?_ | refine eq_lists_cons (by k_asm) (by k_mem) (by k_mem) (by ktr_units) ?_))) | ((fail_if_success (with_reducible refine Stop.go ?_)); (first | (k_unfold; (try dsimp only)) | (k_end; wrow_close) | walk1 | (dsimp only; walk1) | (leave1; walk_say "STEP leave1"; try dsimp only) | fail "no step"))))
    all_goals first
      | exact F9
      | exact N9
      | (refine slotFits_f1 ?_; assumption)
      | (refine slotFits_true ?_ ?_ ?_ <;> first | assumption | omega)
      | (refine slotFits_f2 ?_; omega)
      | (refine slotFits_f3 ?_; omega)
  (unfold LCg.FinA); intro D' h' tk' F' N' o1'; (try simp only [LCg.Off1] at o1'); (try simp only [List.nil_append, List.cons_append] at N'); (try dsimp only at F' N' ⊢); (try k_fold)
  cases hf : sl.filter (slotFits zf now zz b0 b1 b2 b4 b5) with
  | nil =>
    rw [hf] at N'
    simp only [List.map_nil] at N'
    (repeat' (first | ((with_reducible show wpAny _ _ (compareOp CmpOp.In (Value.ref _) (Value.ref _)) _ _ _); (k_here; k_dflt (refine in_two (by k_asm) (by k_mem) (by k_mem) (ints5 _ _ _ _ _ _ _ _ _ _) (by k_mem) (ints5 _ _ _ _ _ _ _ _ _ _) (by k_mem) (ints5 _ _ _ _ _ _ _ _ _ _) (by ktr_units) ?_ ?_); all_goals intro hin9Q)) | (k_here; (with_reducible show wpAny _ _ (getMethod (Value.ref _) (Str.ofString "pop") _) _ _ _); k_dflt (refine dict_method PySem.F.slot_dict_pop PySem.F.type_dict_pop (by k_asm) (by k_mem) (Slots.ex (by assumption)) ?_)) | (k_here; (with_reducible show wpAny _ _ (subscriptTail _ _ (Value.ref _) (Value.ref _)) _ _ _); k_dflt (refine slot_item2 (by k_asm) (by k_mem) (by assumption) (by assumption) (by assumption) (by intro pQ hpQ; (repeat (first | exact hpQ | refine List.Mem.tail _ ?_)); done) (by first | ktr_room | ktr_units) ?_); intro tkQ) | (k_here; (with_reducible show wpAny _ _ (subscriptTail _ (PySem.Expr.Slice _ _ none _) (Value.ref _) (Value.ref _)) _ _ _); k_dflt (refine slice_two (by k_asm) (by k_asm) (by k_mem) ?_); intro DqQ hqQ FqQ NqQ l1Q; (try k_lt l1Q)) | ((with_reducible show wpAny _ _ (exec (Stmt.Assign [Expr.Name (PySem.Str.ofString "fit") _] _ _) _) _ _ _); refine stop ?_) | ((with_reducible show wpAny _ _ (compareOp CmpOp.Eq (Value.ref _) (Value.ref _)) _ _ _); (k_here; k_dflt (first | refine eq_lists_nil (by k_asm) (by k_mem) (by k_mem) (by ktr_units) ?_ | refine eq_lists_cons (by k_asm) (by k_mem) (by k_mem) (by ktr_units) ?_))) | ((fail_if_success (with_reducible refine Stop.go ?_)); (first | (k_unfold; (try dsimp only)) | (k_end; wrow_close) | walk1 | (dsimp only; walk1) | (leave1; walk_say "STEP leave1"; try dsimp only) | fail "no step"))))
    k_dflt refine hret _ _ _ _ ?_ (by k_asm) (by k_asm)
    exact .inl ⟨hf, rfl, by intro p hp; (repeat (first | exact hp | refine List.Mem.tail _ ?_)); done⟩
  | cons x rest =>
    rw [hf] at N'
    simp only [List.map_cons] at N'
    have hx : x ∈ sl := (List.mem_filter.mp (hf ▸ List.mem_cons_self : x ∈ sl.filter (slotFits zf now zz b0 b1 b2 b4 b5))).1
    have hk9 := (hat x hx).hk
    have hi0 : (Value.ref x.k :: rest.map fun x => Value.ref x.k).toArray[(0 : Int).toNat]? = some (.ref x.k) := rfl
    (repeat' (first | ((with_reducible show wpAny _ _ (compareOp CmpOp.In (Value.ref _) (Value.ref _)) _ _ _); (k_here; k_dflt (refine in_two (by k_asm) (by k_mem) (by k_mem) (ints5 _ _ _ _ _ _ _ _ _ _) (by k_mem) (ints5 _ _ _ _ _ _ _ _ _ _) (by k_mem) (ints5 _ _ _ _ _ _ _ _ _ _) (by ktr_units) ?_ ?_); all_goals intro hin9Q)) | (k_here; (with_reducible show wpAny _ _ (getMethod (Value.ref _) (Str.ofString "pop") _) _ _ _); k_dflt (refine dict_method PySem.F.slot_dict_pop PySem.F.type_dict_pop (by k_asm) (by k_mem) (Slots.ex (by assumption)) ?_)) | (k_here; (with_reducible show wpAny _ _ (subscriptTail _ _ (Value.ref _) (Value.ref _)) _ _ _); k_dflt (refine slot_item2 (by k_asm) (by k_mem) (by assumption) (by assumption) (by assumption) (by intro pQ hpQ; (repeat (first | exact hpQ | refine List.Mem.tail _ ?_)); done) (by first | ktr_room | ktr_units) ?_); intro tkQ) | (k_here; (with_reducible show wpAny _ _ (subscriptTail _ (PySem.Expr.Slice _ _ none _) (Value.ref _) (Value.ref _)) _ _ _); k_dflt (refine slice_two (by k_asm) (by k_asm) (by k_mem) ?_); intro DqQ hqQ FqQ NqQ l1Q; (try k_lt l1Q)) | ((with_reducible show wpAny _ _ (exec (Stmt.Assign [Expr.Name (PySem.Str.ofString "fit") _] _ _) _) _ _ _); refine stop ?_) | ((with_reducible show wpAny _ _ (compareOp CmpOp.Eq (Value.ref _) (Value.ref _)) _ _ _); (k_here; k_dflt (first | refine eq_lists_nil (by k_asm) (by k_mem) (by k_mem) (by ktr_units) ?_ | refine eq_lists_cons (by k_asm) (by k_mem) (by k_mem) (by ktr_units) ?_))) | ((fail_if_success (with_reducible refine Stop.go ?_)); (first | (k_unfold; (try dsimp only)) | (k_end; wrow_close) | walk1 | (dsimp only; walk1) | (leave1; walk_say "STEP leave1"; try dsimp only) | fail "no step"))))
    k_dflt refine hret _ _ _ _ ?_ (by k_asm) (by k_asm)
    exact .inr ⟨x, rest, _, _, _, hf, rfl, .head _, .tail _ (mem_set_self (by k_mem)), by assumption, fun p hp hne => .tail _ (mem_set_ne (by (repeat (first | exact hp | refine List.Mem.tail _ ?_)); done) hne)⟩
/-! M22 -/
theorem idx_fact {sl : List SL} (h : sl ≠ []) {n : Int} (hp : 0 ≤ n) : ∃ x ∈ sl, (sl.map fun x => Value.ref x.k).toArray[(n.fmod ((sl.map fun x => Value.ref x.k).toArray.size : Int)).toNat]? = some (.ref x.k) ∧ 0 ≤ n.fmod ((sl.map fun x => Value.ref x.k).toArray.size : Int) ∧ n.fmod ((sl.map fun x => Value.ref x.k).toArray.size : Int) < (sl.length : Int) ∧ ¬ ((sl.map fun x => Value.ref x.k).toArray.size : Int) = 0 := by
  have hs : ((sl.map fun x => Value.ref x.k).toArray.size : Int) = sl.length := by simp
  rw [hs]
  have hl : 0 < sl.length := List.length_pos_iff.mpr h
  have a := Int.fmod_nonneg_of_pos n (show (0 : Int) < (sl.length : Int) by omega)
  have b := Int.fmod_lt_of_pos n (show (0 : Int) < (sl.length : Int) by omega)
  have c : (n.fmod (sl.length : Int)).toNat < sl.length := by omega
  refine ⟨sl[(n.fmod (sl.length : Int)).toNat], List.getElem_mem c, ?_, a, b, by omega⟩
  rw [List.getElem?_toArray, List.getElem?_map, List.getElem?_eq_getElem c]; rfl
theorem five {p : Prop} {n : Int} (h : n = 1 ∨ n = 2 ∨ n = 3 ∨ n = 4 ∨ n = 5) (k : (n = 1 ∨ n = 2 ∨ n = 3 ∨ n = 4 ∨ n = 5) → p) : p := k h
theorem SeqV.retd {h₀ : Heap} {L : Addr} {J : (Str → Option Value) → Led → Prop} {g : Array GenState} {d : Drawn} {os : OsState} {Q Q1 : Flow → Shared → Prop} {s₂ : Shared} {v : Value} (K1 : ∀ f s, SeqV h₀ L J g d os Q f s → Q1 f s) (h : Q (.ret v) s₂) : Q1 (.ret v) s₂ := K1 _ _ h
set_option genInjectivity false in
set_option genSizeOf false in
/-- the aim's middle: its locals -/
structure AM where
  flaw : Int
  tf : Tok
  host : Int
  th : Tok
  sport : Int
  ts : Tok
  zone : Int
  tz : Tok
  p0 : Int
  p1 : Int
  p2 : Int
  p3 : Int
  p4 : Int
  s0 : Tok
  s1 : Tok
  s2 : Tok
  s3 : Tok
  s4 : Tok
  PL : Addr
  ep : Nat
  rest : Led
structure AM.Is (x : AM) (news : Led) (m : Str → Option Value) (nw : Led) : Prop where
  mflaw : m (Str.ofString "flaw") = some (.int x.flaw x.tf)
  mhost : m (Str.ofString "host") = some (.int x.host x.th)
  msport : m (Str.ofString "sport") = some (.int x.sport x.ts)
  mzone : m (Str.ofString "zone") = some (.int x.zone x.tz)
  mparts : m (Str.ofString "parts") = some (.ref x.PL)
  flaw0 : 0 ≤ x.flaw
  flaw12 : x.flaw < 12
  host0 : 0 ≤ x.host
  sport0 : 0 ≤ x.sport
  sport4 : x.sport < 4
  led : nw = (x.PL, PySem.W.listOf #[.int x.p0 x.s0, .int x.p1 x.s1, .int x.p2 x.s2, .int x.p3 x.s3, .int x.p4 x.s4] x.ep) :: x.rest
  low : ∀ p ∈ x.rest, p.1 < x.PL
  sub : ∀ p ∈ news, p ∈ x.rest
inductive Aimed (news : Led) (v : Value) (news' : Led) : Prop
  | mk (r q : Addr) (zz : Int) (tz : Tok) (c0 c1 c2 c3 c4 c5 : Int) (r0 r1 r2 r3 r4 r5 : Tok) (z0 : v = .ref r) (z1 : (r, tupO [.int zz tz, .ref q]) ∈ news') (z2 : (q, tupO [.int c0 r0, .int c1 r1, .int c2 r2, .int c3 r3, .int c4 r4, .int c5 r5]) ∈ news') (z3 : ∀ p ∈ news, p ∈ news') : Aimed news v news'
theorem aim_spec {w mean mg mb base} {news : Led} {W TK NM SD T4 Ed4 Th4 Ba4 : Addr} {oW oTK oS oT4 : Obj} {tkl : List (Int × Value)} {sl : List SL} {zf : Int → Int} {rest z4 st4 e0 e1 e2 e3 e4 e5 : Int} {trest tz4 ts4 u0 u1 u2 u3 u4 u5 : Tok}
    (hW : (W, oW) ∈ news) (dW : oW.IsDictOf (sKind w) [(Str.ofString "talks", .ref TK), (Str.ofString "names", .ref NM), (Str.ofString "slots", .ref SD)])
    (hTK : (TK, oTK) ∈ news) (dTK : oTK.IsDictOf (intKind Challenge.rw_pf0335_01.row.prog w) tkl)
    (v4 : valueAt tkl 4 = some (.ref T4)) (hT4 : (T4, oT4) ∈ news) (dT4 : oT4.IsDictOf (sKind w) [(Str.ofString "zone", .int z4 tz4), (Str.ofString "status", .int st4 ts4), (Str.ofString "ends", .ref Ed4)])
    (hEd4 : (Ed4, tupO [.ref Th4, .ref Ba4]) ∈ news) (hBa4 : (Ba4, tupO [.int e0 u0, .int e1 u1, .int e2 u2, .int e3 u3, .int e4 u4, .int e5 u5]) ∈ news)
    (hz : ∀ x ∈ sl, ZoneOf w tkl news x.n (zf x.n))
    (hSD : (SD, oS) ∈ news) (lSD : (SD == sysModules) = false) (hS : Slots w oS sl) (hat : ∀ x ∈ sl, x.At news) (hlen : sl.length ≤ 1000) (h0 : 0 ≤ rest) :
    Spec 8 w mean mg mb base 199 [.ref W, .int rest trest] news (fun v news' => Aimed news v news') := by
  intro dp un gd cn cs a9 ccd cl outer A₀ h₀ L m h8 g8 d8 T8 os8 Q E B9 F X N T hk hd hu hret
  have hlen5 : sl.length ≤ 100000 := by omega
  have hz1 : (sl.map fun x => Value.ref x.k).toArray.size ≤ 100000 := by simp; omega
  refine wpAny_call ?_
  k_dflt cell_enter
  refine @shut _ _ _ h₀ L m _ _ _ _ _ _ _ _ _ _ _ _ _ _ _ _ _ _ Q _ _ _ _ hret hd hu (by assumption) (fun _ _ h => h) (fun _ _ h => h) fun dp un gd outer A₀ tkS Q E Bw hd hu hret hnext => ?_
  have hG : GDO g8 d8 os8 := trivial
  (rename Fr _ _ _ _ => F1)
  refine seq_cut (b1 := [_, _, _, _, _, _]) F1 (fun m nw => ∃ x : AM, x.Is news m nw) ?_ ?_
  · intro Q1 K1; (repeat' (first | ((with_reducible show wpAny _ _ (compareOp CmpOp.Eq (Value.ref _) (Value.ref _)) _ _ _); (k_here; k_dflt (first | refine eq_lists_nil (by k_asm) (by k_mem) (by k_mem) (by ktr_units) ?_ | refine eq_lists_ne (by k_asm) (by k_mem) (by k_mem) (by assumption) (by ktr_units) ?_))) | (k_here; (with_reducible show wpAny _ _ (call (Value.type "list") [Value.ref _]) _ _ _); k_dflt (refine slots_list (by rfl) (by k_asm) (by k_asm) (by k_mem) (by assumption) (by assumption) (by assumption) ?_); intro DqQ cqQ hqQ tkqQ FqQ NqQ l1Q; (try k_lt l1Q)) | ((fail_if_success (with_reducible refine Stop.go ?_)); (first | (k_unfold; (try dsimp only)) | (k_end; wrow_close) | walk1 | (dsimp only; walk1) | (leave1; walk_say "STEP leave1"; try dsimp only) | fail "no step"))))
    refine Stop.go ?_
    (try k_fold)
    k_dflt refine (Spec.use (by k_asm) (by k_asm) (by k_asm) (by k_asm) (by k_asm) (by first | exact rfl | assumption) (digits_spec (bs := [16, 12, 4, 4]) (by k_mem) (by (repeat (first | exact IntsAre.nil | refine IntsAre.cons _ _ ?_))) (by decide) (by decide) h0) (by ktr_room) (by ktr_units) ?_)
    rintro v h' tk news' ⟨l9, ys, rfl, rfl, hys, hl9⟩ F9 N9
    refine digsE4 hys (by decide) (by decide) (by decide) (by decide) h0 fun pick flaw host sport t1 t2 t3 t4 l1 u1 l2 u2 l3 u3 l4 u4 ey => ?_
    subst ey
    have t9 : Halt 0 := trivial
    clear hys
    (try dsimp only at F9 N9 ⊢)
    (try k_fold)
    by_cases hnil : sl = []
    · subst hnil
      (repeat' (first | ((with_reducible show wpAny _ _ (compareOp CmpOp.Eq (Value.ref _) (Value.ref _)) _ _ _); (k_here; k_dflt (first | refine eq_lists_nil (by k_asm) (by k_mem) (by k_mem) (by ktr_units) ?_ | refine eq_lists_ne (by k_asm) (by k_mem) (by k_mem) (by assumption) (by ktr_units) ?_))) | (k_here; (with_reducible show wpAny _ _ (call (Value.type "list") [Value.ref _]) _ _ _); k_dflt (refine slots_list (by rfl) (by k_asm) (by k_asm) (by k_mem) (by assumption) (by assumption) (by assumption) ?_); intro DqQ cqQ hqQ tkqQ FqQ NqQ l1Q; (try k_lt l1Q)) | ((fail_if_success (with_reducible refine Stop.go ?_)); (first | (k_unfold; (try dsimp only)) | (k_end; wrow_close) | walk1 | (dsimp only; walk1) | (leave1; walk_say "STEP leave1"; try dsimp only) | fail "no step"))))
      refine SeqV.retd K1 ?_
      (repeat' (first | ((with_reducible show wpAny _ _ (compareOp CmpOp.Eq (Value.ref _) (Value.ref _)) _ _ _); (k_here; k_dflt (first | refine eq_lists_nil (by k_asm) (by k_mem) (by k_mem) (by ktr_units) ?_ | refine eq_lists_ne (by k_asm) (by k_mem) (by k_mem) (by assumption) (by ktr_units) ?_))) | (k_here; (with_reducible show wpAny _ _ (call (Value.type "list") [Value.ref _]) _ _ _); k_dflt (refine slots_list (by rfl) (by k_asm) (by k_asm) (by k_mem) (by assumption) (by assumption) (by assumption) ?_); intro DqQ cqQ hqQ tkqQ FqQ NqQ l1Q; (try k_lt l1Q)) | ((fail_if_success (with_reducible refine Stop.go ?_)); (first | (k_unfold; (try dsimp only)) | (k_end; wrow_close) | walk1 | (dsimp only; walk1) | (leave1; walk_say "STEP leave1"; try dsimp only) | fail "no step"))))
      k_dflt refine hret _ _ _ _ ?_ (by k_asm) (by k_asm)
      exact ⟨_, _, _, _, _, _, _, _, _, _, _, _, _, _, _, _, rfl, .head _, by k_mem, by intro p hp; (repeat (first | exact hp | refine List.Mem.tail _ ?_)); done⟩
    obtain ⟨x, hx, i1, i2, i3, i4⟩ := idx_fact hnil (n := pick) l1
    have i5 : (pick.fmod ((sl.map fun x => Value.ref x.k).toArray.size : Int)) < 100000 := by omega
    have i6 : (sl.map fun x => Value.ref x.k).toArray.size ≠ 0 := by intro h; exact i4 (by rw [h]; rfl)
    have hk9 := (hat x hx).hk
    have hb9 := (hat x hx).hb
    obtain ⟨Tz, oTz, zt, stz, tsz, Edz, v1, v2, v3⟩ := hz x hx
    (repeat' (first | ((with_reducible show wpAny _ _ (compareOp CmpOp.Eq (Value.ref _) (Value.ref _)) _ _ _); (k_here; k_dflt (first | refine eq_lists_nil (by k_asm) (by k_mem) (by k_mem) (by ktr_units) ?_ | refine eq_lists_ne (by k_asm) (by k_mem) (by k_mem) (by assumption) (by ktr_units) ?_))) | (k_here; (with_reducible show wpAny _ _ (call (Value.type "list") [Value.ref _]) _ _ _); k_dflt (refine slots_list (by rfl) (by k_asm) (by k_asm) (by k_mem) (by assumption) (by assumption) (by assumption) ?_); intro DqQ cqQ hqQ tkqQ FqQ NqQ l1Q; (try k_lt l1Q)) | ((fail_if_success (with_reducible refine Stop.go ?_)); (first | (k_unfold; (try dsimp only)) | (k_end; wrow_close) | walk1 | (dsimp only; walk1) | (leave1; walk_say "STEP leave1"; try dsimp only) | fail "no step"))))
    (rename Fr _ _ _ _ => F3)
    (rename News _ _ _ _ => N3)
    refine' SeqV.next K1 F3 (drop_led N3 ?led) ⟨⟨flaw, _, host, _, sport, _, _, _, _, _, _, _, _, _, _, _, _, _, _, _, news⟩, { mflaw := rfl, mhost := rfl, msport := rfl, mzone := rfl, mparts := rfl, flaw0 := l2, flaw12 := u2, host0 := l3, sport0 := l4, sport4 := u4, led := rfl, low := ?low, sub := fun _ hp => hp }⟩
    case low => exact tail_lt (by assumption) (by intro p hp; (repeat (first | exact hp | refine List.Mem.tail _ ?_)); done)
    case led =>
      refine List.forall_mem_cons.mpr ⟨by k_mem, ?_⟩
      intro p hp; (repeat (first | exact hp | refine List.Mem.tail _ ?_)); done
  rintro h2 tk2 m2 nw2 F2 N2 ⟨⟨flaw, tf, host, th, sport, ts, zone, tz, p0, p1, p2, p3, p4, s0, s1, s2, s3, s4, PL, ep, rest⟩, j1, j2, j3, j4, j5, c1, c2, c3, c4, c5, rfl, c6, c7⟩
  dsimp only at j1 j2 j3 j4 j5 c1 c2 c3 c4 c5 c6 c7 N2 ⊢
  refine seq_cut (b1 := [_]) F2 (fun m nw => ∃ x : AM, x.Is news m nw) ?_ ?_
  · intro Q1 K1; (try k_fold)
    (repeat' (first | ((with_reducible show wpAny _ _ (compareOp CmpOp.Eq (Value.ref _) (Value.ref _)) _ _ _); (k_here; k_dflt (first | refine eq_lists_nil (by k_asm) (by k_mem) (by k_mem) (by ktr_units) ?_ | refine eq_lists_ne (by k_asm) (by k_mem) (by k_mem) (by assumption) (by ktr_units) ?_))) | (k_here; (with_reducible show wpAny _ _ (call (Value.type "list") [Value.ref _]) _ _ _); k_dflt (refine slots_list (by rfl) (by k_asm) (by k_asm) (by k_mem) (by assumption) (by assumption) (by assumption) ?_); intro DqQ cqQ hqQ tkqQ FqQ NqQ l1Q; (try k_lt l1Q)) | ((fail_if_success (with_reducible refine Stop.go ?_)); (first | (k_unfold; (try dsimp only)) | (k_end; wrow_close) | walk1 | (dsimp only; walk1) | (leave1; walk_say "STEP leave1"; try dsimp only) | fail "no step"))))
    · refine Stop.go ?_
      (try k_fold)
      k_dflt refine (Spec.use (by k_asm) (by k_asm) (by k_asm) (by k_asm) (by k_asm) (by first | exact rfl | assumption) (host_spec c3) (by ktr_room) (by ktr_units) ?_)
      rintro v h' tk news' ⟨rfl, hx9, htk9, rfl, hp9⟩ F9 N9
      (try dsimp only at F9 N9 ⊢)
      (repeat' (first | ((with_reducible show wpAny _ _ (compareOp CmpOp.Eq (Value.ref _) (Value.ref _)) _ _ _); (k_here; k_dflt (first | refine eq_lists_nil (by k_asm) (by k_mem) (by k_mem) (by ktr_units) ?_ | refine eq_lists_ne (by k_asm) (by k_mem) (by k_mem) (by assumption) (by ktr_units) ?_))) | (k_here; (with_reducible show wpAny _ _ (call (Value.type "list") [Value.ref _]) _ _ _); k_dflt (refine slots_list (by rfl) (by k_asm) (by k_asm) (by k_mem) (by assumption) (by assumption) (by assumption) ?_); intro DqQ cqQ hqQ tkqQ FqQ NqQ l1Q; (try k_lt l1Q)) | ((fail_if_success (with_reducible refine Stop.go ?_)); (first | (k_unfold; (try dsimp only)) | (k_end; wrow_close) | walk1 | (dsimp only; walk1) | (leave1; walk_say "STEP leave1"; try dsimp only) | fail "no step"))))
      (rename Fr _ _ _ _ => F8)
      (rename News _ _ _ _ => N8)
      refine' SeqV.next K1 F8 (drop_led N8 ?led) ⟨⟨_, _, _, _, _, _, _, _, _, _, _, _, _, _, _, _, _, _, PL, _, rest⟩, { mflaw := by first | exact rfl | with_unfolding_all assumption, mhost := by first | exact rfl | with_unfolding_all assumption, msport := by first | exact rfl | with_unfolding_all assumption, mzone := by first | exact rfl | with_unfolding_all assumption, mparts := by first | exact rfl | with_unfolding_all assumption, flaw0 := c1, flaw12 := c2, host0 := c3, sport0 := c4, sport4 := c5, led := rfl, low := c6, sub := c7 }⟩
      case led =>
        refine List.forall_mem_cons.mpr ⟨by k_mem, ?_⟩
        intro p hp; (repeat (first | exact hp | refine List.Mem.tail _ ?_)); done
    · (rename Fr _ _ _ _ => F8)
      (rename News _ _ _ _ => N8)
      refine' SeqV.next K1 F8 (drop_led N8 ?led) ⟨⟨_, _, _, _, _, _, _, _, _, _, _, _, _, _, _, _, _, _, PL, _, rest⟩, { mflaw := by first | exact rfl | with_unfolding_all assumption, mhost := by first | exact rfl | with_unfolding_all assumption, msport := by first | exact rfl | with_unfolding_all assumption, mzone := by first | exact rfl | with_unfolding_all assumption, mparts := by first | exact rfl | with_unfolding_all assumption, flaw0 := c1, flaw12 := c2, host0 := c3, sport0 := c4, sport4 := c5, led := rfl, low := c6, sub := c7 }⟩
      case led =>
        refine List.forall_mem_cons.mpr ⟨by k_mem, ?_⟩
        intro p hp; (repeat (first | exact hp | refine List.Mem.tail _ ?_)); done
  rintro h3 tk3 m3 nw3 F3 N3 ⟨⟨flaw, tf, host, th, sport, ts, zone, tz, p0, p1, p2, p3, p4, s0, s1, s2, s3, s4, PL, ep, rest⟩, j1, j2, j3, j4, j5, c1, c2, c3, c4, c5, rfl, c6, c7⟩
  dsimp only at j1 j2 j3 j4 j5 c1 c2 c3 c4 c5 c6 c7 N3 ⊢
  refine seq_cut (b1 := [_]) F3 (fun m nw => ∃ x : AM, x.Is news m nw) ?_ ?_
  · intro Q1 K1; (try k_fold)
    (repeat' (first | ((with_reducible show wpAny _ _ (compareOp CmpOp.Eq (Value.ref _) (Value.ref _)) _ _ _); (k_here; k_dflt (first | refine eq_lists_nil (by k_asm) (by k_mem) (by k_mem) (by ktr_units) ?_ | refine eq_lists_ne (by k_asm) (by k_mem) (by k_mem) (by assumption) (by ktr_units) ?_))) | (k_here; (with_reducible show wpAny _ _ (call (Value.type "list") [Value.ref _]) _ _ _); k_dflt (refine slots_list (by rfl) (by k_asm) (by k_asm) (by k_mem) (by assumption) (by assumption) (by assumption) ?_); intro DqQ cqQ hqQ tkqQ FqQ NqQ l1Q; (try k_lt l1Q)) | ((fail_if_success (with_reducible refine Stop.go ?_)); (first | (k_unfold; (try dsimp only)) | (k_end; wrow_close) | walk1 | (dsimp only; walk1) | (leave1; walk_say "STEP leave1"; try dsimp only) | fail "no step"))))
    · (rename Fr _ _ _ _ => F8)
      (rename News _ _ _ _ => N8)
      refine' SeqV.next K1 F8 (drop_led N8 ?led) ⟨⟨_, _, _, _, _, _, _, _, _, _, _, _, _, _, _, _, _, _, PL, _, rest⟩, { mflaw := by first | exact rfl | with_unfolding_all assumption, mhost := by first | exact rfl | with_unfolding_all assumption, msport := by first | exact rfl | with_unfolding_all assumption, mzone := by first | exact rfl | with_unfolding_all assumption, mparts := by first | exact rfl | with_unfolding_all assumption, flaw0 := c1, flaw12 := c2, host0 := c3, sport0 := c4, sport4 := c5, led := rfl, low := c6, sub := c7 }⟩
      case led =>
        refine List.forall_mem_cons.mpr ⟨by k_mem, ?_⟩
        intro p hp; (repeat (first | exact hp | refine List.Mem.tail _ ?_)); done
    · refine five (n := flaw) (by omega) fun hfl => ?_
      rcases hfl with rfl | rfl | rfl | rfl | rfl <;> (try simp only [Int.reduceSub]) <;> (repeat' (first | ((with_reducible show wpAny _ _ (compareOp CmpOp.Eq (Value.ref _) (Value.ref _)) _ _ _); (k_here; k_dflt (first | refine eq_lists_nil (by k_asm) (by k_mem) (by k_mem) (by ktr_units) ?_ | refine eq_lists_ne (by k_asm) (by k_mem) (by k_mem) (by assumption) (by ktr_units) ?_))) | (k_here; (with_reducible show wpAny _ _ (call (Value.type "list") [Value.ref _]) _ _ _); k_dflt (refine slots_list (by rfl) (by k_asm) (by k_asm) (by k_mem) (by assumption) (by assumption) (by assumption) ?_); intro DqQ cqQ hqQ tkqQ FqQ NqQ l1Q; (try k_lt l1Q)) | ((fail_if_success (with_reducible refine Stop.go ?_)); (first | (k_unfold; (try dsimp only)) | (k_end; wrow_close) | walk1 | (dsimp only; walk1) | (leave1; walk_say "STEP leave1"; try dsimp only) | fail "no step"))))
      all_goals
        (rename Fr _ _ _ _ => F8)
        (rename News _ _ _ _ => N8)
        refine' SeqV.next K1 F8 (drop_led N8 ?led) ⟨⟨_, _, _, _, _, _, _, _, _, _, _, _, _, _, _, _, _, _, PL, _, rest⟩, { mflaw := by first | exact rfl | with_unfolding_all assumption, mhost := by first | exact rfl | with_unfolding_all assumption, msport := by first | exact rfl | with_unfolding_all assumption, mzone := by first | exact rfl | with_unfolding_all assumption, mparts := by first | exact rfl | with_unfolding_all assumption, flaw0 := c1, flaw12 := c2, host0 := c3, sport0 := c4, sport4 := c5, led := rfl, low := c6, sub := c7 }⟩
        case led =>
          refine List.forall_mem_cons.mpr ⟨by k_mem, ?_⟩
          intro p hp; (repeat (first | exact hp | refine List.Mem.tail _ ?_)); done
    · (rename Fr _ _ _ _ => F8)
      (rename News _ _ _ _ => N8)
      refine' SeqV.next K1 F8 (drop_led N8 ?led) ⟨⟨_, _, _, _, _, _, _, _, _, _, _, _, _, _, _, _, _, _, PL, _, rest⟩, { mflaw := by first | exact rfl | with_unfolding_all assumption, mhost := by first | exact rfl | with_unfolding_all assumption, msport := by first | exact rfl | with_unfolding_all assumption, mzone := by first | exact rfl | with_unfolding_all assumption, mparts := by first | exact rfl | with_unfolding_all assumption, flaw0 := c1, flaw12 := c2, host0 := c3, sport0 := c4, sport4 := c5, led := rfl, low := c6, sub := c7 }⟩
      case led =>
        refine List.forall_mem_cons.mpr ⟨by k_mem, ?_⟩
        intro p hp; (repeat (first | exact hp | refine List.Mem.tail _ ?_)); done
  rintro h4 tk4 m4 nw4 F4 N4 ⟨⟨flaw, tf, host, th, sport, ts, zone, tz, p0, p1, p2, p3, p4, s0, s1, s2, s3, s4, PL, ep, rest⟩, j1, j2, j3, j4, j5, c1, c2, c3, c4, c5, rfl, c6, c7⟩
  dsimp only at j1 j2 j3 j4 j5 c1 c2 c3 c4 c5 c6 c7 N4 ⊢
  (try k_fold)
  (repeat' (first | ((with_reducible show wpAny _ _ (compareOp CmpOp.Eq (Value.ref _) (Value.ref _)) _ _ _); (k_here; k_dflt (first | refine eq_lists_nil (by k_asm) (by k_mem) (by k_mem) (by ktr_units) ?_ | refine eq_lists_ne (by k_asm) (by k_mem) (by k_mem) (by assumption) (by ktr_units) ?_))) | (k_here; (with_reducible show wpAny _ _ (call (Value.type "list") [Value.ref _]) _ _ _); k_dflt (refine slots_list (by rfl) (by k_asm) (by k_asm) (by k_mem) (by assumption) (by assumption) (by assumption) ?_); intro DqQ cqQ hqQ tkqQ FqQ NqQ l1Q; (try k_lt l1Q)) | ((fail_if_success (with_reducible refine Stop.go ?_)); (first | (k_unfold; (try dsimp only)) | (k_end; wrow_close) | walk1 | (dsimp only; walk1) | (leave1; walk_say "STEP leave1"; try dsimp only) | fail "no step"))))
  k_dflt refine hret _ _ _ _ ?_ (by k_asm) (by k_asm)
  exact ⟨_, _, _, _, _, _, _, _, _, _, _, _, _, _, _, _, rfl, .head _, by k_mem, by intro p hp; have hp' := c7 p hp; (repeat (first | exact hp' | refine List.Mem.tail _ ?_)); done⟩
/-! M23a -/
/-- values made one by one -/
inductive Made9 {α : Type} (R : α → Value → Prop) : List α → List Value → Prop
  | nil : Made9 R [] []
  | snoc {xs : List α} {ys : List Value} {x : α} {y : Value} : Made9 R xs ys → R x y → Made9 R (xs ++ [x]) (ys ++ [y])
theorem Made9.mono {α : Type} {R R' : α → Value → Prop} {xs ys} (h : Made9 R xs ys) (k : ∀ x y, R x y → R' x y) : Made9 R' xs ys := by
  induction h with
  | nil => exact .nil
  | snoc _ d ih => exact .snoc ih (k _ _ d)
theorem Made9.length {α : Type} {R : α → Value → Prop} {xs ys} (h : Made9 R xs ys) : xs.length = ys.length := by
  induction h with
  | nil => rfl
  | snoc _ _ ih => simp [ih]
theorem Made9.get {α : Type} {R : α → Value → Prop} {xs ys} (h : Made9 R xs ys) : ∀ (j : Nat) (x : α), xs[j]? = some x → ∃ y, ys[j]? = some y ∧ R x y := by
  induction h with
  | nil => intro j x hx; simp at hx
  | @snoc xs ys x y D d ih =>
    intro j z hz
    have hl := D.length
    by_cases c : j < xs.length
    · rw [List.getElem?_append_left c] at hz
      obtain ⟨y', h1, h2⟩ := ih j z hz
      exact ⟨y', by rw [List.getElem?_append_left (by omega)]; exact h1, h2⟩
    · rw [List.getElem?_append_right (by omega)] at hz
      have : j - xs.length = 0 := by
        rcases Nat.eq_zero_or_pos (j - xs.length) with e | e
        · exact e
        · rw [List.getElem?_eq_none (by simp; omega)] at hz; cases hz
      rw [this] at hz
      cases hz
      exact ⟨y, by rw [List.getElem?_append_right (by omega), show j - ys.length = 0 by omega]; rfl, d⟩
def DueItem (zf : Int → Int) (nw : Led) (x : SL) (y : Value) : Prop := ∃ a tz, y = .ref a ∧ (a, tupO [.int x.n x.tn, .ref x.b, .int (zf x.n) tz, .int x.u x.tu]) ∈ nw
def ExpItem (nw : Led) (x : ES) (y : Value) : Prop := ∃ a, y = .ref a ∧ (a, tupO [.int x.n x.tn, .ref x.et, .int x.z x.tz, .int x.u x.tu]) ∈ nw
/-- item by item: the expected ones and the slots -/
structure Same9 (zf : Int → Int) (e : ES) (x : SL) : Prop where
  n : e.n = x.n
  z : e.z = zf x.n
  u : e.u = x.u
  a0 : e.a0 = x.a0
  a1 : e.a1 = x.a1
  a2 : e.a2 = x.a2
  a3 : e.a3 = x.a3
  a4 : e.a4 = x.a4
section
variable {h₀ : Heap} {L I d t : Addr} {oI o' ot : Obj} {nw : Led}
theorem set_sub (hI : I ≠ d) : ∀ p ∈ (I, oI) :: setAt d o' ((t, ot) :: nw), p ∈ setAt d o' ((t, ot) :: (I, oI) :: nw) := by
  intro p hp
  rcases List.mem_cons.mp hp with rfl | hp
  · exact mem_set_ne (.tail _ (.head _)) hI
  · obtain ⟨q, hq, rfl⟩ := List.mem_map.mp hp
    refine List.mem_map.mpr ⟨q, ?_, rfl⟩
    rcases List.mem_cons.mp hq with rfl | hq
    · exact .head _
    · exact .tail _ (.tail _ hq)
theorem set_off {l : Led} (h : ∀ p ∈ l, p.1 ≠ I) : ∀ p ∈ setAt d o' l, p.1 ≠ I := by
  intro p hp
  obtain ⟨q, hq, rfl⟩ := List.mem_map.mp hp
  split
  · rename_i e; exact e ▸ h q hq
  · exact h q hq
theorem turn_append {h' : Heap} {J : (Str → Option Value) → Led → Prop} {s₁ : Shared} {Q : Flow → Shared → Prop} {m' : Str → Option Value} {tk : Nat} (F : Fr h₀ L h' m') (N : News h₀ L h' (setAt d o' ((t, ot) :: (I, oI) :: nw))) (hI : I ≠ d) (ht : t ≠ I) (off : ∀ p ∈ nw, p.1 ≠ I)
    (hJ : J m' (setAt d o' ((t, ot) :: nw))) : TurnV h₀ L J I oI s₁ Q .next { s₁ with heap := h', toks := tk } := by
  refine TurnV.next F (drop_led N (set_sub hI)) (set_off fun p hp => ?_) hJ
  rcases List.mem_cons.mp hp with rfl | hp
  · exact ht
  · exact off p hp
end
theorem tup_cls_ne_list {o : Obj} {its : Array Value} {n : Nat} (h : o.cls = .type "tuple") : o.cls ≠ (W.listOf its n).cls := fun e => absurd (show Value.type "tuple" = Value.type "list" from h.symm.trans e) (by decide)
theorem mem_push {d : Addr} {o : Obj} {l : Led} {ys : List Value} {v : Value} (hp : (d, o) ∈ l) : (d, LCg.lst (ys ++ [v])) ∈ setAt d (W.listOf (ys.toArray.push v) (ys.length + 1)) l := by
  rw [← LCg.lst_snoc]; exact mem_set_self hp
/-! M23 -/
theorem is_list_spec {w mean mg mb base} {news : Led} {Wd TK NM SD : Addr} {oW oTK oS : Obj} {tkl : List (Int × Value)} {sl : List SL} {es : List ES} {zf : Int → Int} {bk : BL}
    (hW : (Wd, oW) ∈ news) (dW : oW.IsDictOf (sKind w) [(Str.ofString "talks", .ref TK), (Str.ofString "names", .ref NM), (Str.ofString "slots", .ref SD)])
    (hTK : (TK, oTK) ∈ news) (dTK : oTK.IsDictOf (intKind Challenge.rw_pf0335_01.row.prog w) tkl)
    (hz : ∀ x ∈ sl, ZoneOf w tkl news x.n (zf x.n))
    (hSD : (SD, oS) ∈ news) (lSD : (SD == sysModules) = false) (hS : Slots w oS sl) (hat : ∀ x ∈ sl, x.At news) (hlen : sl.length ≤ 1000)
    (hb : bk.At w news) (hEL : (bk.EL, W.listOf (refs es).toArray bk.ep) ∈ news) (hes : ∀ e ∈ es, e.At w news) (hlen' : es.length = sl.length)
    (hsame : ∀ (j : Nat) (e : ES) (x : SL), es[j]? = some e → sl[j]? = some x → Same9 zf e x) :
    Spec 8 w mean mg mb base 223 [.ref Wd, .ref bk.B] news (fun v news' => v = .bool true ∧ ∀ p ∈ news, p ∈ news') := by
  intro dp un gd cn cs a9 ccd cl outer A₀ h₀ L m h8 g8 d8 T8 os8 Q E B9 F X N T hk hd hu hret
  obtain ⟨hB, hdB, htb, htk, hfl, ltb, ltk, lfl⟩ := hb
  refine wpAny_call ?_
  k_dflt cell_enter
  refine @shut _ _ _ h₀ L m _ _ _ _ _ _ _ _ _ _ _ _ _ _ _ _ _ _ Q _ _ _ _ hret hd hu (by assumption) (fun _ _ h => h) (fun _ _ h => h) fun dp un gd outer A₀ tkS Q E Bw hd hu hret hnext => ?_
  have hG : GDO g8 d8 os8 := trivial
  have hm2 : Halt 2 := trivial
  (repeat' (first | ((with_reducible show wpAny _ _ (compareOp CmpOp.Eq (Value.ref _) (Value.ref _)) _ _ _); refine stop ?_) | (k_here; (with_reducible show wpAny _ _ (subscriptTail _ _ (Value.ref _) (Value.ref _)) _ _ _); k_dflt (refine slot_item2 (by k_asm) (by k_mem) (by assumption) (by assumption) (by assumption) (by intro pQ hpQ; (repeat (first | exact hpQ | refine List.Mem.tail _ ?_)); done) (by first | ktr_room | ktr_units) ?_); intro tkQ) | ((fail_if_success (with_reducible refine Stop.go ?_)); (first | (k_unfold; (try dsimp only)) | (k_end; wrow_close) | walk1 | (dsimp only; walk1) | (leave1; walk_say "STEP leave1"; try dsimp only) | fail "no step"))))
  refine Stop.go ?_
  (rename Fr _ _ _ _ => F2)
  obtain ⟨es9, ep9, src9, size9, keys9⟩ := hS.src (SD := SD) hSD
  refine For_D F2 rfl rfl ?_
  (repeat' (first | ((with_reducible show wpAny _ _ (compareOp CmpOp.Eq (Value.ref _) (Value.ref _)) _ _ _); refine stop ?_) | (k_here; (with_reducible show wpAny _ _ (subscriptTail _ _ (Value.ref _) (Value.ref _)) _ _ _); k_dflt (refine slot_item2 (by k_asm) (by k_mem) (by assumption) (by assumption) (by assumption) (by intro pQ hpQ; (repeat (first | exact hpQ | refine List.Mem.tail _ ?_)); done) (by first | ktr_room | ktr_units) ?_); intro tkQ) | ((fail_if_success (with_reducible refine Stop.go ?_)); (first | (k_unfold; (try dsimp only)) | (k_end; wrow_close) | walk1 | (dsimp only; walk1) | (leave1; walk_say "STEP leave1"; try dsimp only) | fail "no step"))))
  (rename Fr _ _ _ _ => F3); (rename News _ _ _ _ => N3)
  obtain ⟨Dd, eD⟩ := head_of N3
  subst eD
  have lDd : ∀ p ∈ news, p.1 < Dd := tail_lt (by assumption) (fun p hp => hp)
  refine ⟨SD, es9, ep9, _, _, fun i m nw => m (Str.ofString "world") = some (.ref Wd) ∧ m (Str.ofString "book") = some (.ref bk.B) ∧ m (Str.ofString "due") = some (.ref Dd) ∧ (∀ p ∈ news, p ∈ nw) ∧ ∃ ys, (Dd, LCg.lst ys) ∈ nw ∧ Made9 (DueItem zf nw) (sl.take i) ys,
    rfl, rfl, lSD, F3, N3, src9.mono (fun p hp => .tail _ hp), ⟨rfl, rfl, rfl, fun p hp => .tail _ hp, [], .head _, .nil⟩, ?_, ?_⟩
  · rintro i e m₁ news₁ h tk I oI he hJ9 S9 off F₁ N₁
    refine and5 hJ9 fun j1 j2 j3 sub q49 => ?_
    obtain ⟨ys, hD, hdu⟩ := q49
    (try dsimp only)
    have hi : i < sl.length := by have := (Array.getElem?_eq_some_iff.mp he).1; omega
    have hx : sl[i]? = some sl[i] := List.getElem?_eq_getElem hi
    have htake : sl.take (i + 1) = sl.take i ++ [sl[i]] := by rw [List.take_add_one, hx]; rfl
    have hmem : sl[i] ∈ sl := List.getElem_mem hi
    rw [keys9 i e he _ hx] at F₁
    generalize sl[i] = x at *
    have hat' : ∀ x ∈ sl, x.At news₁ := fun x hx => (hat x hx).mono sub
    have hk9 := (hat' x hmem).hk
    have hb9 := (hat' x hmem).hb
    obtain ⟨Tz, oTz, zt, stz, tsz, Edz, v1, v2, v3⟩ := hz x hmem
    have f1 := sub _ hW
    have f2 := sub _ hTK
    have f3 := sub _ hSD
    have f4 := sub _ v2
    have hys : ys.length = i := by have := hdu.length; rw [List.length_take] at this; omega
    have hfit : ys.toArray.size ≤ 100000 := by rw [List.size_toArray]; omega
    clear hat
    have tD : ∀ p ∈ news₁, p.2.cls = .type "tuple" → p.1 ≠ Dd := fun p hp hc => led_ne N₁ (.tail _ hp) (.tail _ hD) (tup_cls_ne_list hc)
    (repeat' (first | ((with_reducible show wpAny _ _ (compareOp CmpOp.Eq (Value.ref _) (Value.ref _)) _ _ _); refine stop ?_) | (k_here; (with_reducible show wpAny _ _ (subscriptTail _ _ (Value.ref _) (Value.ref _)) _ _ _); k_dflt (refine slot_item2 (by k_asm) (by k_mem) (by assumption) (by assumption) (by assumption) (by intro pQ hpQ; (repeat (first | exact hpQ | refine List.Mem.tail _ ?_)); done) (by first | ktr_room | ktr_units) ?_); intro tkQ) | ((fail_if_success (with_reducible refine Stop.go ?_)); (first | (k_unfold; (try dsimp only)) | (k_end; wrow_close) | walk1 | (dsimp only; walk1) | (leave1; walk_say "STEP leave1"; try dsimp only) | fail "no step"))))
    (rename Fr _ _ _ _ => F9); (rename News _ _ _ _ => N9)
    refine turn_append F9 N9 (Ne.symm (off _ hD)) (by k_ne) off ⟨⟨by with_unfolding_all exact j1, by with_unfolding_all exact j2, by with_unfolding_all exact j3, fun p hp => mem_set_ne (.tail _ (sub p hp)) (Nat.ne_of_lt (lDd p hp)), ys ++ [_], mem_push (.tail _ hD), ?_⟩, src9.mono fun p hp => mem_set_ne (.tail _ (sub p hp)) (Nat.ne_of_lt (lDd p hp))⟩
    · rw [htake]
      refine .snoc (hdu.mono fun x y hy => ?_) ⟨_, zt, rfl, ?_⟩
      · obtain ⟨a, tz, e1, e2⟩ := hy
        exact ⟨a, tz, e1, mem_set_ne (.tail _ e2) (tD _ e2 rfl)⟩
      · exact mem_set_ne (.head _) (Nat.ne_of_gt (tail_lt (by assumption) (fun p hp => .tail _ hp) _ hD))
  · rintro h tk m' news' F' N' hJ9
    refine and5 hJ9 fun j1 j2 j3 sub q49 => ?_
    obtain ⟨ys, hD, hdu⟩ := q49
    (try dsimp only)
    rw [size9, List.take_length] at hdu
    have f1 := sub _ hB
    have f2 := sub _ hdB
    have f3 := sub _ hEL
    (repeat' (first | ((with_reducible show wpAny _ _ (compareOp CmpOp.Eq (Value.ref _) (Value.ref _)) _ _ _); refine stop ?_) | (k_here; (with_reducible show wpAny _ _ (subscriptTail _ _ (Value.ref _) (Value.ref _)) _ _ _); k_dflt (refine slot_item2 (by k_asm) (by k_mem) (by assumption) (by assumption) (by assumption) (by intro pQ hpQ; (repeat (first | exact hpQ | refine List.Mem.tail _ ?_)); done) (by first | ktr_room | ktr_units) ?_); intro tkQ) | ((fail_if_success (with_reducible refine Stop.go ?_)); (first | (k_unfold; (try dsimp only)) | (k_end; wrow_close) | walk1 | (dsimp only; walk1) | (leave1; walk_say "STEP leave1"; try dsimp only) | fail "no step"))))
    refine Stop.go ?_
    (rename Fr _ _ _ _ => F6)
    k_dflt (refine ListComp_fU F6 (by with_unfolding_all rfl) (by decide) (by rfl) (by decide) (by rfl) ?_)
    (repeat' (first | ((with_reducible show wpAny _ _ (compareOp CmpOp.Eq (Value.ref _) (Value.ref _)) _ _ _); refine stop ?_) | (k_here; (with_reducible show wpAny _ _ (subscriptTail _ _ (Value.ref _) (Value.ref _)) _ _ _); k_dflt (refine slot_item2 (by k_asm) (by k_mem) (by assumption) (by assumption) (by assumption) (by intro pQ hpQ; (repeat (first | exact hpQ | refine List.Mem.tail _ ?_)); done) (by first | ktr_room | ktr_units) ?_); intro tkQ) | ((fail_if_success (with_reducible refine Stop.go ?_)); (first | (k_unfold; (try dsimp only)) | (k_end; wrow_close) | walk1 | (dsimp only; walk1) | (leave1; walk_say "STEP leave1"; try dsimp only) | fail "no step"))))
    refine Stop.go ?_
    k_dflt (refine compAt_list (by rfl) (by k_asm) (by k_asm) (l := bk.EL) (its := (refs es).toArray) ?_ (by rw [sizeLine_eq]; simp; omega) ?_)
    · exact .inr ⟨_, by k_mem, rfl, _, rfl⟩
    intro g9
    rw [show (refs es).toArray.size = es.length by simp]
    refine restU_ind (fun i ys2 nw => (∀ p ∈ news', p ∈ nw) ∧ Made9 (ExpItem nw) (es.take i) ys2) es.length ?_ ?_ _ _ _ _ (Nat.zero_add _) ⟨fun p hp => hp, .nil⟩
    · intro i v ys2 nw I oI C oC D m₂ h tk E' hi hP ⟨sub2, hmade⟩ hN hx F9 N9 off ne
      have hg : es[i]? = some es[i] := List.getElem?_eq_getElem hi
      have htake : es.take (i + 1) = es.take i ++ [es[i]] := by rw [List.take_add_one, hg]; rfl
      have hmem : es[i] ∈ es := List.getElem_mem hi
      have hve : v = .ref es[i].e := by
        rw [List.getElem?_toArray, List.getElem?_map, hg] at hP
        exact (Option.some.inj hP).symm
      subst hve
      generalize es[i] = x at *
      have q1 := sub2 _ (sub _ (hes x hmem).inst)
      have q2 := sub2 _ (sub _ (hes x hmem).dict)
      (repeat' (first | ((with_reducible show wpAny _ _ (compareOp CmpOp.Eq (Value.ref _) (Value.ref _)) _ _ _); refine stop ?_) | (k_here; (with_reducible show wpAny _ _ (subscriptTail _ _ (Value.ref _) (Value.ref _)) _ _ _); k_dflt (refine slot_item2 (by k_asm) (by k_mem) (by assumption) (by assumption) (by assumption) (by intro pQ hpQ; (repeat (first | exact hpQ | refine List.Mem.tail _ ?_)); done) (by first | ktr_room | ktr_units) ?_); intro tkQ) | ((fail_if_success (with_reducible refine Stop.go ?_)); (first | (k_unfold; (try dsimp only)) | (k_end; wrow_close) | walk1 | (dsimp only; walk1) | (leave1; walk_say "STEP leave1"; try dsimp only) | fail "no step"))))
      (rename Fr _ _ _ _ => F8); (rename News _ _ _ _ => N8)
      refine CompEnd_grow F8 N8 (by intro p hp; (repeat (first | exact hp | refine List.Mem.tail _ ?_)); done) (by k_ne) (by k_ne) (by k_ne) off (.inr ⟨_, .tail _ (sub2 _ f3), rfl, _, rfl⟩) ⟨fun p hp => .tail _ (sub2 p hp), ?_⟩
      rw [htake]
      refine .snoc (hmade.mono fun x y hy => ?_) ⟨_, rfl, .head _⟩
      obtain ⟨a, e1, e2⟩ := hy
      exact ⟨a, e1, .tail _ e2⟩
    · rintro ys2 nw ⟨sub2, hmade⟩
      rw [List.take_length] at hmade
      have g1 := sub2 _ hD
      (unfold LCg.FinE); intro D' h' tk' F' N' o1'; (try simp only [List.nil_append, List.cons_append] at N'); (try dsimp only at F' N' ⊢); (try k_fold)
      (repeat' (first | ((with_reducible show wpAny _ _ (compareOp CmpOp.Eq (Value.ref _) (Value.ref _)) _ _ _); refine stop ?_) | (k_here; (with_reducible show wpAny _ _ (subscriptTail _ _ (Value.ref _) (Value.ref _)) _ _ _); k_dflt (refine slot_item2 (by k_asm) (by k_mem) (by assumption) (by assumption) (by assumption) (by intro pQ hpQ; (repeat (first | exact hpQ | refine List.Mem.tail _ ?_)); done) (by first | ktr_room | ktr_units) ?_); intro tkQ) | ((fail_if_success (with_reducible refine Stop.go ?_)); (first | (k_unfold; (try dsimp only)) | (k_end; wrow_close) | walk1 | (dsimp only; walk1) | (leave1; walk_say "STEP leave1"; try dsimp only) | fail "no step"))))
      refine Stop.go ?_
      have l1 := hmade.length
      have l2 := hdu.length
      (rename News _ _ _ _ => N8)
      refine SeqAt.eq_listAt (e := fun _ => true) (items := ys2.toArray) (items2 := ys.toArray) ⟨_, (N8 _ (.head _)).1, rfl, _, rfl⟩ ⟨_, (N8 _ (.tail _ g1)).1, rfl, _, rfl⟩ (by simp; omega) (by ktr_units) ?_ ?_
      · intro j h1 h2
        have hj : j < es.length := by simp at h1; omega
        have he : es[j]? = some es[j] := List.getElem?_eq_getElem hj
        have hs : sl[j]? = some sl[j] := List.getElem?_eq_getElem (by omega)
        obtain ⟨y, y1, a, y2, y3⟩ := hmade.get j _ he
        obtain ⟨z, z1, b, tz, z2, z3⟩ := hdu.get j _ hs
        have e1 : ys2.toArray[j] = .ref a := by
          have := List.getElem?_eq_getElem (l := ys2) (i := j) (by simpa using h1)
          rw [y1] at this; rw [List.getElem_toArray, ← Option.some.inj this, y2]
        have e2 : ys.toArray[j] = .ref b := by
          have := List.getElem?_eq_getElem (l := ys) (i := j) (by simpa using h2)
          rw [z1] at this; rw [List.getElem_toArray, ← Option.some.inj this, z2]
        rw [e1, e2]
        have S := hsame j _ _ he hs
        have w1 := sub2 _ (sub _ (hes es[j] (List.getElem_mem hj)).tup)
        have w2 := sub2 _ (sub _ (hat sl[j] (List.getElem_mem (by omega))).hb)
        have z4 := sub2 _ z3
        rw [S.n, S.z, S.u] at y3
        unfold ES.tup at w1
        rw [S.a0, S.a1, S.a2, S.a3, S.a4] at w1
        refine four_eqAt N8 (.tail _ y3) (.tail _ z4) (.tail _ w1) (ints5 _ _ _ _ _ _ _ _ _ _) (.tail _ w2) (ints5 _ _ _ _ _ _ _ _ _ _) (by ktr_units)
      · rw [show (List.range ys2.toArray.size).all (fun _ => true) = true by simp]
        (repeat' (first | ((with_reducible show wpAny _ _ (compareOp CmpOp.Eq (Value.ref _) (Value.ref _)) _ _ _); refine stop ?_) | (k_here; (with_reducible show wpAny _ _ (subscriptTail _ _ (Value.ref _) (Value.ref _)) _ _ _); k_dflt (refine slot_item2 (by k_asm) (by k_mem) (by assumption) (by assumption) (by assumption) (by intro pQ hpQ; (repeat (first | exact hpQ | refine List.Mem.tail _ ?_)); done) (by first | ktr_room | ktr_units) ?_); intro tkQ) | ((fail_if_success (with_reducible refine Stop.go ?_)); (first | (k_unfold; (try dsimp only)) | (k_end; wrow_close) | walk1 | (dsimp only; walk1) | (leave1; walk_say "STEP leave1"; try dsimp only) | fail "no step"))))
        k_dflt refine hret _ _ _ _ ⟨rfl, fun p hp => .tail _ (sub2 _ (sub _ hp))⟩ (by k_asm) (by k_asm)
/-! M24a -/
section
variable {prog : Program} {w : World} {A : Around} {E : Value → Shared → Prop} {s : Shared} {h₀ : Heap} {L a b : Addr} {news : Led} {vs us : List Value} {n k : Nat}
inductive AllEq (A : Around) (s : Shared) : List Value → List Value → Prop
  | nil : AllEq A s [] []
  | cons {u v : Value} {us vs : List Value} : SeqAt.EqAt A s u v true → AllEq A s us vs → AllEq A s (u :: us) (v :: vs)
theorem AllEq.length (h : AllEq A s us vs) : us.length = vs.length := by
  induction h with
  | nil => rfl
  | cons _ _ ih => simp [ih]
theorem AllEq.get (h : AllEq A s us vs) : ∀ (j : Nat) (h1 : j < us.length) (h2 : j < vs.length), SeqAt.EqAt A s us[j] vs[j] true := by
  induction h with
  | nil => intro j h1; simp at h1
  | cons e _ ih =>
    intro j h1 h2
    cases j with
    | zero => exact e
    | succ j => exact ih j (by simpa using h1) (by simpa using h2)
theorem eqAt_int (x : Int) (t r : Tok) : SeqAt.EqAt A s (.int x t) (.int x r) true := by
  have := SeqAt.EqAt.int_int (A := A) (s := s) x t x r
  rwa [beq_self_eq_true] at this
theorem eqAt_nil (N : News h₀ L s.heap news) (ha : (a, W.listOf #[] n) ∈ news) (hb : (b, W.listOf #[] k) ∈ news) (hu : A.units < cLine) : SeqAt.EqAt A s (.ref a) (.ref b) true := by
  by_cases e : a = b
  · subst e; exact SeqAt.EqAt.same _
  · exact SeqAt.EqAt.of_refs e (fun prog w E Q h => eq_lists_nil N ha hb hu h)
theorem eqAt_empty {prog₀ : Program} {w₀ : World} {o : Obj} (N : News h₀ L s.heap news) (ha : (a, dictOf [] n) ∈ news) (hb : (b, o) ∈ news) (db : o.IsDictOf (intKind prog₀ w₀) []) (la : (a == sysModules) = false) (lb : (b == sysModules) = false) (hu : A.units < cLine) : SeqAt.EqAt A s (.ref a) (.ref b) true := by
  obtain ⟨k, rfl⟩ := empty_obj db
  by_cases e : a = b
  · subst e; exact SeqAt.EqAt.same _
  · exact SeqAt.EqAt.of_refs e (fun prog w E Q h => keq_eq (knd := intKind prog w) (ka := []) (kb := []) (r := true) la lb (Heap.dictOf_iff.mpr ⟨_, (N _ ha).1, empty_is _ _⟩) (Heap.dictOf_iff.mpr ⟨_, (N _ hb).1, empty_is _ _⟩) hu (fun _ => .nil) h)
theorem eq_lists_same {Q : Value → Shared → Prop} (N : News h₀ L s.heap news) (ha : (a, W.listOf us.toArray n) ∈ news) (hb : (b, W.listOf vs.toArray k) ∈ news) (hu : A.units < cLine) (he : AllEq A.in1 s us vs) (h : Q (.bool true) s) : wpAny (model prog w) A (compareOp .Eq (.ref a) (.ref b)) Q E s := by
  refine SeqAt.eq_listAt (e := fun _ => true) ⟨_, (N _ ha).1, rfl, _, rfl⟩ ⟨_, (N _ hb).1, rfl, _, rfl⟩ (by simpa using he.length) hu (fun j h1 h2 => ?_) ?_
  · exact he.get j (by simpa using h1) (by simpa using h2)
  · rw [show (List.range us.toArray.size).all (fun _ => true) = true by simp]; exact h
theorem ne_lists_same {Q : Value → Shared → Prop} (N : News h₀ L s.heap news) (ha : (a, W.listOf us.toArray n) ∈ news) (hb : (b, W.listOf vs.toArray k) ∈ news) (hu : A.units < cLine) (he : AllEq A.in1 s us vs) (h : Q (.bool false) s) : wpAny (model prog w) A (compareOp .NotEq (.ref a) (.ref b)) Q E s := by
  refine SeqAt.RcNeAt.lists (e := fun _ => true) ⟨_, (N _ ha).1, rfl, _, rfl⟩ ⟨_, (N _ hb).1, rfl, _, rfl⟩ (by simpa using he.length) hu (fun j h1 h2 => ?_) prog w E _ ?_
  · exact he.get j (by simpa using h1) (by simpa using h2)
  · rw [show (List.range us.toArray.size).all (fun _ => true) = true by simp]; exact h
theorem int_key {o : Obj} {kvs : List (Int × Value)} (d : o.IsDictOf (intKind prog w) kvs) (hm : (a, o) ∈ news) : ∃ (es : Array DictEntry) (ep : Nat), DictSrc a es ep news ∧ es.size = kvs.length ∧ ∀ (i : Nat) (e : DictEntry), es[i]? = some e → ∀ k v, kvs[i]? = some (k, v) → ∃ t, e.key = .int k t := by
  obtain ⟨es, ep, ex, hd, hk, hp, nd⟩ := d
  refine ⟨es, ep, ⟨o, hm, ex, hd⟩, by rw [← hp.length]; simp, fun i e h1 k v h2 => ?_⟩
  have := (hp.get? (i := i) (e := e) (k := k) (v := v) (by rw [Array.getElem?_toList]; exact h1) h2).1
  exact Value.isInt_shape this
end
/-! M24 -/
local macro_rules | `(tactic| walk_at "compareOp NotEq ref ref") => `(tactic| ((with_reducible rename Halt 5 => hx9); (k_here; (with_reducible show wpAny _ _ (compareOp CmpOp.NotEq (Value.ref _) (Value.ref _)) _ _ _); k_dflt (refine ne_lists_same (by k_asm) (by k_mem) (by k_mem) (by ktr_units) ?ae ?_; (case ae => (repeat (first | exact AllEq.nil | refine AllEq.cons (eqAt_int _ _ _) ?_ | refine AllEq.cons (SeqAt.EqAt.same _) ?_)))))))
local macro_rules | `(tactic| walk_at "compareOp Eq ref ref") => `(tactic| ((with_reducible rename Halt 6 => hx9); (k_here; (with_reducible show wpAny _ _ (compareOp CmpOp.Eq (Value.ref _) (Value.ref _)) _ _ _); k_dflt (refine eq_lists_same (by k_asm) (by k_mem) (by k_mem) (by ktr_units) ?ae ?_; (case ae => (repeat (first | exact AllEq.nil | refine AllEq.cons (eqAt_int _ _ _) ?_ | refine AllEq.cons (SeqAt.EqAt.same _) ?_ | refine AllEq.cons (eqAt_empty (by k_asm) (by k_mem) (by k_mem) (by assumption) (by assumption) (by assumption) (by ktr_units)) ?_)))))))
theorem are_same_spec {w mean mg mb base} {news : Led} {Wd TK NM SD MD : Addr} {oW oTK oMD : Obj} {tkl mdl : List (Int × Value)} {ts : List TL} {bk : BL}
    (hW : (Wd, oW) ∈ news) (dW : oW.IsDictOf (sKind w) [(Str.ofString "talks", .ref TK), (Str.ofString "names", .ref NM), (Str.ofString "slots", .ref SD)])
    (hTK : (TK, oTK) ∈ news) (dTK : oTK.IsDictOf (intKind Challenge.rw_pf0335_01.row.prog w) tkl)
    (hMD : (MD, oMD) ∈ news) (dMD : oMD.IsDictOf (intKind Challenge.rw_pf0335_01.row.prog w) mdl) (lMD : (MD == sysModules) = false)
    (hm : mdl = ts.map fun x => (x.n, .ref x.M)) (hv : ∀ x ∈ ts, valueAt tkl x.n = some (.ref x.T) ∧ valueAt mdl x.n = some (.ref x.M)) (hts : ∀ x ∈ ts, x.At w news) (hb : bk.At w news) (hlen : ts.length ≤ 100) :
    Spec 8 w mean mg mb base 230 [.ref Wd, .ref MD, .ref bk.B] news (fun v news' => v = .bool true) := by
  intro dp un gd cn cs a9 ccd cl outer A₀ h₀ L m h8 g8 d8 T8 os8 Q E B9 F X N T hk hd hu hret
  obtain ⟨hB, hdB, ⟨ntb, htb⟩, ⟨ntk, htk⟩, ⟨nfl, hfl⟩, ltb, ltk, lfl⟩ := hb
  refine wpAny_call ?_
  k_dflt cell_enter
  refine @shut _ _ _ h₀ L m _ _ _ _ _ _ _ _ _ _ _ _ _ _ _ _ _ _ Q _ _ _ _ hret hd hu (by assumption) (fun _ _ h => h) (fun _ _ h => h) fun dp un gd outer A₀ tkS Q E Bw hd hu hret hnext => ?_
  have hG : GDO g8 d8 os8 := trivial
  have hm5 : Halt 5 := trivial
  have hm6 : Halt 6 := trivial
  k_steps
  refine Stop.go ?_
  (rename Fr _ _ _ _ => F2)
  obtain ⟨es9, ep9, src9, size9, keys9⟩ := int_key dMD hMD
  refine For_D F2 rfl rfl ?_
  k_steps
  (rename Fr _ _ _ _ => F3); (rename News _ _ _ _ => N3)
  refine ⟨MD, es9, ep9, _, _, fun i m nw => m (Str.ofString "world") = some (.ref Wd) ∧ m (Str.ofString "book") = some (.ref bk.B) ∧ m (Str.ofString "made") = some (.ref MD) ∧ (∀ p ∈ news, p ∈ nw),
    rfl, rfl, lMD, F3, N3, src9, ⟨rfl, rfl, rfl, fun p hp => hp⟩, ?_, ?_⟩
  · rintro i e m₁ news₁ h tk I oI he hJ9 S9 off F₁ N₁
    refine and4 hJ9 fun j1 j2 j3 sub => ?_
    (try dsimp only)
    have hi : i < ts.length := by have := (Array.getElem?_eq_some_iff.mp he).1; rw [size9, hm, List.length_map] at this; exact this
    have hx : ts[i]? = some ts[i] := List.getElem?_eq_getElem hi
    have hmem : ts[i] ∈ ts := List.getElem_mem hi
    obtain ⟨tk9, hkey⟩ := keys9 i e he ts[i].n (.ref ts[i].M) (by rw [hm, List.getElem?_map, hx]; rfl)
    rw [hkey] at F₁
    generalize ts[i] = x at *
    obtain ⟨hT, dT, hEd, hTh, hBa, hM, hdM, lT, st0, st1, p2, q2⟩ := hts x hmem
    obtain ⟨v1, v2⟩ := hv x hmem
    have f1 := sub _ hW
    have f2 := sub _ hTK
    have f3 := sub _ hMD
    have f4 := sub _ hT
    have f5 := sub _ hEd
    have f6 := sub _ hM
    have f7 := sub _ hdM
    k_steps
    (rename Fr _ _ _ _ => F9); (rename News _ _ _ _ => N9)
    refine TurnV.next (news' := news₁) F9 (drop_led N9 (by intro p hp; (repeat (first | exact hp | refine List.Mem.tail _ ?_)); done)) off ⟨⟨by with_unfolding_all exact j1, by with_unfolding_all exact j2, by with_unfolding_all exact j3, sub⟩, S9⟩
  · rintro h tk m' news' F' N' hJ9
    refine and4 hJ9 fun j1 j2 j3 sub => ?_
    (try dsimp only)
    have f1 := sub _ hB
    have f2 := sub _ hdB
    have f3 := sub _ htb
    have f4 := sub _ htk
    have f5 := sub _ hfl
    k_steps
    k_dflt refine hret _ _ _ _ rfl (by k_asm) (by k_asm)
/-! M25a -/
section
variable {prog : Program} {w : World} {K : Type} [DecidableEq K] {knd : HeapKind prog w K} {A : Around} {E : Value → Shared → Prop} {s : Shared}
/-- two dicts with the same keys in the same order, equal values -/
theorem samePairs_heap {nm : String} {a b : Addr} {xs ys : List (K × Addr × Value)} {Q : Bool → Shared → Prop} (hu : knd.room A) (la : (a == sysModules) = false) (lb : (b == sysModules) = false)
    (da : s.heap.DictOfH knd a xs) (db : s.heap.DictOfH knd b ys) (hk : xs.map (·.1) = ys.map (·.1))
    (h : ∀ tk, Q true { s with toks := tk })
    (hv' : ∀ (tk : Nat) (i : Nat) (k : K) (p q : Addr × Value), xs[i]? = some (k, p) → ys[i]? = some (k, q) → SeqAt.EqAt A { s with toks := tk } p.2 q.2 true) :
    wpAny (model prog w) A (Builtin.Dict.samePairs nm a b) Q E s := by
  obtain ⟨oa, es, ep, hoa, _, hda, hea, hia, hna⟩ := da
  obtain ⟨ob, es', ep', hob, _, hdb, heb, hib, hnb⟩ := db
  have hla : es.size = xs.length := size_of_entries hea
  have hlb : es'.size = ys.length := size_of_entries heb
  have hlen : xs.length = ys.length := by have := congrArg List.length hk; simpa using this
  unfold Builtin.Dict.samePairs Builtin.Dict.showsAll
  rw [if_neg (show ¬ (a == sysModules) = true by rw [la]; exact Bool.false_ne_true), if_neg (show ¬ (b == sysModules) = true by rw [lb]; exact Bool.false_ne_true)]
  refine wpAny_bind (wpAny_pure (wpAny_bind (wpAny_pure ?_)))
  refine wpAny_bind (wpAny_dictEntries hoa hda ?_)
  dsimp only
  refine wpAny_bind (wpAny_dictEntries hob hdb ?_)
  have hsz : es.size = es'.size := by omega
  rw [if_neg (by rw [hsz]; simp)]
  refine wpAny_bind (wpAny_dictEpoch hoa hda ?_)
  refine wpAny_bind ?_
  rw [Std.Legacy.Range.forIn_eq_forIn_range']
  simp only [Std.Legacy.Range.size, Nat.sub_zero, Nat.add_sub_cancel, Nat.div_one]
  refine wpAny_forIn_list _
    (fun rest q s' => (∃ tk, s' = { s with toks := tk }) ∧ q = (none, ()) ∧ ∃ i, rest = List.range' i (es.size - i) ∧ i ≤ es.size)
    _ ?_ ?_ _ _ ⟨⟨s.toks, rfl⟩, rfl, 0, by simp, Nat.zero_le _⟩
  · rintro x rest q s' ⟨⟨tk, rfl⟩, rfl, i, hr, hi⟩
    have hlt : i < es.size := by
      rcases Nat.lt_or_ge i es.size with h | h
      · exact h
      · rw [Nat.sub_eq_zero_of_le h] at hr; simp at hr
    obtain ⟨rfl, hrest⟩ : x = i ∧ rest = List.range' (i + 1) (es.size - (i + 1)) := by
      have e : es.size - i = (es.size - (i + 1)) + 1 := by omega
      rw [e, List.range'_succ] at hr
      injection hr with h1 h2
      exact ⟨h1, h2⟩
    refine wpAny_bind (wpAny_dictEntries (s := { s with toks := tk }) hoa hda ?_)
    have hx : xs[x]? = some xs[x] := List.getElem?_eq_getElem (by omega)
    have hy : ys[x]? = some ys[x] := List.getElem?_eq_getElem (by omega)
    obtain ⟨k, p, hkp⟩ : ∃ k p, xs[x] = (k, p) := ⟨_, _, rfl⟩
    obtain ⟨k', q', hkq⟩ : ∃ k q, ys[x] = (k, q) := ⟨_, _, rfl⟩
    rw [hkp] at hx
    rw [hkq] at hy
    have hkk : k = k' := by
      have h1 : (xs.map (·.1))[x]? = some k := by rw [List.getElem?_map, hx]; rfl
      have h2 : (ys.map (·.1))[x]? = some k' := by rw [List.getElem?_map, hy]; rfl
      rw [hk, h2] at h1
      exact (Option.some.inj h1).symm
    subst hkk
    have ea : es[x]? = some ⟨knd.hash k, .ref p.1, p.2⟩ := by rw [entry_at hea x, hx]; rfl
    have eb : es'[x]? = some ⟨knd.hash k, .ref q'.1, q'.2⟩ := by rw [entry_at heb x, hy]; rfl
    have hkey : knd.is s.heap k p.1 := hia _ (List.mem_of_getElem? hx)
    rw [ea]
    show wpAny _ _ (holding [Value.ref p.1, p.2] _ >>= _) _ _ _
    refine wpAny_bind (wpAny_holding (wpAny_bind (wpAny_dictFind_heap (s := { s with toks := tk }) hu hkey hob hdb heb hib hnb ?_ ?_)))
    · intro hno
      exact absurd hy (hno x q')
    · intro j q hj
      obtain rfl := idxH_unique hnb hy hj
      obtain rfl : q' = q := by rw [hy] at hj; exact (Prod.mk.inj (Option.some.inj hj)).2
      refine wpAny_bind (wpAny_dictEntries (s := { s with toks := tk }) hob hdb ?_)
      rw [eb]
      refine wpAny_holding (hv' tk x k p q' hx hy prog w _ _ ?_)
      show wpAny _ _ (if (!true) = true then _ else _) _ _ _
      rw [if_neg (by decide)]
      refine wpAny_bind (wpAny_dictEpoch (s := { s with toks := tk }) hoa hda ?_)
      rw [if_neg (by simp)]
      exact wpAny_pure ⟨⟨tk, rfl⟩, rfl, x + 1, hrest, hlt⟩
  · rintro q s' ⟨⟨tk, rfl⟩, rfl, i, hr, hi⟩
    refine wpAny_pure ?_
    exact h tk
theorem eq_dicts_heap {a b : Addr} {xs ys : List (K × Addr × Value)} {Q : Value → Shared → Prop} (hu : knd.room A.in1) (hu2 : A.units < cLine) (la : (a == sysModules) = false) (lb : (b == sysModules) = false)
    (da : s.heap.DictOfH knd a xs) (db : s.heap.DictOfH knd b ys) (hk : xs.map (·.1) = ys.map (·.1)) (h : ∀ tk, Q (.bool true) { s with toks := tk })
    (hv' : ∀ (tk : Nat) (i : Nat) (k : K) (p q : Addr × Value), xs[i]? = some (k, p) → ys[i]? = some (k, q) → SeqAt.EqAt A.in1 { s with toks := tk } p.2 q.2 true) :
    wpAny (model prog w) A (compareOp .Eq (.ref a) (.ref b)) Q E s := by
  refine wpAny_richCompare_same_room (op := .Eq) da.typeIs db.typeIs PySem.F.slot_dict_eq (wpAny_call_entry PySem.F.slot_dict_eq da.typeIs PySem.F.entry_dict_eq ?_ (PySem.F.args_dict_eq_2 _ _)) hu2
  show wpAny _ _ (Builtin.Dict.dictSlotArgs "__eq__" ⟨[.ref a, .ref b], []⟩ >>= _) _ _ s
  refine wpAny_bind ?_
  unfold Builtin.Dict.dictSlotArgs
  refine wpAny_bind (wpAny_notOrdered_dict da.typeIs ?_)
  show wpAny _ _ (pure (Value.ref a, Value.ref b)) _ _ s
  refine wpAny_pure ?_
  refine wpAny_bind (wpAny_isInstance (T := "dict") db.typeIs PySem.F.sub_dict_dict ?_)
  simp only [Bool.not_true, Bool.false_eq_true, if_false]
  refine wpAny_bind (wpAny_pure (wpAny_bind (wpAny_pure ?_)))
  refine wpAny_bind (samePairs_heap hu la lb da db hk (fun tk => ?_) hv')
  exact wpAny_pure ⟨_, rfl, fun x => (nomatch x), h tk⟩
end
/-- the five numbers of a counter -/
abbrev cnt5 (p : Int) (a b c d e : Tok) (q r s t : Int) : Obj := tupO [.int 17 a, .int p b, .int q c, .int r d, .int s e]
def IsCnt (nw : Led) (p q : Int) (v : Value) : Prop := ∃ c t0 t1 t2 t3 t4, v = .ref c ∧ (c, tupO [.int 17 t0, .int p t1, .int q t2, .int 9 t3, .int 2 t4]) ∈ nw
/-- the objects of the names, as far as they are made -/
inductive OMade (nw : Led) : List (Str × Value) → List OL → Prop
  | nil : OMade nw [] []
  | snoc {kvs : List (Str × Value)} {ol : List OL} {k : Str} {v : Value} {x y : OL} : OMade nw kvs ol → x.k0 = Str.ofString "counter" → x.k1 = k → IsCnt nw 9 9 x.v → y.k0 = Str.ofString "expectation" → y.k1 = k → y.v = v → OMade nw (kvs ++ [(k, v)]) ((ol ++ [x]) ++ [y])
theorem OMade.mono {nw nw' : Led} {kvs ol} (h : OMade nw kvs ol) (k : ∀ p ∈ nw, p.2.cls = .type "tuple" → p ∈ nw') : OMade nw' kvs ol := by
  induction h with
  | nil => exact .nil
  | snoc _ a b c d e f ih =>
    obtain ⟨cc, t0, t1, t2, t3, t4, h1, h2⟩ := c
    exact .snoc ih a b ⟨cc, t0, t1, t2, t3, t4, h1, k _ h2 rfl⟩ d e f
theorem OMade.names {nw : Led} {kvs ol} (h : OMade nw kvs ol) : ∀ x ∈ ol, (x.k0 = Str.ofString "counter" ∨ x.k0 = Str.ofString "expectation") ∧ x.k1 ∈ kvs.map (·.1) := by
  induction h with
  | nil => intro x hx; simp at hx
  | @snoc kvs ol k v x y _ a b c d e f ih =>
    intro z hz
    rw [List.map_append]
    rcases List.mem_append.mp hz with hz | hz
    · rcases List.mem_append.mp hz with hz | hz
      · exact ⟨(ih z hz).1, List.mem_append_left _ (ih z hz).2⟩
      · obtain rfl := List.mem_singleton.mp hz
        exact ⟨.inl a, List.mem_append_right _ (by rw [b]; exact .head _)⟩
    · obtain rfl := List.mem_singleton.mp hz
      exact ⟨.inr d, List.mem_append_right _ (by rw [e]; exact .head _)⟩
theorem OMade.length {nw : Led} {kvs ol} (h : OMade nw kvs ol) : ol.length = 2 * kvs.length := by
  induction h with
  | nil => rfl
  | snoc _ _ _ _ _ _ _ ih => simp [ih]; omega
theorem OMade.expects {nw : Led} {kvs ol} (h : OMade nw kvs ol) : ∀ p ∈ kvs, ∃ y ∈ ol, y.key = [Str.ofString "expectation", p.1] ∧ y.v = p.2 := by
  induction h with
  | nil => intro p hp; simp at hp
  | @snoc kvs ol k v x y _ a b c d e f ih =>
    intro p hp
    rcases List.mem_append.mp hp with hp | hp
    · obtain ⟨y, hy, r⟩ := ih p hp
      exact ⟨y, List.mem_append_left _ (List.mem_append_left _ hy), r⟩
    · obtain rfl := List.mem_singleton.mp hp
      exact ⟨y, List.mem_append_right _ (.head _), by unfold OL.key; rw [d, e], f⟩
/-- two makings of the same names -/
inductive OSame (nw : Led) : List OL → List OL → Prop
  | nil : OSame nw [] []
  | snoc {a b : List OL} {x y : OL} : OSame nw a b → x.key = y.key → (x.v = y.v ∨ ∃ p q, IsCnt nw p q x.v ∧ IsCnt nw p q y.v) → OSame nw (a ++ [x]) (b ++ [y])
theorem OMade.same {nw : Led} {kvs a b} (h : OMade nw kvs a) (k : OMade nw kvs b) : OSame nw a b := by
  induction h generalizing b with
  | nil =>
    generalize hk : ([] : List (Str × Value)) = kk at k
    cases k with
    | nil => exact .nil
    | snoc => simp at hk
  | @snoc kvs ol k₀ v x y _ a b c d e f ih =>
    generalize hk : kvs ++ [(k₀, v)] = kk at k
    cases k with
    | nil => simp at hk
    | @snoc kvs' ol' k' v' x' y' m a' b' c' d' e' f' =>
      obtain ⟨rfl, h2⟩ := List.append_inj' hk rfl
      injection h2 with h3
      injection h3 with h4 h5
      subst h4 h5
      exact .snoc (.snoc (ih m) (by unfold OL.key; rw [a, b, a', b']) (.inr ⟨_, _, c, c'⟩)) (by unfold OL.key; rw [d, e, d', e']) (.inl (f.trans f'.symm))
theorem OSame.length {nw : Led} {a b} (h : OSame nw a b) : a.length = b.length := by
  induction h with
  | nil => rfl
  | snoc _ _ _ ih => simp [ih]
theorem OSame.keys {nw : Led} {a b} (h : OSame nw a b) : a.map OL.key = b.map OL.key := by
  induction h with
  | nil => rfl
  | snoc _ e _ ih => simp [ih, e]
theorem OSame.get {nw : Led} {a b} (h : OSame nw a b) : ∀ (i : Nat) (x y : OL), a[i]? = some x → b[i]? = some y → (x.v = y.v ∨ ∃ p q, IsCnt nw p q x.v ∧ IsCnt nw p q y.v) := by
  induction h with
  | nil => intro i x y hx; simp at hx
  | @snoc a b x y S e v ih =>
    intro i x' y' hx hy
    have hl := S.length
    by_cases c : i < a.length
    · rw [List.getElem?_append_left c] at hx
      rw [List.getElem?_append_left (by omega)] at hy
      exact ih i _ _ hx hy
    · rw [List.getElem?_append_right (by omega)] at hx
      rw [List.getElem?_append_right (by omega)] at hy
      have : i - a.length = 0 := by
        rcases Nat.eq_zero_or_pos (i - a.length) with e | e
        · exact e
        · rw [List.getElem?_eq_none (by simp; omega)] at hx; cases hx
      rw [this] at hx
      rw [show i - b.length = 0 by omega] at hy
      cases hx; cases hy
      exact v
theorem cnt_eqAt {A : Around} {s : Shared} {h₀ : Heap} {L : Addr} {nw : Led} {u v : Value} {p q : Int} (N : News h₀ L s.heap nw) (hu : IsCnt nw p q u) (hv : IsCnt nw p q v) (hc : A.units < cLine) : SeqAt.EqAt A s u v true := by
  obtain ⟨c, t0, t1, t2, t3, t4, rfl, hm⟩ := hu
  obtain ⟨d, r0, r1, r2, r3, r4, rfl, hn⟩ := hv
  have := ints_eqAt (A := A) N hm (ints5 _ _ _ _ _ _ _ _ _ _) hn (ints5 _ _ _ _ _ _ _ _ _ _) hc
  rwa [decide_eq_true rfl] at this
theorem objs_eq {w : World} {A : Around} {E : Value → Shared → Prop} {s : Shared} {h₀ : Heap} {L a b : Addr} {nw : Led} {oa ob : Obj} {ol ol' : List OL} {Q : Value → Shared → Prop} (N : News h₀ L s.heap nw) (ha : (a, oa) ∈ nw) (hb : (b, ob) ∈ nw) (Sa : Objs w oa ol) (Sb : Objs w ob ol')
    (hat : ∀ x ∈ ol, x.At nw) (hat' : ∀ x ∈ ol', x.At nw) (la : (a == sysModules) = false) (lb : (b == sysModules) = false) (S : OSame nw ol ol') (hu : A.units + 3 < cLine) (h : ∀ tk, Q (.bool true) { s with toks := tk }) :
    wpAny (model Challenge.rw_pf0335_01.row.prog w) A (compareOp .Eq (.ref a) (.ref b)) Q E s := by
  have hu1 : A.in1.units < cLine := by show A.units + 1 < cLine; omega
  refine eq_dicts_heap (knd := okd w) (by show A.units + 1 < cLine; omega) (by omega) la lb (Sa.of ha hat N) (Sb.of hb hat' N) (by rw [oent_keys, oent_keys]; exact S.keys) h ?_
  intro tk i k p q h1 h2
  rw [List.getElem?_map] at h1 h2
  cases e1 : ol[i]? with
  | none => rw [e1] at h1; simp at h1
  | some x =>
    cases e2 : ol'[i]? with
    | none => rw [e2] at h2; simp at h2
    | some y =>
      rw [e1] at h1; rw [e2] at h2
      simp only [Option.map_some, Option.some.injEq] at h1 h2
      obtain ⟨_, rfl⟩ := Prod.mk.inj h1
      obtain ⟨_, rfl⟩ := Prod.mk.inj h2
      rcases S.get i x y e1 e2 with e | ⟨p, q, c1, c2⟩
      · show SeqAt.EqAt _ _ x.v y.v true
        rw [e]; exact SeqAt.EqAt.same _
      · exact cnt_eqAt (s := { s with toks := tk }) N c1 c2 hu1
theorem str_key {prog : Program} {w : World} {a : Addr} {news : Led} {o : Obj} {kvs : List (Str × Value)} (d : o.IsDictOf (PySem.strKind prog w) kvs) (hm : (a, o) ∈ news) : (∃ (es : Array DictEntry) (ep : Nat), DictSrc a es ep news ∧ es.size = kvs.length ∧ ∀ (i : Nat) (e : DictEntry), es[i]? = some e → ∀ k v, kvs[i]? = some (k, v) → ∃ t, e.key = .str k t) ∧ (kvs.map (·.1)).Nodup := by
  obtain ⟨es, ep, ex, hd, hk, hp, nd⟩ := d
  refine ⟨⟨es, ep, ⟨o, hm, ex, hd⟩, by rw [← hp.length]; simp, fun i e h1 k v h2 => ?_⟩, nd⟩
  have := (hp.get? (i := i) (e := e) (k := k) (v := v) (by rw [Array.getElem?_toList]; exact h1) h2).1
  exact Value.isStrOf_shape this
theorem valueAt_get {K : Type} [DecidableEq K] : ∀ {kvs : List (K × Value)} (i : Nat) {k : K} {v : Value}, (kvs.map (·.1)).Nodup → kvs[i]? = some (k, v) → valueAt kvs k = some v
  | [], i, k, v, _, h => by simp at h
  | (k', v') :: r, 0, k, v, _, h => by
    simp only [List.getElem?_cons_zero, Option.some.injEq, Prod.mk.injEq] at h
    obtain ⟨rfl, rfl⟩ := h
    simp [valueAt]
  | (k', v') :: r, i + 1, k, v, nd, h => by
    rw [List.map_cons, List.nodup_cons] at nd
    simp only [List.getElem?_cons_succ] at h
    have hne : ¬ k' = k := fun e => nd.1 (e ▸ List.mem_map.mpr ⟨(k, v), List.mem_of_getElem? h, rfl⟩)
    have := valueAt_get i nd.2 h
    unfold valueAt at this ⊢
    rw [List.find?_cons_of_neg (by simpa using hne)]
    exact this
theorem head2_of {h₀ h : Heap} {L a : Addr} {o : Obj} {x : Addr × Obj} {r : Led} (_ : News h₀ L h (x :: (a, o) :: r)) : ∃ a' : Addr, a' = a := ⟨_, rfl⟩
theorem mem_offOf {d : Addr} {l : Led} {p : Addr × Obj} (hp : p ∈ l) (h : p.1 ≠ d) : p ∈ offOf d l := List.mem_filter.mpr ⟨hp, decide_eq_true h⟩
/-! M25 -/
local macro_rules | `(tactic| walk_at "newTuple") => `(tactic| ((with_reducible rename Halt 7 => hx9); (k_here; k_dflt (refine' kup_newTuple ?F ?N ?_ ?z; (case F => k_asm); (case N => k_asm); (case z => kmk_size)); intro D' h' F' N' l1; (try k_lt l1))))
theorem at_snoc {ol : List OL} {y : OL} {nw : Led} (h : ∀ x ∈ ol, x.At nw) (hy : y.At nw) : ∀ x ∈ ol ++ [y], x.At nw := fun x hx => by
  rcases List.mem_append.mp hx with hx | hx
  · exact h x hx
  · obtain rfl := List.mem_singleton.mp hx
    exact hy
def ObjsMade (w : World) (news : Led) (nml : List (Str × Value)) (v : Value) (news' : Led) : Prop := ∃ D o ol z, v = .ref D ∧ (D == sysModules) = false ∧ (D, o) ∈ news' ∧ Objs w o (ol ++ [z]) ∧ (∀ x ∈ ol ++ [z], x.At news') ∧ OMade news' nml ol ∧
  z.key = [Str.ofString "limit", Str.ofString "irc"] ∧ IsCnt news' 6667 9000 z.v ∧ (∀ p ∈ news, p ∈ news') ∧ ∀ p ∈ news, p.1 < D
theorem objects_spec {w mean mg mb base} {news : Led} {NM : Addr} {oNM : Obj} {nml : List (Str × Value)} (hNM : (NM, oNM) ∈ news) (dNM : oNM.IsDictOf (PySem.strKind Challenge.rw_pf0335_01.row.prog w) nml) (lNM : (NM == sysModules) = false) (hlen : nml.length ≤ 100) :
    Spec 8 w mean mg mb base 182 [.ref NM] news (ObjsMade w news nml) := by
  intro dp un gd cn cs a9 ccd cl outer A₀ h₀ L m h8 g8 d8 T8 os8 Q E B9 F X N T hk hd hu hret
  refine wpAny_call ?_
  k_dflt cell_enter
  refine @shut _ _ _ h₀ L m _ _ _ _ _ _ _ _ _ _ _ _ _ _ _ _ _ _ Q _ _ _ _ hret hd hu (by assumption) (fun _ _ h => h) (fun _ _ h => h) fun dp un gd outer A₀ tkS Q E Bw hd hu hret hnext => ?_
  have hG : GDO g8 d8 os8 := trivial
  have hm7 : Halt 7 := trivial
  (repeat' (first | ((with_reducible show wpAny _ _ (setItem (Value.ref _) (Value.ref _) _) _ _ _); refine stop ?_) | ((fail_if_success (with_reducible refine Stop.go ?_)); (first | (k_unfold; (try dsimp only)) | (k_end; wrow_close) | walk1 | (dsimp only; walk1) | (leave1; walk_say "STEP leave1"; try dsimp only) | fail "no step"))))
  refine Stop.go ?_
  (rename Fr _ _ _ _ => F2)
  obtain ⟨⟨es9, ep9, src9, size9, keys9⟩, nd9⟩ := str_key dNM hNM
  refine For_D F2 rfl rfl ?_
  (repeat' (first | ((with_reducible show wpAny _ _ (setItem (Value.ref _) (Value.ref _) _) _ _ _); refine stop ?_) | ((fail_if_success (with_reducible refine Stop.go ?_)); (first | (k_unfold; (try dsimp only)) | (k_end; wrow_close) | walk1 | (dsimp only; walk1) | (leave1; walk_say "STEP leave1"; try dsimp only) | fail "no step"))))
  (rename Fr _ _ _ _ => F3); (rename News _ _ _ _ => N3)
  obtain ⟨Dd, eD⟩ := head_of N3
  subst eD
  have lDd : ∀ p ∈ news, p.1 < Dd := tail_lt (by assumption) (fun p hp => hp)
  have loD : (Dd == sysModules) = false := by assumption
  have e0 : ∃ n, _ = dictOf [] n := empty_obj (by assumption : Obj.IsDictOf (PySem.intKind Challenge.rw_pf0335_01.row.prog w) _ [])
  obtain ⟨n0, e0⟩ := e0
  subst e0
  refine ⟨NM, es9, ep9, _, _, fun i m nw => m (Str.ofString "names") = some (.ref NM) ∧ m (Str.ofString "objects") = some (.ref Dd) ∧ (∀ p ∈ news, p ∈ nw) ∧ ∃ oO ol, (Dd, oO) ∈ nw ∧ Objs w oO ol ∧ (∀ x ∈ ol, x.At nw) ∧ OMade nw (nml.take i) ol,
    rfl, rfl, lNM, F3, N3, src9.mono (fun p hp => .tail _ hp), ⟨rfl, rfl, fun p hp => .tail _ hp, _, [], .head _, Objs.nil ⟨rfl, rfl, rfl⟩ rfl rfl, fun x hx => (nomatch hx), .nil⟩, ?_, ?_⟩
  · rintro i e m₁ news₁ h tk I oI he hJ9 S9 off F₁ N₁
    refine and4 hJ9 fun j1 j2 sub q39 => ?_
    obtain ⟨oO, ol, hD, hO, hat, hom⟩ := q39
    (try dsimp only)
    have hi : i < nml.length := by have := (Array.getElem?_eq_some_iff.mp he).1; omega
    have hx : nml[i]? = some nml[i] := List.getElem?_eq_getElem hi
    obtain ⟨nm, v, hnv⟩ : ∃ nm v, nml[i] = (nm, v) := ⟨_, _, rfl⟩
    rw [hnv] at hx
    have htake : nml.take (i + 1) = nml.take i ++ [(nm, v)] := by rw [List.take_add_one, hx]; rfl
    obtain ⟨tk9, hkey⟩ := keys9 i e he _ _ hx
    rw [hkey] at F₁
    have hval := valueAt_get i nd9 hx
    have hnew : nm ∉ (nml.take i).map (·.1) := by
      intro hm
      obtain ⟨q, hq, e⟩ := List.mem_map.mp hm
      obtain ⟨j, hj⟩ := List.mem_iff_getElem?.mp hq
      have hji : j < i := by
        have := (List.getElem?_eq_some_iff.mp hj).1
        rw [List.length_take] at this; omega
      have hj' : nml[j]? = some q := by rw [List.getElem?_take] at hj; rw [if_pos hji] at hj; exact hj
      have h1 : (nml.map (·.1))[j]? = some nm := by rw [List.getElem?_map, hj', ← e]; rfl
      have h2 : (nml.map (·.1))[i]? = some nm := by rw [List.getElem?_map, hx]; rfl
      have := (List.getElem?_inj (by simpa using (by omega : j < nml.length)) nd9).mp (h1.trans h2.symm)
      omega
    have hol := hom.length
    rw [List.length_take] at hol
    have f1 := sub _ hNM
    (repeat' (first | ((with_reducible show wpAny _ _ (setItem (Value.ref _) (Value.ref _) _) _ _ _); refine stop ?_) | ((fail_if_success (with_reducible refine Stop.go ?_)); (first | (k_unfold; (try dsimp only)) | (k_end; wrow_close) | walk1 | (dsimp only; walk1) | (leave1; walk_say "STEP leave1"; try dsimp only) | fail "no step"))))
    (rename Fr _ _ _ _ => F5); (rename News _ _ _ _ => N5)
    obtain ⟨k1, e1⟩ := head_of N5
    subst e1
    obtain ⟨t1, e1⟩ := head2_of N5
    subst e1
    have nkI : @Ne Nat k1 I := by k_ne
    have ntI : @Ne Nat t1 I := by k_ne
    have toD : ∀ p ∈ news₁, p.2.cls = .type "tuple" → p.1 ≠ Dd := fun p hp hc => led_ne N₁ (.tail _ hp) (.tail _ hD) (by rw [hc, hO.ex.1]; exact tup_ne_dict)
    have k1D : k1 ≠ Dd := led_ne N5 (.head _) (.tail _ (.tail _ (.tail _ hD))) (by rw [hO.ex.1]; exact tup_ne_dict)
    have t1D : t1 ≠ Dd := led_ne N5 (.tail _ (.head _)) (.tail _ (.tail _ (.tail _ hD))) (by rw [hO.ex.1]; exact tup_ne_dict)
    refine Stop.go ?_
    k_dflt refine objs_set (y := ⟨k1, Str.ofString "counter", nm, _, _, _⟩) (by k_asm) (by k_asm) (by k_mem) hO (fun x hx => OL.At.up hat hx fun p hp => .tail _ (.tail _ (.tail _ hp))) (List.Mem.head _) (fun x hx => ?_) (by ktr_units) (by omega) ?_
    · intro hk9
      have := (hom.names x hx).2
      injection hk9 with _ h2
      injection h2 with h3 _
      exact hnew (by have h4 : x.k1 = nm := h3
                     rw [← h4]; exact this)
    intro h' tk oO' F' N' S'
    obtain ⟨nw2, e2⟩ := led_of N'
    have N6 := led_as e2 N'
    clear N' N5
    have all2 := fun (p : Addr × Obj) (hp : p ∈ _) (hh : p.1 ≠ Dd) => mem_sets (p := p) e2 hp hh
    have sub2 : ∀ p ∈ news₁, p.1 ≠ Dd → p ∈ nw2 := fun p hp hh => all2 p (.tail _ (.tail _ (.tail _ hp))) hh
    have g1 := all2 _ (.head _) k1D
    have g2 := all2 _ (.tail _ (.head _)) t1D
    have g3 := all2 _ (.tail _ (.tail _ (.head _))) (Ne.symm (off _ hD))
    have g4 := mem_sets_self e2 (.tail _ (.tail _ (.tail _ hD)))
    have g5 := sub2 _ f1 (Nat.ne_of_lt (lDd _ hNM))
    clear e2
    have hat2 := at_snoc (nw := nw2) (fun x hx => sub2 _ (hat x hx) (toD _ (hat x hx) rfl)) g1
    (repeat' (first | ((with_reducible show wpAny _ _ (setItem (Value.ref _) (Value.ref _) _) _ _ _); refine stop ?_) | ((fail_if_success (with_reducible refine Stop.go ?_)); (first | (k_unfold; (try dsimp only)) | (k_end; wrow_close) | walk1 | (dsimp only; walk1) | (leave1; walk_say "STEP leave1"; try dsimp only) | fail "no step"))))
    (rename News _ _ _ _ => N7)
    obtain ⟨k2, e1⟩ := head_of N7
    subst e1
    have k2D : k2 ≠ Dd := led_ne N7 (.head _) (.tail _ g4) (by rw [S'.ex.1]; exact tup_ne_dict)
    have k2I : @Ne Nat k2 I := Nat.ne_of_gt (tail_lt (by assumption) (fun p hp => hp) _ g3)
    refine Stop.go ?_
    k_dflt refine objs_set (y := ⟨k2, Str.ofString "expectation", nm, _, _, _⟩) (by k_asm) (by k_asm) (by k_mem) S' (fun x hx => OL.At.up hat2 hx fun p hp => .tail _ hp) (List.Mem.head _) (fun x hx => ?_) (by ktr_units) (by simp; omega) ?_
    · intro hk9
      injection hk9 with h1 h2
      injection h2 with h3 _
      rcases List.mem_append.mp hx with hx | hx
      · exact hnew (by have h4 : x.k1 = nm := h3
                       rw [← h4]; exact (hom.names x hx).2)
      · obtain rfl := List.mem_singleton.mp hx
        exact absurd (show Str.ofString "counter" = Str.ofString "expectation" from h1) (by decide)
    intro h' tk oO'' F' N' S''
    obtain ⟨nw3, e3⟩ := led_of N'
    have N8 := led_as e3 N'
    clear N' N7
    have all3 := fun (p : Addr × Obj) (hp : p ∈ nw2) (hh : p.1 ≠ Dd) => mem_sets (p := p) e3 (.tail _ hp) hh
    have all4 : ∀ p ∈ news₁, p.1 ≠ Dd → p ∈ offOf I nw3 := fun p hp hh => mem_offOf (all3 p (sub2 p hp hh) hh) (off p hp)
    have c1 := mem_offOf (d := I) (all3 _ g1 k1D) nkI
    have c2 := mem_offOf (d := I) (all3 _ g2 t1D) ntI
    have c3 := all3 _ g3 (Ne.symm (off _ hD))
    have DI : Dd ≠ I := off _ hD
    have c4 := mem_offOf (d := I) (mem_sets_self e3 (.tail _ g4)) DI
    have c5 := mem_offOf (d := I) (mem_sets e3 (.head _) k2D) k2I
    (repeat' (first | ((with_reducible show wpAny _ _ (setItem (Value.ref _) (Value.ref _) _) _ _ _); refine stop ?_) | ((fail_if_success (with_reducible refine Stop.go ?_)); (first | (k_unfold; (try dsimp only)) | (k_end; wrow_close) | walk1 | (dsimp only; walk1) | (leave1; walk_say "STEP leave1"; try dsimp only) | fail "no step"))))
    (rename Fr _ _ _ _ => F9); (rename News _ _ _ _ => N9)
    refine TurnV.next (news' := offOf I nw3) F9 (led_rot N9 c3) led_off ⟨⟨by with_unfolding_all exact j1, by with_unfolding_all exact j2, fun p hp => all4 p (sub p hp) (Nat.ne_of_lt (lDd p hp)), oO'', _, c4, S'', ?_, ?_⟩, src9.mono fun p hp => all4 p (sub p hp) (Nat.ne_of_lt (lDd p hp))⟩
    · intro x hx
      rcases List.mem_append.mp hx with hx | hx
      · rcases List.mem_append.mp hx with hx | hx
        · exact all4 _ (hat x hx) (toD _ (hat x hx) rfl)
        · obtain rfl := List.mem_singleton.mp hx
          exact c1
      · obtain rfl := List.mem_singleton.mp hx
        exact c5
    · rw [htake]
      exact .snoc (hom.mono fun p hp hc => all4 p hp (toD p hp hc)) rfl rfl ⟨t1, _, _, _, _, _, rfl, c2⟩ rfl rfl rfl
  · rintro h tk m' news' F' N' hJ9
    refine and4 hJ9 fun j1 j2 sub q39 => ?_
    obtain ⟨oO, ol, hD, hO, hat, hom⟩ := q39
    (try dsimp only)
    rw [size9, List.take_length] at hom
    have hol := hom.length
    (repeat' (first | ((with_reducible show wpAny _ _ (setItem (Value.ref _) (Value.ref _) _) _ _ _); refine stop ?_) | ((fail_if_success (with_reducible refine Stop.go ?_)); (first | (k_unfold; (try dsimp only)) | (k_end; wrow_close) | walk1 | (dsimp only; walk1) | (leave1; walk_say "STEP leave1"; try dsimp only) | fail "no step"))))
    (rename Fr _ _ _ _ => F5); (rename News _ _ _ _ => N5)
    obtain ⟨k1, e1⟩ := head_of N5
    subst e1
    obtain ⟨t1, e1⟩ := head2_of N5
    subst e1
    have k1D : k1 ≠ Dd := led_ne N5 (.head _) (.tail _ (.tail _ hD)) (by rw [hO.ex.1]; exact tup_ne_dict)
    have t1D : t1 ≠ Dd := led_ne N5 (.tail _ (.head _)) (.tail _ (.tail _ hD)) (by rw [hO.ex.1]; exact tup_ne_dict)
    have toD : ∀ p ∈ news', p.2.cls = .type "tuple" → p.1 ≠ Dd := fun p hp hc => led_ne N5 (.tail _ (.tail _ hp)) (.tail _ (.tail _ hD)) (by rw [hc, hO.ex.1]; exact tup_ne_dict)
    refine Stop.go ?_
    k_dflt refine objs_set (y := ⟨k1, Str.ofString "limit", Str.ofString "irc", _, _, _⟩) (by k_asm) (by k_asm) (by k_mem) hO (fun x hx => OL.At.up hat hx fun p hp => .tail _ (.tail _ hp)) (List.Mem.head _) (fun x hx => ?_) (by ktr_units) (by omega) ?_
    · intro hk9
      injection hk9 with h1 h2
      rcases (hom.names x hx).1 with e | e
      · exact absurd (show Str.ofString "counter" = Str.ofString "limit" from e.symm.trans h1) (by decide)
      · exact absurd (show Str.ofString "expectation" = Str.ofString "limit" from e.symm.trans h1) (by decide)
    intro h' tk oO' F' N' S'
    obtain ⟨nw2, e2⟩ := led_of N'
    have N6 := led_as e2 N'
    clear N' N5
    have sub2 : ∀ p ∈ news', p.1 ≠ Dd → p ∈ nw2 := fun p hp hh => mem_sets e2 (.tail _ (.tail _ hp)) hh
    have c1 := mem_sets e2 (.head _) k1D
    have c2 := mem_sets e2 (.tail _ (.head _)) t1D
    have c4 := mem_sets_self e2 (.tail _ (.tail _ hD))
    (repeat' (first | ((with_reducible show wpAny _ _ (setItem (Value.ref _) (Value.ref _) _) _ _ _); refine stop ?_) | ((fail_if_success (with_reducible refine Stop.go ?_)); (first | (k_unfold; (try dsimp only)) | (k_end; wrow_close) | walk1 | (dsimp only; walk1) | (leave1; walk_say "STEP leave1"; try dsimp only) | fail "no step"))))
    k_dflt refine hret _ _ _ nw2 ?_ (by k_asm) (by k_asm)
    refine ⟨Dd, oO', ol, _, rfl, loD, c4, S', ?_, hom.mono fun p hp hc => sub2 p hp (toD p hp hc), rfl, ⟨t1, _, _, _, _, _, rfl, c2⟩, fun p hp => sub2 p (sub p hp) (Nat.ne_of_lt (lDd p hp)), lDd⟩
    intro x hx
    rcases List.mem_append.mp hx with hx | hx
    · exact sub2 _ (hat x hx) (toD _ (hat x hx) rfl)
    · obtain rfl := List.mem_singleton.mp hx
      exact c1
/-! M26 -/
/-- item by item -/
inductive Cor (zf : Int → Int) : List ES → List SL → Prop
  | nil : Cor zf [] []
  | cons {e : ES} {x : SL} {es : List ES} {sl : List SL} : Same9 zf e x → Cor zf es sl → Cor zf (e :: es) (x :: sl)
section
variable {zf : Int → Int} {es : List ES} {sl : List SL} {n z now k : Int}
theorem Cor.length (h : Cor zf es sl) : es.length = sl.length := by
  induction h with
  | nil => rfl
  | cons _ _ ih => simp [ih]
theorem Cor.get (h : Cor zf es sl) : ∀ (j : Nat) (e : ES) (x : SL), es[j]? = some e → sl[j]? = some x → Same9 zf e x := by
  induction h with
  | nil => intro j e x he; simp at he
  | cons s _ ih =>
    intro j e x he hx
    cases j with
    | zero => simp at he hx; subst he hx; exact s
    | succ j => exact ih j e x (by simpa using he) (by simpa using hx)
theorem Cor.snoc {e : ES} {x : SL} (h : Cor zf es sl) (s : Same9 zf e x) : Cor zf (es ++ [e]) (sl ++ [x]) := by
  induction h with
  | nil => exact .cons s .nil
  | cons a _ ih => exact .cons a ih
theorem Cor.filter (h : Cor zf es sl) (p : ES → Bool) (q : SL → Bool) (hpq : ∀ e x, Same9 zf e x → p e = q x) : Cor zf (es.filter p) (sl.filter q) := by
  induction h with
  | nil => exact .nil
  | @cons e x es sl s _ ih =>
    rw [List.filter_cons, List.filter_cons, hpq e x s]
    by_cases c : q x = true
    · rw [if_pos c, if_pos c]; exact .cons s ih
    · rw [if_neg c, if_neg c]; exact ih
theorem Cor.eraseIdx (h : Cor zf es sl) : ∀ i, Cor zf (es.eraseIdx i) (sl.eraseIdx i) := by
  induction h with
  | nil => intro i; exact .nil
  | cons s C ih =>
    intro i
    cases i with
    | zero => exact C
    | succ i => exact .cons s (ih i)
theorem Cor.set (h : Cor zf es sl) {e : ES} {x : SL} (s : Same9 zf e x) : ∀ i, Cor zf (es.set i e) (sl.set i x) := by
  induction h with
  | nil => intro i; exact .nil
  | cons s' C ih =>
    intro i
    cases i with
    | zero => exact .cons s C
    | succ i => exact .cons s' (ih i)
theorem cnt_eq (h : Cor zf es sl) : cntE es n now = cntS sl n now := by
  have := (h.filter (fun x => decide (x.n = n) && decide (now < x.u)) (fun x => decide (x.n = n) && decide (now < x.u)) fun e x s => by rw [s.n, s.u]).length
  unfold cntE cntS
  rw [this]
/-- serial numbers: none for what was asked, one for what is expected from any source -/
def Ser (k : Int) (sl : List SL) : Prop := ∀ x ∈ sl, (0 ≤ x.a2 ∧ x.r = 0) ∨ (x.a2 = -1 ∧ 1 ≤ x.r ∧ x.r ≤ k)
theorem Ser.tail {x : SL} (h : Ser k (x :: sl)) : Ser k sl := fun y hy => h y (.tail _ hy)
theorem match_key {e : ES} {x : SL} {t0 t1 t2 t3 t4 : Int} (s : Same9 zf e x) (hr : (0 ≤ x.a2 ∧ x.r = 0) ∨ (x.a2 = -1 ∧ 1 ≤ x.r ∧ x.r ≤ k)) (h2 : 0 ≤ t2) (hz : z = zf n) : e.matches n z t0 t1 t2 t3 t4 = decide (x.key = (n, [t0, t1, t2, t3, t4], 0)) := by
  by_cases c : x.key = (n, [t0, t1, t2, t3, t4], 0)
  · rw [decide_eq_true c]
    unfold SL.key at c
    simp only [Prod.mk.injEq, List.cons.injEq, and_true] at c
    obtain ⟨c0, ⟨c1, c2, c3, c4, c5⟩, c6⟩ := c
    unfold ES.matches
    rw [s.n, s.z, s.a0, s.a1, s.a2, s.a3, s.a4, c0, c1, c2, c3, c4, c5, hz]
    simp
  · rw [decide_eq_false c]
    unfold ES.matches
    rw [s.n, s.z, s.a0, s.a1, s.a2, s.a3, s.a4, hz]
    by_cases d : x.n = n ∧ x.a0 = t0 ∧ x.a1 = t1 ∧ x.a2 = t2 ∧ x.a3 = t3 ∧ x.a4 = t4
    · obtain ⟨d0, d1, d2, d3, d4, d5⟩ := d
      exfalso
      refine c ?_
      unfold SL.key
      rcases hr with ⟨_, r0⟩ | ⟨r0, _⟩
      · rw [d0, d1, d2, d3, d4, d5, r0]
      · omega
    · simp only [Bool.and_eq_false_iff, decide_eq_false_iff_not]
      by_cases d0 : x.n = n
      · by_cases d1 : x.a0 = t0
        · by_cases d2 : x.a1 = t1
          · by_cases d3 : x.a2 = t2
            · by_cases d4 : x.a3 = t3
              · by_cases d5 : x.a4 = t4
                · exact absurd ⟨d0, d1, d2, d3, d4, d5⟩ d
                · simp [d5]
              · simp [d4]
            · simp [d3]
          · simp [d2]
        · simp [d1]
      · simp [d0]
/-- no match: the new one goes behind -/
theorem put_none (h : Cor zf es sl) (hs : Ser k sl) {t0 t1 t2 t3 t4 : Int} (h2 : 0 ≤ t2) (hz : z = zf n) {y : SL} (hy : y.key = (n, [t0, t1, t2, t3, t4], 0)) (hf : es.findIdx? (fun x => x.matches n z t0 t1 t2 t3 t4) = none) : putS sl y = sl ++ [y] := by
  have : sl.any (fun x => decide (x.key = y.key)) = false := by
    rw [List.findIdx?_eq_none_iff] at hf
    rw [List.any_eq_false]
    intro x hx
    obtain ⟨j, hj⟩ := List.mem_iff_getElem?.mp hx
    have hl := h.length
    have hjl : j < sl.length := (List.getElem?_eq_some_iff.mp hj).1
    have he : es[j]? = some es[j] := List.getElem?_eq_getElem (by omega)
    have := hf es[j] (List.getElem_mem (by omega))
    rw [match_key (h.get j _ _ he hj) (hs x hx) h2 hz, ← hy] at this
    simpa using this
  unfold putS
  rw [this]; rfl
/-- a match at i: it alone gets the new end -/
theorem put_some (h : Cor zf es sl) (hs : Ser k sl) (nd : (sl.map SL.key).Nodup) {t0 t1 t2 t3 t4 : Int} (h2 : 0 ≤ t2) (hz : z = zf n) {y : SL} (hy : y.key = (n, [t0, t1, t2, t3, t4], 0)) {i : Nat} {e : ES} {x : SL}
    (hf : es.findIdx? (fun x => x.matches n z t0 t1 t2 t3 t4) = some i) (he : es[i]? = some e) (hx : sl[i]? = some x) : putS sl y = sl.set i { x with u := y.u, tu := y.tu } := by
  have hk : x.key = y.key := by
    obtain ⟨hi, h1, _⟩ := List.findIdx?_eq_some_iff_getElem.mp hf
    have h1 : e.matches n z t0 t1 t2 t3 t4 = true := by
      have : es[i] = e := by rw [List.getElem?_eq_getElem hi] at he; exact Option.some.inj he
      rw [← this]; exact h1
    rw [match_key (h.get i _ _ he hx) (hs x (List.mem_of_getElem? hx)) h2 hz, ← hy] at h1
    exact of_decide_eq_true h1
  unfold putS
  rw [if_pos (List.any_eq_true.mpr ⟨x, List.mem_of_getElem? hx, decide_eq_true hk⟩)]
  refine List.ext_getElem? fun j => ?_
  rw [List.getElem?_map, List.getElem?_set]
  by_cases c : i = j
  · subst c
    have hil : i < sl.length := (List.getElem?_eq_some_iff.mp hx).1
    rw [if_pos rfl, if_pos hil, hx]
    simp only [Option.map_some, if_pos hk]
  · rw [if_neg c]
    cases hj : sl[j]? with
    | none => rfl
    | some x' =>
      simp only [Option.map_some, Option.some.injEq]
      refine if_neg fun hk' => c ?_
      have h1 : (sl.map SL.key)[i]? = some y.key := by rw [List.getElem?_map, hx, ← hk]; rfl
      have h2 : (sl.map SL.key)[j]? = some y.key := by rw [List.getElem?_map, hj, ← hk']; rfl
      have hil : i < (sl.map SL.key).length := (List.getElem?_eq_some_iff.mp h1).1
      exact (List.getElem?_inj hil nd).mp (h1.trans h2.symm)
theorem dropS_erase (nd : (sl.map SL.key).Nodup) {i : Nat} {x : SL} (hx : sl[i]? = some x) : dropS sl x.key = sl.eraseIdx i := by
  induction sl generalizing i with
  | nil => simp at hx
  | cons y r ih =>
    rw [List.map_cons, List.nodup_cons] at nd
    cases i with
    | zero =>
      simp at hx
      subst hx
      unfold dropS
      rw [List.filter_cons, if_neg (by simp), List.eraseIdx_cons_zero, List.filter_eq_self]
      intro z hz
      exact decide_eq_true fun e => nd.1 (e ▸ List.mem_map.mpr ⟨z, hz, rfl⟩)
    | succ i =>
      have hx' : r[i]? = some x := by simpa using hx
      have hne : y.key ≠ x.key := fun e => nd.1 (e ▸ List.mem_map.mpr ⟨x, List.mem_of_getElem? hx', rfl⟩)
      have := ih nd.2 hx'
      unfold dropS at this ⊢
      rw [List.filter_cons, if_pos (decide_eq_true hne), List.eraseIdx_cons_succ, this]
theorem findIdx_filter {α : Type} (p : α → Bool) : ∀ (l : List α), (l.findIdx? p = none ∧ l.filter p = []) ∨ ∃ i x rest, l.findIdx? p = some i ∧ l[i]? = some x ∧ l.filter p = x :: rest
  | [] => .inl ⟨rfl, rfl⟩
  | a :: r => by
    by_cases c : p a = true
    · exact .inr ⟨0, a, r.filter p, by rw [List.findIdx?_cons, if_pos c], rfl, by rw [List.filter_cons, if_pos c]⟩
    · rcases findIdx_filter p r with ⟨h1, h2⟩ | ⟨i, x, rest, h1, h2, h3⟩
      · exact .inl ⟨by rw [List.findIdx?_cons, if_neg c, h1]; rfl, by rw [List.filter_cons, if_neg c, h2]⟩
      · exact .inr ⟨i + 1, x, rest, by rw [List.findIdx?_cons, if_neg c, h1]; rfl, by simpa using h2, by rw [List.filter_cons, if_neg c, h3]⟩
theorem Cor.find (h : Cor zf es sl) (p : ES → Bool) (q : SL → Bool) (hpq : ∀ e x, Same9 zf e x → p e = q x) : es.findIdx? p = sl.findIdx? q := by
  induction h with
  | nil => rfl
  | @cons e x es sl s _ ih => rw [List.findIdx?_cons, List.findIdx?_cons, hpq e x s, ih]
theorem fits_eq {zz b0 b1 b2 b4 b5 : Int} (e : ES) (x : SL) (s : Same9 zf e x) : e.fits now zz b0 b1 b2 b4 b5 = slotFits zf now zz b0 b1 b2 b4 b5 x := by
  unfold ES.fits slotFits fitsB
  rw [s.u, s.z, s.a0, s.a1, s.a2, s.a3, s.a4]
  rw [Bool.eq_iff_iff]
  simp only [Bool.and_eq_true, Bool.or_eq_true, decide_eq_true_eq, List.cons.injEq, and_true]
  constructor
  · rintro ⟨h1, ⟨⟨h2, h3⟩, h4⟩, h5, h6, h7⟩
    refine ⟨?_, h2, h1⟩
    rcases h5 with h5 | h5
    · exact .inr ⟨h3.symm, h4.symm, h5.symm, h6.symm, h7.symm⟩
    · exact .inl ⟨h3.symm, h4.symm, h5.symm, h6.symm, h7.symm⟩
  · rintro ⟨h, h2, h1⟩
    rcases h with ⟨h3, h4, h5, h6, h7⟩ | ⟨h3, h4, h5, h6, h7⟩
    · exact ⟨h1, ⟨⟨h2, h3.symm⟩, h4.symm⟩, .inr h5.symm, h6.symm, h7.symm⟩
    · exact ⟨h1, ⟨⟨h2, h3.symm⟩, h4.symm⟩, .inl h5.symm, h6.symm, h7.symm⟩
theorem bit_small : ∀ st : Fin 1024, (decide (¬ Builtin.bitAnd (st.val : Int) (Builtin.bitOr 8 512) = 0) = decide ((((st.val : Int).fdiv 8).fmod 2 = 1) ∨ 512 ≤ (st.val : Int))) := by decide +kernel
theorem bit_eq {st : Int} (h0 : 0 ≤ st) (h1 : st < 1024) : (¬ Builtin.bitAnd st (Builtin.bitOr 8 512) = 0) ↔ ((st.fdiv 8).fmod 2 = 1 ∨ 512 ≤ st) := by
  have := bit_small ⟨st.toNat, by omega⟩
  have e : ((⟨st.toNat, by omega⟩ : Fin 1024).val : Int) = st := by show (st.toNat : Int) = st; omega
  rw [e] at this
  exact decide_eq_decide.mp this
theorem or_small : ∀ st : Fin 1024, Builtin.bitOr (st.val : Int) 512 = (st.val : Int).fmod 512 + 512 ∧ Builtin.bitOr (st.val : Int) 8 = (st.val : Int) + (if ((st.val : Int).fdiv 8).fmod 2 = 0 then 8 else 0) ∧ (st.val : Int).fmod 512 + 512 < 1024 ∧ Builtin.bitOr (st.val : Int) 8 < 1024 ∧ 0 ≤ Builtin.bitOr (st.val : Int) 8 := by decide +kernel
theorem or_eq {st : Int} (h0 : 0 ≤ st) (h1 : st < 1024) : Builtin.bitOr st 512 = st.fmod 512 + 512 ∧ Builtin.bitOr st 8 = st + (if (st.fdiv 8).fmod 2 = 0 then 8 else 0) ∧ st.fmod 512 + 512 < 1024 ∧ Builtin.bitOr st 8 < 1024 ∧ 0 ≤ Builtin.bitOr st 8 := by
  have := or_small ⟨st.toNat, by omega⟩
  have e : ((⟨st.toNat, by omega⟩ : Fin 1024).val : Int) = st := by show (st.toNat : Int) = st; omega
  rw [e] at this
  exact this
end
/-! M27 -/
/-- one object at each address -/
def FnL (news : Led) : Prop := ∀ (a : Addr) (o o' : Obj), (a, o) ∈ news → (a, o') ∈ news → o = o'
theorem FnL.of {h₀ h : Heap} {L : Addr} {news : Led} (N : News h₀ L h news) : FnL news := fun _ _ _ h1 h2 => led_fn N h1 h2
theorem fn_ne {news : Led} (N : FnL news) {a b : Addr} {o o' : Obj} (h1 : (a, o) ∈ news) (h2 : (b, o') ∈ news) (h : o.cls ≠ o'.cls) : a ≠ b := fun e => h (by subst e; rw [N _ _ _ h1 h2])
theorem FnL.tail {x : Addr × Obj} {news : Led} (N : FnL (x :: news)) : FnL news := fun a o o' h1 h2 => N a o o' (.tail _ h1) (.tail _ h2)
theorem FnL.sub {l l' : Led} (N : FnL l) (h : ∀ p ∈ l', p ∈ l) : FnL l' := fun a o o' h1 h2 => N a o o' (h _ h1) (h _ h2)
set_option genInjectivity false in
set_option genSizeOf false in
/-- what stays as it is -/
structure SF where
  W : Addr
  TK : Addr
  NM : Addr
  SD : Addr
  MD : Addr
  OD : Addr
  oW : Obj
  oTK : Obj
  oNM : Obj
  oMD : Obj
  oO : Obj
  b : BL
  y : Int → TL
  nml : List (Str × Value)
  ol : List OL
  z : OL
set_option genInjectivity false in
set_option genSizeOf false in
/-- a talk's moving parts -/
structure TD where
  st : Int
  oT : Obj
  ts : Tok
  us : Tok
set_option genInjectivity false in
set_option genSizeOf false in
/-- what moves -/
structure DY where
  d : Int → TD
  EL : Addr
  ep : Nat
  es : List ES
  sl : List SL
  oS : Obj
abbrev SF.x (F : SF) (σ : DY) (n : Int) : TL := { F.y n with st := (σ.d n).st, oT := (σ.d n).oT, ts := (σ.d n).ts, us := (σ.d n).us }
abbrev SF.bk (F : SF) (σ : DY) : BL := { F.b with EL := σ.EL, ep := σ.ep }
abbrev N3 : List Int := [4, 9, 7]
abbrev SF.tkl (F : SF) : List (Int × Value) := N3.map fun n => (n, Value.ref (F.y n).T)
abbrev SF.mdl (F : SF) : List (Int × Value) := N3.map fun n => (n, Value.ref (F.y n).M)
abbrev SF.zf (F : SF) (n : Int) : Int := (F.y n).z
structure Stat (w : World) (fx : Led) (F : SF) : Prop where
  hW : (F.W, F.oW) ∈ fx
  dW : F.oW.IsDictOf (sKind w) [(Str.ofString "talks", .ref F.TK), (Str.ofString "names", .ref F.NM), (Str.ofString "slots", .ref F.SD)]
  hTK : (F.TK, F.oTK) ∈ fx
  dTK : F.oTK.IsDictOf (intKind Challenge.rw_pf0335_01.row.prog w) F.tkl
  lTK : (F.TK == sysModules) = false
  hNM : (F.NM, F.oNM) ∈ fx
  dNM : F.oNM.IsDictOf (sKind w) F.nml
  lNM : (F.NM == sysModules) = false
  hMD : (F.MD, F.oMD) ∈ fx
  dMD : F.oMD.IsDictOf (intKind Challenge.rw_pf0335_01.row.prog w) F.mdl
  lMD : (F.MD == sysModules) = false
  hOD : (F.OD, F.oO) ∈ fx
  lOD : (F.OD == sysModules) = false
  hO : Objs w F.oO (F.ol ++ [F.z])
  hoat : ∀ x ∈ F.ol ++ [F.z], x.At fx
  hom : OMade fx F.nml F.ol
  zk : F.z.key = [Str.ofString "limit", Str.ofString "irc"]
  zv : IsCnt fx 6667 9000 F.z.v
  lSD : (F.SD == sysModules) = false
  hB : (F.b.B, instObj 53 F.b.dB) ∈ fx
  htb : ∃ n, (F.b.tb, dictOf [] n) ∈ fx
  htk : ∃ n, (F.b.tk, dictOf [] n) ∈ fx
  hfl : ∃ n, (F.b.fl, dictOf [] n) ∈ fx
  ltb : (F.b.tb == sysModules) = false
  ltk : (F.b.tk == sysModules) = false
  lfl : (F.b.fl == sysModules) = false
  tn : ∀ n ∈ N3, (F.y n).n = n
  tE : ∀ n ∈ N3, ((F.y n).Ed, tupO [.ref (F.y n).Th, .ref (F.y n).Ba]) ∈ fx
  tT : ∀ n ∈ N3, ((F.y n).Th, (F.y n).tho) ∈ fx
  tB : ∀ n ∈ N3, ((F.y n).Ba, (F.y n).bao) ∈ fx
  tM : ∀ n ∈ N3, ((F.y n).M, instObj 31 (F.y n).dM) ∈ fx
  tl : ∀ n ∈ N3, ((F.y n).T == sysModules) = false
  p2 : ∀ n ∈ N3, 0 ≤ (F.y n).h2
  q2 : ∀ n ∈ N3, 0 ≤ (F.y n).b2
  sp : ∀ nm v, valueAt F.nml nm = some v → Tup5 v fx
  nn : F.nml.map (·.1) = [Str.ofString "sip", Str.ofString "ftp", Str.ofString "pptp"]
  fxl : ∀ p ∈ fx, p.2.cls ≠ .type "list"
abbrev mu (F : SF) (es : List ES) : List Addr := [F.SD, F.b.dB, (F.y 4).T, (F.y 9).T, (F.y 7).T, (F.y 4).dM, (F.y 9).dM, (F.y 7).dM] ++ es.map ES.de
structure Mid (w : World) (fx news : Led) (F : SF) (σ : DY) (k : Int) : Prop where
  fxs : ∀ p ∈ fx, p ∈ news
  off : ∀ p ∈ fx, p.1 ∉ mu F σ.es
  nd : (mu F σ.es).Nodup
  hT : ∀ n ∈ N3, ((F.y n).T, (σ.d n).oT) ∈ news
  dT : ∀ n ∈ N3, (σ.d n).oT.IsDictOf (sKind w) [(Str.ofString "zone", .int (F.y n).z (F.y n).uz), (Str.ofString "status", .int (σ.d n).st (σ.d n).us), (Str.ofString "ends", .ref (F.y n).Ed)]
  hdM : ∀ n ∈ N3, ((F.y n).dM, (F.x σ n).mob w) ∈ news
  st : ∀ n ∈ N3, 0 ≤ (σ.d n).st ∧ (σ.d n).st < 1024
  hdB : (F.b.dB, (F.bk σ).obj w) ∈ news
  hEL : (σ.EL, PySem.W.listOf (refs σ.es).toArray σ.ep) ∈ news
  hes : ∀ e ∈ σ.es, e.At w news
  hSD : (F.SD, σ.oS) ∈ news
  hS : Slots w σ.oS σ.sl
  hat : ∀ x ∈ σ.sl, x.At news
  num : ∀ x ∈ σ.sl, x.n ∈ N3
  ser : Ser k σ.sl
  len : (σ.sl.length : Int) ≤ k
structure Dyn (w : World) (fx news : Led) (F : SF) (σ : DY) (k : Int) : Prop extends Mid w fx news F σ k where
  cor : Cor F.zf σ.es σ.sl
section
variable {w : World} {fx news news' : Led} {F : SF} {σ : DY} {k : Int} {C : List Addr}
theorem Stat.vT (S : Stat w fx F) {n : Int} (hn : n ∈ N3) : valueAt F.tkl n = some (.ref (F.y n).T) := by
  rcases List.mem_cons.mp hn with rfl | hn
  · rfl
  rcases List.mem_cons.mp hn with rfl | hn
  · rfl
  · obtain rfl := List.mem_singleton.mp hn; rfl
theorem Stat.vM (S : Stat w fx F) {n : Int} (hn : n ∈ N3) : valueAt F.mdl n = some (.ref (F.y n).M) := by
  rcases List.mem_cons.mp hn with rfl | hn
  · rfl
  rcases List.mem_cons.mp hn with rfl | hn
  · rfl
  · obtain rfl := List.mem_singleton.mp hn; rfl
theorem Mid.tl (D : Mid w fx news F σ k) (S : Stat w fx F) {n : Int} (hn : n ∈ N3) : (F.x σ n).At w news :=
  ⟨D.hT n hn, D.dT n hn, D.fxs _ (S.tE n hn), D.fxs _ (S.tT n hn), D.fxs _ (S.tB n hn), D.fxs _ (S.tM n hn), D.hdM n hn, S.tl n hn, (D.st n hn).1, (D.st n hn).2, S.p2 n hn, S.q2 n hn⟩
theorem Mid.bk (D : Mid w fx news F σ k) (S : Stat w fx F) : (F.bk σ).At w news :=
  ⟨D.fxs _ S.hB, D.hdB, S.htb.imp fun _ h => D.fxs _ h, S.htk.imp fun _ h => D.fxs _ h, S.hfl.imp fun _ h => D.fxs _ h, S.ltb, S.ltk, S.lfl⟩
theorem Mid.mono (D : Mid w fx news F σ k) {k' : Int} (hk : k ≤ k') (sub : ∀ p ∈ news, p ∈ news') : Mid w fx news' F σ k' where
  fxs := fun p hp => sub p (D.fxs p hp)
  off := D.off
  nd := D.nd
  hT := fun n hn => sub _ (D.hT n hn)
  dT := D.dT
  hdM := fun n hn => sub _ (D.hdM n hn)
  st := D.st
  hdB := sub _ D.hdB
  hEL := sub _ D.hEL
  hes := fun e he => (D.hes e he).mono sub
  hSD := sub _ D.hSD
  hS := D.hS
  hat := fun x hx => (D.hat x hx).mono sub
  num := D.num
  ser := fun x hx => by rcases D.ser x hx with h | ⟨h1, h2, h3⟩; exact .inl h; exact .inr ⟨h1, h2, by omega⟩
  len := by have := D.len; omega
theorem Dyn.mono (D : Dyn w fx news F σ k) {k' : Int} (hk : k ≤ k') (sub : ∀ p ∈ news, p ∈ news') : Dyn w fx news' F σ k' := ⟨D.toMid.mono hk sub, D.cor⟩
theorem Mid.mu_dict (D : Mid w fx news F σ k) : ∀ a ∈ mu F σ.es, ∃ o, (a, o) ∈ news ∧ o.cls = .type "dict" := by
  intro a ha
  rcases List.mem_append.mp ha with ha | ha
  · simp only [List.mem_cons, List.not_mem_nil, or_false] at ha
    rcases ha with rfl | rfl | rfl | rfl | rfl | rfl | rfl | rfl
    · exact ⟨_, D.hSD, D.hS.ex.1⟩
    · exact ⟨_, D.hdB, rfl⟩
    · exact ⟨_, D.hT 4 (by decide), (D.dT 4 (by decide)).choose_spec.choose_spec.1.1⟩
    · exact ⟨_, D.hT 9 (by decide), (D.dT 9 (by decide)).choose_spec.choose_spec.1.1⟩
    · exact ⟨_, D.hT 7 (by decide), (D.dT 7 (by decide)).choose_spec.choose_spec.1.1⟩
    · exact ⟨_, D.hdM 4 (by decide), rfl⟩
    · exact ⟨_, D.hdM 9 (by decide), rfl⟩
    · exact ⟨_, D.hdM 7 (by decide), rfl⟩
  · obtain ⟨e, he, rfl⟩ := List.mem_map.mp ha
    exact ⟨_, (D.hes e he).dict, rfl⟩
/-- what is kept when only C moves -/
abbrev Keep (C : List Addr) (news news' : Led) : Prop := ∀ p ∈ news, p.1 ∉ C → p ∈ news'
theorem Mid.EL_mu (D : Mid w fx news F σ k) (N : FnL news) : σ.EL ∉ mu F σ.es := fun hm => by
  obtain ⟨o, h1, h2⟩ := D.mu_dict _ hm
  exact fn_ne N D.hEL h1 (by rw [h2]; exact fun e => absurd (show Value.type "list" = Value.type "dict" from e) (by decide)) rfl
theorem Mid.plain (D : Mid w fx news F σ k) (N : FnL news) {p : Addr × Obj} (hp : p ∈ news) (h1 : p.2.cls ≠ .type "dict") (h2 : p.2.cls ≠ .type "list") : p.1 ∉ σ.EL :: mu F σ.es := fun hm => by
  rcases List.mem_cons.mp hm with e | hm
  · exact fn_ne N hp D.hEL h2 e
  · obtain ⟨o, h3, h4⟩ := D.mu_dict _ hm
    exact fn_ne N hp h3 (by rw [h4]; exact h1) rfl
theorem Mid.fxk (D : Mid w fx news F σ k) (S : Stat w fx F) (N : FnL news) (hC : ∀ a ∈ C, a ∈ σ.EL :: mu F σ.es) (K : Keep C news news') : ∀ p ∈ fx, p ∈ news' := fun p hp => K p (D.fxs p hp) fun hm => by
  rcases List.mem_cons.mp (hC _ hm) with e | hm
  · exact fn_ne N (D.fxs p hp) D.hEL (S.fxl p hp) e
  · exact D.off p hp hm
theorem Mid.tupk (D : Mid w fx news F σ k) (N : FnL news) (hC : ∀ a ∈ C, a ∈ σ.EL :: mu F σ.es) (K : Keep C news news') : ∀ p ∈ news, p.2.cls = .type "tuple" → p ∈ news' := fun p hp hc => K p hp fun hm =>
  D.plain N hp (by rw [hc]; decide) (by rw [hc]; decide) (hC _ hm)
theorem Mid.instk (D : Mid w fx news F σ k) (N : FnL news) (hC : ∀ a ∈ C, a ∈ σ.EL :: mu F σ.es) (K : Keep C news news') {a c dx : Addr} (hp : (a, instObj c dx) ∈ news) : (a, instObj c dx) ∈ news' := K _ hp fun hm =>
  D.plain N hp (fun e => Value.noConfusion e) (fun e => Value.noConfusion e) (hC _ hm)
theorem Mid.esk (D : Mid w fx news F σ k) (N : FnL news) (hC : ∀ a ∈ C, a ∈ σ.EL :: mu F σ.es) (K : Keep C news news') {e : ES} (he : e ∈ σ.es) (hd : e.de ∉ C) : e.At w news' :=
  ⟨D.instk N hC K (D.hes e he).inst, K _ (D.hes e he).dict hd, D.tupk N hC K _ (D.hes e he).tup rfl⟩
theorem Mid.slk (D : Mid w fx news F σ k) (N : FnL news) (hC : ∀ a ∈ C, a ∈ σ.EL :: mu F σ.es) (K : Keep C news news') {x : SL} (hx : x ∈ σ.sl) : x.At news' :=
  ⟨D.tupk N hC K _ (D.hat x hx).hk rfl, D.tupk N hC K _ (D.hat x hx).hb rfl⟩
/-! the addresses that move are apart -/
theorem mu_nd (nd : (mu F σ.es).Nodup) : [F.SD, F.b.dB, (F.y 4).T, (F.y 9).T, (F.y 7).T, (F.y 4).dM, (F.y 9).dM, (F.y 7).dM].Nodup ∧ (σ.es.map ES.de).Nodup ∧ ∀ a ∈ [F.SD, F.b.dB, (F.y 4).T, (F.y 9).T, (F.y 7).T, (F.y 4).dM, (F.y 9).dM, (F.y 7).dM], ∀ b ∈ σ.es.map ES.de, a ≠ b := List.nodup_append.mp nd
theorem Dyn.Tm {n : Int} (hn : n ∈ N3) : (F.y n).T ∈ [F.SD, F.b.dB, (F.y 4).T, (F.y 9).T, (F.y 7).T, (F.y 4).dM, (F.y 9).dM, (F.y 7).dM] := by
  simp only [N3, List.mem_cons, List.not_mem_nil, or_false] at hn
  rcases hn with rfl | rfl | rfl <;> simp
theorem Dyn.dMm {n : Int} (hn : n ∈ N3) : (F.y n).dM ∈ [F.SD, F.b.dB, (F.y 4).T, (F.y 9).T, (F.y 7).T, (F.y 4).dM, (F.y 9).dM, (F.y 7).dM] := by
  simp only [N3, List.mem_cons, List.not_mem_nil, or_false] at hn
  rcases hn with rfl | rfl | rfl <;> simp
theorem Mid.SDT (D : Mid w fx news F σ k) {n : Int} (hn : n ∈ N3) : (F.y n).T ≠ F.SD := by
  have := (mu_nd D.nd).1
  simp only [List.nodup_cons, List.mem_cons, List.not_mem_nil, or_false, not_or] at this
  simp only [N3, List.mem_cons, List.not_mem_nil, or_false] at hn
  rcases hn with rfl | rfl | rfl
  · exact fun e => this.1.2.1 e.symm
  · exact fun e => this.1.2.2.1 e.symm
  · exact fun e => this.1.2.2.2.1 e.symm
theorem Mid.SDdM (D : Mid w fx news F σ k) {n : Int} (hn : n ∈ N3) : (F.y n).dM ≠ F.SD := by
  have := (mu_nd D.nd).1
  simp only [List.nodup_cons, List.mem_cons, List.not_mem_nil, or_false, not_or] at this
  simp only [N3, List.mem_cons, List.not_mem_nil, or_false] at hn
  rcases hn with rfl | rfl | rfl
  · exact fun e => this.1.2.2.2.2.1 e.symm
  · exact fun e => this.1.2.2.2.2.2.1 e.symm
  · exact fun e => this.1.2.2.2.2.2.2 e.symm
theorem Mid.SDdB (D : Mid w fx news F σ k) : F.b.dB ≠ F.SD := by
  have := (mu_nd D.nd).1
  simp only [List.nodup_cons, List.mem_cons, List.not_mem_nil, or_false, not_or] at this
  exact fun e => this.1.1 e.symm
theorem Mid.dBT (D : Mid w fx news F σ k) {n : Int} (hn : n ∈ N3) : (F.y n).T ≠ F.b.dB := by
  have := (mu_nd D.nd).1
  simp only [List.nodup_cons, List.mem_cons, List.not_mem_nil, or_false, not_or] at this
  simp only [N3, List.mem_cons, List.not_mem_nil, or_false] at hn
  rcases hn with rfl | rfl | rfl
  · exact fun e => this.2.1.1 e.symm
  · exact fun e => this.2.1.2.1 e.symm
  · exact fun e => this.2.1.2.2.1 e.symm
theorem Mid.dBdM (D : Mid w fx news F σ k) {n : Int} (hn : n ∈ N3) : (F.y n).dM ≠ F.b.dB := by
  have := (mu_nd D.nd).1
  simp only [List.nodup_cons, List.mem_cons, List.not_mem_nil, or_false, not_or] at this
  simp only [N3, List.mem_cons, List.not_mem_nil, or_false] at hn
  rcases hn with rfl | rfl | rfl
  · exact fun e => this.2.1.2.2.2.1 e.symm
  · exact fun e => this.2.1.2.2.2.2.1 e.symm
  · exact fun e => this.2.1.2.2.2.2.2 e.symm
theorem Mid.TdM (D : Mid w fx news F σ k) {n n' : Int} (hn : n ∈ N3) (hn' : n' ∈ N3) : (F.y n).T ≠ (F.y n').dM := by
  have := (mu_nd D.nd).1
  simp only [List.nodup_cons, List.mem_cons, List.not_mem_nil, or_false, not_or] at this
  simp only [N3, List.mem_cons, List.not_mem_nil, or_false] at hn hn'
  obtain ⟨-, -, ⟨-, -, a1, a2, a3⟩, ⟨-, b1, b2, b3⟩, ⟨c1, c2, c3⟩, -⟩ := this
  rcases hn with rfl | rfl | rfl <;> rcases hn' with rfl | rfl | rfl <;> assumption
theorem Mid.TT (D : Mid w fx news F σ k) {n n' : Int} (hn : n ∈ N3) (hn' : n' ∈ N3) (hne : n ≠ n') : (F.y n).T ≠ (F.y n').T := by
  have := (mu_nd D.nd).1
  simp only [List.nodup_cons, List.mem_cons, List.not_mem_nil, or_false, not_or] at this
  simp only [N3, List.mem_cons, List.not_mem_nil, or_false] at hn hn'
  obtain ⟨-, -, ⟨a0, a4, a1, a2, a3⟩, ⟨b0, b1, b2, b3⟩, -⟩ := this
  rcases hn with rfl | rfl | rfl <;> rcases hn' with rfl | rfl | rfl <;> first | exact absurd rfl hne | assumption | (apply Ne.symm; assumption)
theorem Mid.dMdM (D : Mid w fx news F σ k) {n n' : Int} (hn : n ∈ N3) (hn' : n' ∈ N3) (hne : n ≠ n') : (F.y n).dM ≠ (F.y n').dM := by
  have := (mu_nd D.nd).1
  simp only [List.nodup_cons, List.mem_cons, List.not_mem_nil, or_false, not_or] at this
  simp only [N3, List.mem_cons, List.not_mem_nil, or_false] at hn hn'
  obtain ⟨-, -, -, -, -, ⟨a1, a2⟩, b1, -⟩ := this
  rcases hn with rfl | rfl | rfl <;> rcases hn' with rfl | rfl | rfl <;> first | exact absurd rfl hne | assumption | (apply Ne.symm; assumption)
theorem Mid.de_ne (D : Mid w fx news F σ k) {e : ES} (he : e ∈ σ.es) {a : Addr} (ha : a ∈ [F.SD, F.b.dB, (F.y 4).T, (F.y 9).T, (F.y 7).T, (F.y 4).dM, (F.y 9).dM, (F.y 7).dM]) : e.de ≠ a := Ne.symm ((mu_nd D.nd).2.2 a ha e.de (List.mem_map.mpr ⟨e, he, rfl⟩))
theorem Mid.hz (D : Mid w fx news F σ k) (S : Stat w fx F) : ∀ x ∈ σ.sl, ZoneOf w F.tkl news x.n (F.zf x.n) :=
  fun x hx => ⟨_, _, _, _, _, _, S.vT (D.num x hx), D.hT _ (D.num x hx), D.dT _ (D.num x hx)⟩
end
/-! M28 -/
theorem mu_erase {F : SF} {es : List ES} {i : Nat} (nd : (mu F es).Nodup) : (mu F (es.eraseIdx i)).Nodup ∧ ∀ a, a ∈ mu F (es.eraseIdx i) → a ∈ mu F es := by
  have sub : (es.eraseIdx i).Sublist es := List.eraseIdx_sublist _ _
  refine ⟨nd.sublist ((List.Sublist.refl _).append (sub.map _)), fun a ha => ?_⟩
  exact ((List.Sublist.refl _).append (sub.map ES.de)).subset ha
theorem took_spec {w mean mg mb base} {fx news : Led} {F : SF} {σ : DY} {k rest now : Int} {trest tnow : Tok} (S : Stat w fx F) (D : Dyn w fx news F σ k) (hk100 : k ≤ 500) (h0 : 0 ≤ rest) :
    Spec 12 w mean mg mb base 213 [.ref F.W, .ref F.b.B, .int rest trest, .int now tnow] news (fun v news' => v = .bool true ∧ ∃ σ', Dyn w fx news' F σ' (k + 1)) := by
  intro dp un gd cn cs a9 ccd cl outer A₀ h₀ L m h8 g8 d8 T8 os8 Q E B9 F9 X N T hk hd hu hret
  have hlen := D.len
  have hcl := D.cor.length
  refine wpAny_call ?_
  k_dflt cell_enter
  refine @shut _ _ _ h₀ L m _ _ _ _ _ _ _ _ _ _ _ _ _ _ _ _ _ _ Q _ _ _ _ hret hd hu (by assumption) (fun _ _ h => h) (fun _ _ h => h) fun dp un gd outer A₀ tkS Q E Bw hd hu hret hnext => ?_
  have hG : GDO g8 d8 os8 := trivial
  (repeat' (first | ((with_reducible show wpAny _ _ (compareOp CmpOp.Eq (Value.ref _) (Value.ref _)) _ _ _); refine stop ?_) | ((fail_if_success (with_reducible refine Stop.go ?_)); (first | (k_unfold; (try dsimp only)) | (k_end; wrow_close) | walk1 | (dsimp only; walk1) | (leave1; walk_say "STEP leave1"; try dsimp only) | fail "no step"))))
  refine Stop.go ?_
  (try k_fold)
  k_dflt refine (Spec.use (by k_asm) (by k_asm) (by k_asm) (by k_asm) (by k_asm) (by first | exact rfl | assumption) (aim_spec (D.fxs _ S.hW) S.dW (D.fxs _ S.hTK) S.dTK (S.vT (n := 4) (by decide)) (D.hT 4 (by decide)) (D.dT 4 (by decide)) (D.fxs _ (S.tE 4 (by decide))) (D.fxs _ (S.tB 4 (by decide))) (D.hz S) D.hSD S.lSD D.hS D.hat (by omega) h0) (by ktr_room) (by ktr_units) ?_)
  k_dflt (intro v9 h9 tk9 news9 p9 F8 N8)
  obtain ⟨r, q, zz, tz, c0, c1, c2, c3, c4, c5, r0, r1, r2, r3, r4, r5, rfl, hr, hq, sub⟩ := p9
  (try dsimp only at F8 N8 ⊢)
  (try k_fold)
  have D1 := D.mono (Int.le_refl k) sub
  clear D
  have N9 := FnL.of N8
  (repeat' (first | ((with_reducible show wpAny _ _ (compareOp CmpOp.Eq (Value.ref _) (Value.ref _)) _ _ _); refine stop ?_) | ((fail_if_success (with_reducible refine Stop.go ?_)); (first | (k_unfold; (try dsimp only)) | (k_end; wrow_close) | walk1 | (dsimp only; walk1) | (leave1; walk_say "STEP leave1"; try dsimp only) | fail "no step"))))
  refine Stop.go ?_
  (try k_fold)
  k_dflt refine (Spec.use (by k_asm) (by k_asm) (by k_asm) (by k_asm) (by k_asm) (by first | exact rfl | assumption) (take_spec (D1.fxs _ S.hB) D1.hdB D1.hEL D1.hes (by omega) hq) (by ktr_room) (by ktr_units) ?_)
  k_dflt (intro v9 h9 tk9 news8 p9 F8 N8)
  (try dsimp only at F8 N8 ⊢)
  (try k_fold)
  rcases p9 with ⟨hno, rfl, rfl⟩ | ⟨i, x, hsome, hx, rfl, e2⟩
  · (repeat' (first | ((with_reducible show wpAny _ _ (compareOp CmpOp.Eq (Value.ref _) (Value.ref _)) _ _ _); refine stop ?_) | ((fail_if_success (with_reducible refine Stop.go ?_)); (first | (k_unfold; (try dsimp only)) | (k_end; wrow_close) | walk1 | (dsimp only; walk1) | (leave1; walk_say "STEP leave1"; try dsimp only) | fail "no step"))))
    refine Stop.go ?_
    (try k_fold)
    k_dflt refine (Spec.use (by k_asm) (by k_asm) (by k_asm) (by k_asm) (by k_asm) (by first | exact rfl | assumption) (law_take_spec (D1.fxs _ S.hW) S.dW (D1.fxs _ S.hTK) S.dTK S.lTK (D1.hz S) D1.hSD S.lSD D1.hS D1.hat (by omega) hq) (by ktr_room) (by ktr_units) ?_)
    k_dflt (intro v9 h9 tk9 news7 p9 F8 N8)
    (try dsimp only at F8 N8 ⊢)
    (try k_fold)
    rw [D1.cor.find _ (slotFits F.zf now zz c0 c1 c2 c4 c5) (fun e x s => fits_eq e x s)] at hno
    rcases p9 with ⟨hf, rfl, sub2⟩ | ⟨x', rest', r', tz', oS', hf, rfl, hr', hSD', hS', keep⟩
    · (repeat' (first | ((with_reducible show wpAny _ _ (compareOp CmpOp.Eq (Value.ref _) (Value.ref _)) _ _ _); refine stop ?_) | ((fail_if_success (with_reducible refine Stop.go ?_)); (first | (k_unfold; (try dsimp only)) | (k_end; wrow_close) | walk1 | (dsimp only; walk1) | (leave1; walk_say "STEP leave1"; try dsimp only) | fail "no step"))))
      k_dflt refine hret _ _ _ _ ⟨rfl, _, D1.mono (by omega) sub2⟩ (by k_asm) (by k_asm)
    · exfalso
      rcases findIdx_filter (slotFits F.zf now zz c0 c1 c2 c4 c5) σ.sl with ⟨_, h2⟩ | ⟨_, _, _, h1, _⟩
      · rw [hf] at h2; cases h2
      · rw [hno] at h1; cases h1
  · have hC : ∀ a ∈ [σ.EL], a ∈ σ.EL :: mu F σ.es := fun a ha => by obtain rfl := List.mem_singleton.mp ha; exact .head _
    have K1 : Keep [σ.EL] news9 news8 := fun p hp hh => mem_sets e2 hp (by simpa using hh)
    have hEL' := mem_sets_self e2 D1.hEL
    have hxm : x ∈ σ.es := List.mem_of_getElem? hx
    have elmu := D1.EL_mu N9
    have xat : x.At w news8 := D1.esk N9 hC K1 hxm (by
      simp only [List.mem_singleton]; rintro h
      exact elmu (h ▸ List.mem_append_right _ (List.mem_map.mpr ⟨x, hxm, rfl⟩)))
    have hinst := xat.inst
    have hdict := xat.dict
    have htup := xat.tup
    have fx1 := D1.fxk S N9 hC K1
    have hSD1 : (F.SD, σ.oS) ∈ news8 := K1 _ D1.hSD (by simp only [List.mem_singleton]; intro h; exact elmu (h ▸ .head _))
    have hat1 : ∀ x ∈ σ.sl, x.At news8 := fun x hx => D1.slk N9 hC K1 hx
    have hT1 : ∀ n ∈ N3, ((F.y n).T, (σ.d n).oT) ∈ news8 := fun n hn => K1 _ (D1.hT n hn) (by
      simp only [List.mem_singleton]; intro h
      exact elmu (h ▸ List.mem_append_left _ (Dyn.Tm hn)))
    have hM1 : ∀ n ∈ N3, ((F.y n).dM, (F.x σ n).mob w) ∈ news8 := fun n hn => K1 _ (D1.hdM n hn) (by
      simp only [List.mem_singleton]; intro h
      exact elmu (h ▸ List.mem_append_left _ (Dyn.dMm hn)))
    have hB1 : (F.b.dB, BL.obj w { F.b with EL := σ.EL, ep := σ.ep }) ∈ news8 := K1 _ D1.hdB (by simp only [List.mem_singleton]; intro h; exact elmu (h ▸ .tail _ (.head _)))
    have hes1 : ∀ e ∈ σ.es, e.At w news8 := fun e he => D1.esk N9 hC K1 he (by
      simp only [List.mem_singleton]; rintro h
      exact elmu (h ▸ List.mem_append_right _ (List.mem_map.mpr ⟨e, he, rfl⟩)))
    have hq1 := D1.tupk N9 hC K1 _ hq rfl
    clear e2
    (repeat' (first | ((with_reducible show wpAny _ _ (compareOp CmpOp.Eq (Value.ref _) (Value.ref _)) _ _ _); refine stop ?_) | ((fail_if_success (with_reducible refine Stop.go ?_)); (first | (k_unfold; (try dsimp only)) | (k_end; wrow_close) | walk1 | (dsimp only; walk1) | (leave1; walk_say "STEP leave1"; try dsimp only) | fail "no step"))))
    (rename News _ _ _ _ => N7)
    obtain ⟨t0, e0⟩ := head_of N7
    subst e0
    have N10 := FnL.of N7
    have t0S : t0 ≠ F.SD := fn_ne N10 (.head _) (.tail _ hSD1) (by rw [D1.hS.ex.1]; exact tup_ne_dict)
    refine Stop.go ?_
    (try k_fold)
    k_dflt refine (Spec.use (by k_asm) (by k_asm) (by k_asm) (by k_asm) (by k_asm) (by first | exact rfl | assumption) (law_take_spec (zf := F.zf) (.tail _ (fx1 _ S.hW)) S.dW (.tail _ (fx1 _ S.hTK)) S.dTK S.lTK (fun x hx => ⟨_, _, _, _, _, _, S.vT (D1.num x hx), .tail _ (hT1 _ (D1.num x hx)), D1.dT _ (D1.num x hx)⟩) (.tail _ hSD1) S.lSD D1.hS (fun x hx => (hat1 x hx).mono fun p hp => .tail _ hp) (by omega) (.tail _ hq1)) (by ktr_room) (by ktr_units) ?_)
    k_dflt (intro v9 h9 tk9 news7 p9 F8 N8)
    (try dsimp only at F8 N8 ⊢)
    (try k_fold)
    rw [D1.cor.find _ (slotFits F.zf now zz c0 c1 c2 c4 c5) (fun e x s => fits_eq e x s)] at hsome
    rcases p9 with ⟨hf, rfl, sub2⟩ | ⟨x', rest', r', tz', oS', hf, rfl, hr', hSD', hS', keep⟩
    · exfalso
      rcases findIdx_filter (slotFits F.zf now zz c0 c1 c2 c4 c5) σ.sl with ⟨h1, _⟩ | ⟨_, _, _, _, _, h2⟩
      · rw [hsome] at h1; cases h1
      · rw [hf] at h2; cases h2
    · have hx' : σ.sl[i]? = some x' := by
        rcases findIdx_filter (slotFits F.zf now zz c0 c1 c2 c4 c5) σ.sl with ⟨h1, _⟩ | ⟨i', x'', rest'', h1, h2, h3⟩
        · rw [hsome] at h1; cases h1
        · rw [hsome] at h1; cases h1
          rw [hf] at h3; cases h3
          exact h2
      have hxm' : x' ∈ σ.sl := List.mem_of_getElem? hx'
      have s9 := D1.cor.get i x x' hx hx'
      have hfit : slotFits F.zf now zz c0 c1 c2 c4 c5 x' = true := (List.mem_filter.mp (hf ▸ List.mem_cons_self : x' ∈ σ.sl.filter (slotFits F.zf now zz c0 c1 c2 c4 c5))).2
      have hzz : F.zf x'.n = zz := by
        unfold slotFits at hfit
        simp only [Bool.and_eq_true, decide_eq_true_eq] at hfit
        exact hfit.2.1
      have ht0 := keep _ (.head _) t0S
      rw [s9.n, s9.z, s9.u, hzz] at ht0
      have htup2 := keep _ (.tail _ htup) (fn_ne N10 (.tail _ htup) (.tail _ hSD1) (by rw [D1.hS.ex.1]; exact tup_ne_dict))
      have hb2 := keep _ (.tail _ (hat1 x' hxm').hb) (fn_ne N10 (.tail _ (hat1 x' hxm').hb) (.tail _ hSD1) (by rw [D1.hS.ex.1]; exact tup_ne_dict))
      rw [show x.tup = tupO [.int x'.a0 x.s0, .int x'.a1 x.s1, .int x'.a2 x.s2, .int x'.a3 x.s3, .int x'.a4 x.s4] by unfold ES.tup; rw [s9.a0, s9.a1, s9.a2, s9.a3, s9.a4]] at htup2
      have hC2 : ∀ a ∈ [σ.EL, F.SD], a ∈ σ.EL :: mu F σ.es := fun a ha => by
        simp only [List.mem_cons, List.not_mem_nil, or_false] at ha
        rcases ha with rfl | rfl
        · exact .head _
        · exact .tail _ (.head _)
      have K2 : Keep [σ.EL, F.SD] news9 news7 := fun p hp hh => by
        simp only [List.mem_cons, List.not_mem_nil, or_false, not_or] at hh
        exact keep p (.tail _ (K1 p hp (by simpa using hh.1))) hh.2
      have notC : ∀ a ∈ mu F σ.es, a ≠ F.SD → a ∉ [σ.EL, F.SD] := fun a ha hne hm => by
        simp only [List.mem_cons, List.not_mem_nil, or_false] at hm
        rcases hm with rfl | rfl
        · exact elmu ha
        · exact hne rfl
      have elSD : σ.EL ≠ F.SD := fun e => elmu (e ▸ .head _)
      have hEL2 := keep _ (.tail _ hEL') elSD
      have D2 : Dyn w fx news7 F { σ with ep := σ.ep + 1, es := σ.es.eraseIdx i, sl := dropS σ.sl x'.key, oS := oS' } (k + 1) := {
        fxs := D1.fxk S N9 hC2 K2
        off := fun p hp hm => D1.off p hp ((mu_erase D1.nd).2 _ hm)
        nd := (mu_erase D1.nd).1
        hT := fun n hn => K2 _ (D1.hT n hn) (notC _ (List.mem_append_left _ (Dyn.Tm hn)) (D1.SDT hn))
        dT := D1.dT
        hdM := fun n hn => K2 _ (D1.hdM n hn) (notC _ (List.mem_append_left _ (Dyn.dMm hn)) (D1.SDdM hn))
        st := D1.st
        hdB := K2 _ D1.hdB (notC _ (.tail _ (.head _)) D1.SDdB)
        hEL := hEL2
        hes := fun e he => D1.esk N9 hC2 K2 (List.mem_of_mem_eraseIdx he) (notC _ (List.mem_append_right _ (List.mem_map.mpr ⟨e, List.mem_of_mem_eraseIdx he, rfl⟩)) (D1.de_ne (List.mem_of_mem_eraseIdx he) (.head _)))
        hSD := hSD'
        hS := hS'
        hat := fun x hx => D1.slk N9 hC2 K2 (List.mem_filter.mp hx).1
        cor := by
          show Cor F.zf (σ.es.eraseIdx i) (dropS σ.sl x'.key)
          rw [dropS_erase D1.hS.nd hx']; exact D1.cor.eraseIdx i
        num := fun x hx => D1.num x (List.mem_filter.mp hx).1
        ser := fun x hx => by rcases D1.ser x (List.mem_filter.mp hx).1 with h | ⟨h1, h2, h3⟩; exact .inl h; exact .inr ⟨h1, h2, by omega⟩
        len := by
          have := List.length_filter_le (fun x : SL => decide (x.key ≠ x'.key)) σ.sl
          show ((dropS σ.sl x'.key).length : Int) ≤ k + 1
          unfold dropS; omega }
      (repeat' (first | ((with_reducible show wpAny _ _ (compareOp CmpOp.Eq (Value.ref _) (Value.ref _)) _ _ _); refine stop ?_) | ((fail_if_success (with_reducible refine Stop.go ?_)); (first | (k_unfold; (try dsimp only)) | (k_end; wrow_close) | walk1 | (dsimp only; walk1) | (leave1; walk_say "STEP leave1"; try dsimp only) | fail "no step"))))
      refine Stop.go ?_
      (rename News _ _ _ _ => N12)
      refine four_rc N12 ht0 hr' htup2 (ints5 _ _ _ _ _ _ _ _ _ _) hb2 (ints5 _ _ _ _ _ _ _ _ _ _) (by ktr_units) _ _ _ _ ?_
      (repeat' (first | ((with_reducible show wpAny _ _ (compareOp CmpOp.Eq (Value.ref _) (Value.ref _)) _ _ _); refine stop ?_) | ((fail_if_success (with_reducible refine Stop.go ?_)); (first | (k_unfold; (try dsimp only)) | (k_end; wrow_close) | walk1 | (dsimp only; walk1) | (leave1; walk_say "STEP leave1"; try dsimp only) | fail "no step"))))
      k_dflt refine hret _ _ _ _ ⟨rfl, _, D2⟩ (by k_asm) (by k_asm)
/-! M29a -/
set_option genInjectivity false in
set_option genSizeOf false in
/-- a scene of the law's making -/
structure SC where
  d : Addr
  es : List DictEntry
  n : Nat
  lg : Addr
  rp : Addr
  st : Addr
  o : Obj
  t1 : Tok
  n1 : Nat
  n2 : Nat
structure SC.Is (w : World) (nw : Led) (Sc : Addr) (c : SC) (OD : Addr) (tk bk : Value) (now : Int) (tnow : Tok) (way : Int) (tway : Tok) : Prop where
  hSc : (Sc, instObj 136 c.d) ∈ nw
  hd : (c.d, dictOf c.es c.n) ∈ nw
  g1 : getL (Str.ofString "objects") c.es = some (some (.ref OD))
  g2 : getL (Str.ofString "talk") c.es = some (some tk)
  g3 : getL (Str.ofString "talks") c.es = some (some bk)
  g4 : getL (Str.ofString "now") c.es = some (some (.int now tnow))
  g5 : getL (Str.ofString "is_reply") c.es = some (some (.int way tway))
  g6 : getL (Str.ofString "state") c.es = some (some (.int 1 c.t1))
  g7 : getL (Str.ofString "log") c.es = some (some (.ref c.lg))
  g8 : getL (Str.ofString "replies") c.es = some (some (.ref c.rp))
  g9 : getL (Str.ofString "sets") c.es = some (some (.ref c.st))
  hlg : (c.lg, PySem.W.listOf #[] c.n1) ∈ nw
  hrp : (c.rp, PySem.W.listOf #[] c.n2) ∈ nw
  hst : (c.st, c.o) ∈ nw
  dst : c.o.IsDictOf (intKind Challenge.rw_pf0335_01.row.prog w) []
  lst : (c.st == sysModules) = false
structure SC.New (news : Led) (Sc : Addr) (c : SC) : Prop where
  f1 : ∀ p ∈ news, p.1 < Sc
  f2 : ∀ p ∈ news, p.1 < c.d
  f3 : ∀ p ∈ news, p.1 < c.lg
  f4 : ∀ p ∈ news, p.1 < c.rp
  f5 : ∀ p ∈ news, p.1 < c.st
theorem SC.Is.keep {w : World} {nw nw' news : Led} {Sc : Addr} {c : SC} {OD : Addr} {tk bk : Value} {now : Int} {tnow : Tok} {way : Int} {tway : Tok} {a : Addr} (h : c.Is w nw Sc OD tk bk now tnow way tway) (f : c.New news Sc) {o : Obj} (ha : (a, o) ∈ news) (k : ∀ p ∈ nw, p.1 ≠ a → p ∈ nw') : c.Is w nw' Sc OD tk bk now tnow way tway :=
  { h with hSc := k _ h.hSc (Nat.ne_of_gt (f.f1 _ ha)), hd := k _ h.hd (Nat.ne_of_gt (f.f2 _ ha)), hlg := k _ h.hlg (Nat.ne_of_gt (f.f3 _ ha)), hrp := k _ h.hrp (Nat.ne_of_gt (f.f4 _ ha)), hst := k _ h.hst (Nat.ne_of_gt (f.f5 _ ha)) }
theorem SC.Is.mono {w : World} {nw nw' : Led} {Sc : Addr} {c : SC} {OD : Addr} {tk bk : Value} {now : Int} {tnow : Tok} {way : Int} {tway : Tok} (h : c.Is w nw Sc OD tk bk now tnow way tway) (k : ∀ p ∈ nw, p ∈ nw') : c.Is w nw' Sc OD tk bk now tnow way tway :=
  { h with hSc := k _ h.hSc, hd := k _ h.hd, hlg := k _ h.hlg, hrp := k _ h.hrp, hst := k _ h.hst }
theorem at104 {M : Model} {A : Around} {Q E : Value → Shared → Prop} {s : Shared} {Sc : Addr} {v : Value} (h : ∀ a : Addr, a = Sc → wpAny M A (call (.ref 104) [.ref Sc, v]) Q E s) : wpAny M A (call (.ref 104) [.ref Sc, v]) Q E s := h _ rfl
theorem name_item {prog : Program} {w : World} {A : Around} {E : Value → Shared → Prop} {s : Shared} {h₀ : Heap} {L a : Addr} {news : Led} {value slice : PySem.Expr} {x0 x1 x2 x3 : Str} {s0 s1 s2 s3 : Tok} {k : Int} {u : Tok} {Q : Value → Shared → Prop} (N : News h₀ L s.heap news) (hm : (a, tupO [.str x0 s0, .str x1 s1, .str x2 s2, .str x3 s3]) ∈ news) (h0 : 0 ≤ k) (hk : k < 4)
    (h : ∀ x t, x ∈ [x0, x1, x2, x3] → Q (.str x t) s)
    (hs : subscripted slice false (.ref a) (.int k u) = operate [.ref a, .int k u] (getItem (.ref a) (.int k u)) := by with_unfolding_all rfl) :
    wpAny (model prog w) A (subscriptTail value slice (.ref a) (.int k u)) Q E s := by
  have t : IsTup s.heap a ([.str x0 s0, .str x1 s1, .str x2 s2, .str x3 s3] : List Value).toArray := ⟨_, (N _ hm).1, rfl, _, rfl⟩
  have hc : k = 0 ∨ k = 1 ∨ k = 2 ∨ k = 3 := by omega
  rcases hc with rfl | rfl | rfl | rfl
  · exact item_tupleT (j := 0) t (by omega) (by omega) rfl rfl (h _ _ (by simp)) hs
  · exact item_tupleT (j := 1) t (by omega) (by omega) rfl rfl (h _ _ (by simp)) hs
  · exact item_tupleT (j := 2) t (by omega) (by omega) rfl rfl (h _ _ (by simp)) hs
  · exact item_tupleT (j := 3) t (by omega) (by omega) rfl rfl (h _ _ (by simp)) hs
theorem name3_item {prog : Program} {w : World} {A : Around} {E : Value → Shared → Prop} {s : Shared} {h₀ : Heap} {L a : Addr} {news : Led} {value slice : PySem.Expr} {x0 x1 x2 : Str} {s0 s1 s2 : Tok} {k : Int} {u : Tok} {Q : Value → Shared → Prop} (N : News h₀ L s.heap news) (hm : (a, tupO [.str x0 s0, .str x1 s1, .str x2 s2]) ∈ news) (h0 : 0 ≤ k) (hk : k < 3)
    (h : ∀ x t, x ∈ [x0, x1, x2] → Q (.str x t) s)
    (hs : subscripted slice false (.ref a) (.int k u) = operate [.ref a, .int k u] (getItem (.ref a) (.int k u)) := by with_unfolding_all rfl) :
    wpAny (model prog w) A (subscriptTail value slice (.ref a) (.int k u)) Q E s := by
  have t : IsTup s.heap a ([.str x0 s0, .str x1 s1, .str x2 s2] : List Value).toArray := ⟨_, (N _ hm).1, rfl, _, rfl⟩
  have hc : k = 0 ∨ k = 1 ∨ k = 2 := by omega
  rcases hc with rfl | rfl | rfl
  · exact item_tupleT (j := 0) t (by omega) (by omega) rfl rfl (h _ _ (by simp)) hs
  · exact item_tupleT (j := 1) t (by omega) (by omega) rfl rfl (h _ _ (by simp)) hs
  · exact item_tupleT (j := 2) t (by omega) (by omega) rfl rfl (h _ _ (by simp)) hs
section
variable {w : World} {fx news : Led} {F : SF}
theorem Stat.known (S : Stat w fx F) {nm : Str} (h : nm ∈ [Str.ofString "sip", Str.ofString "ftp", Str.ofString "pptp"]) : ∃ (i : Nat) (v : Value), F.nml[i]? = some (nm, v) ∧ valueAt F.nml nm = some v := by
  rw [← S.nn] at h
  obtain ⟨⟨k, v⟩, hp, rfl⟩ := List.mem_map.mp h
  obtain ⟨i, hi⟩ := List.mem_iff_getElem?.mp hp
  exact ⟨i, v, hi, valueAt_get i (by rw [S.nn]; decide) hi⟩
theorem Stat.unknown (S : Stat w fx F) : valueAt F.nml (Str.ofString "irc") = none := by
  unfold valueAt
  rw [List.find?_eq_none.mpr, Option.map_none]
  intro p hp
  have : p.1 ∈ F.nml.map (·.1) := List.mem_map.mpr ⟨p, hp, rfl⟩
  rw [S.nn] at this
  simp only [List.mem_cons, List.not_mem_nil, or_false] at this
  rcases this with h | h | h <;> rw [h] <;> decide
theorem Stat.objKnown (S : Stat w fx F) {nm : Str} {v : Value} {i : Nat} (h : F.nml[i]? = some (nm, v)) : ∃ Ka, atKey ((F.ol ++ [F.z]).map OL.ent) [Str.ofString "expectation", nm] = some (Ka, v) := by
  obtain ⟨y, hy, h1, h2⟩ := S.hom.expects _ (List.mem_of_getElem? h)
  refine ⟨y.a, ?_⟩
  have := oat_ent S.hO.nd (List.mem_append_left [F.z] hy)
  rw [h1, h2] at this
  exact this
theorem Stat.objUnknown (S : Stat w fx F) : atKey ((F.ol ++ [F.z]).map OL.ent) [Str.ofString "expectation", Str.ofString "irc"] = none := by
  refine oat_none fun x hx => ?_
  rcases List.mem_append.mp hx with hx | hx
  · have := (S.hom.names x hx).2
    rw [S.nn] at this
    intro e
    injection e with _ e2
    injection e2 with e3 _
    rw [e3] at this
    exact absurd this (by decide)
  · obtain rfl := List.mem_singleton.mp hx
    rw [S.zk]
    decide
theorem three_mem {n : Int} (h : n ∈ N3) : valueAt (N3.map fun n => (n, Value.none)) n = some .none := by
  simp only [N3, List.mem_cons, List.not_mem_nil, or_false] at h
  rcases h with rfl | rfl | rfl <;> rfl
theorem getD3 (i : Nat) (h : i < 3) : [4, 9, 7].getD i 0 ∈ N3 := by
  rcases i with _ | _ | _ | i
  · decide
  · decide
  · decide
  · omega
theorem via {l l' : Led} (h : ∀ p ∈ l, p ∈ l') {p : Addr × Obj} (hp : p ∈ l) : p ∈ l' := h p hp
end
/-! M29b -/
section
variable {w : World} {fx news nw nw' : Led} {F : SF} {σ : DY} {k : Int}
theorem brk_rc {A : Around} {s : Shared} {h₀ : Heap} {L a b : Addr} {t u t' u' : Tok} (N : News h₀ L s.heap news) (ha : (a, brk t u) ∈ news) (hb : (b, brk t' u') ∈ news) (hu : A.units + 4 < cLine) : SeqAt.RcAt A s (.ref a) (.ref b) true := by
  refine SeqAt.RcAt.tuples (e := fun _ => true) ⟨_, (N _ ha).1, rfl, _, rfl⟩ ⟨_, (N _ hb).1, rfl, _, rfl⟩ (by omega) fun j h1 h2 => ?_
  have ii : ∀ (x : Str) (t r : Tok), SeqAt.EqAt A.in1 s (.str x t) (.str x r) true := fun x t r => by
    have := SeqAt.EqAt.str_str (A := A.in1) (s := s) x t x r
    rwa [beq_self_eq_true] at this
  rcases j with _ | _ | j
  · exact ii _ _ _
  · exact ii _ _ _
  · simp at h1; omega
theorem map_set_same {α β : Type} (f : α → β) {l : List α} {i : Nat} {x y : α} (hx : l[i]? = some x) (h : f y = f x) : (l.set i y).map f = l.map f := by
  refine List.ext_getElem? fun j => ?_
  rw [List.getElem?_map, List.getElem?_map, List.getElem?_set]
  by_cases c : i = j
  · subst c
    have hl : i < l.length := (List.getElem?_eq_some_iff.mp hx).1
    rw [if_pos rfl, if_pos hl, hx]
    simp [h]
  · rw [if_neg c]
theorem mid_update (M : Mid w fx nw F σ k) (S : Stat w fx F) (N : FnL nw) {i : Nat} {x x' : ES} (hx : σ.es[i]? = some x) (h1 : x'.e = x.e) (h2 : x'.de = x.de) (h3 : x'.et = x.et) (h4 : x'.tup = x.tup)
    (hd : (x.de, x'.obj w) ∈ nw') (K : Keep [x.de] nw nw') : Mid w fx nw' F { σ with es := σ.es.set i x' } k := by
  have hxm : x ∈ σ.es := List.mem_of_getElem? hx
  have hC : ∀ a ∈ [x.de], a ∈ σ.EL :: mu F σ.es := fun a ha => by
    obtain rfl := List.mem_singleton.mp ha
    exact .tail _ (List.mem_append_right _ (List.mem_map.mpr ⟨x, hxm, rfl⟩))
  have hde : (σ.es.set i x').map ES.de = σ.es.map ES.de := map_set_same ES.de hx h2
  have hrf : refs (σ.es.set i x') = refs σ.es := map_set_same (fun x : ES => Value.ref x.e) hx (by rw [h1])
  have hmu : mu F (σ.es.set i x') = mu F σ.es := by unfold mu; rw [hde]
  have n1 : ∀ a ∈ [F.SD, F.b.dB, (F.y 4).T, (F.y 9).T, (F.y 7).T, (F.y 4).dM, (F.y 9).dM, (F.y 7).dM], a ∉ [x.de] := fun a ha hm => M.de_ne hxm ha (List.mem_singleton.mp hm).symm
  have elmu := M.EL_mu N
  exact {
    fxs := M.fxk S N hC K
    off := fun p hp => by show p.1 ∉ mu F (σ.es.set i x'); rw [hmu]; exact M.off p hp
    nd := by show (mu F (σ.es.set i x')).Nodup; rw [hmu]; exact M.nd
    hT := fun n hn => K _ (M.hT n hn) (n1 _ (Dyn.Tm hn))
    dT := M.dT
    hdM := fun n hn => K _ (M.hdM n hn) (n1 _ (Dyn.dMm hn))
    st := M.st
    hdB := K _ M.hdB (n1 _ (.tail _ (.head _)))
    hEL := by
      show (σ.EL, PySem.W.listOf (refs (σ.es.set i x')).toArray σ.ep) ∈ nw'
      rw [hrf]
      exact K _ M.hEL (fun h => elmu (by
        have : σ.EL = x.de := List.mem_singleton.mp h
        rw [this]; exact List.mem_append_right _ (List.mem_map.mpr ⟨x, hxm, rfl⟩)))
    hes := fun e he => by
      obtain ⟨j, hj⟩ := List.mem_iff_getElem?.mp he
      rw [List.getElem?_set] at hj
      have at0 := M.hes x hxm
      by_cases c : i = j
      · subst c
        rw [if_pos rfl] at hj
        split at hj
        · obtain rfl := Option.some.inj hj
          exact ⟨by rw [h1, h2]; exact M.instk N hC K at0.inst, by rw [h2]; exact hd, by rw [h3, h4]; exact M.tupk N hC K _ at0.tup rfl⟩
        · cases hj
      · rw [if_neg c] at hj
        refine M.esk N hC K (List.mem_of_getElem? hj) (fun hm => c ?_)
        have e1 : (σ.es.map ES.de)[i]? = some x.de := by rw [List.getElem?_map, hx]; rfl
        have e2 : (σ.es.map ES.de)[j]? = some x.de := by rw [List.getElem?_map, hj]; exact congrArg some (List.mem_singleton.mp hm)
        exact (List.getElem?_inj (List.getElem?_eq_some_iff.mp e1).1 (mu_nd M.nd).2.1).mp (e1.trans e2.symm)
    hSD := K _ M.hSD (n1 _ (.head _))
    hS := M.hS
    hat := fun x hx => M.slk N hC K hx
    num := M.num
    ser := M.ser
    len := M.len }
theorem mid_append (M : Mid w fx nw F σ k) (S : Stat w fx F) (N : FnL nw) {x : ES} {more : Led} (hm : ∀ p ∈ nw, p ∈ more) (hf : ∀ p ∈ more, p.1 < x.et) (l1 : @LT.lt Nat _ x.et x.de) (l2 : @LT.lt Nat _ x.de x.e)
    (e : nw' = setAt σ.EL (PySem.W.listOf ((refs σ.es).toArray.push (.ref x.e)) (σ.ep + 1)) ((x.e, instObj 86 x.de) :: (x.de, x.obj w) :: (x.et, x.tup) :: more)) : Mid w fx nw' F { σ with es := σ.es ++ [x], ep := σ.ep + 1 } k := by
  have hC : ∀ a ∈ [σ.EL], a ∈ σ.EL :: mu F σ.es := fun a ha => by obtain rfl := List.mem_singleton.mp ha; exact .head _
  have K : Keep [σ.EL] nw nw' := fun p hp hh => mem_sets e (.tail _ (.tail _ (.tail _ (hm p hp)))) (by simpa using hh)
  have elmu := M.EL_mu N
  have n1 : ∀ a ∈ mu F σ.es, a ∉ [σ.EL] := fun a ha h => elmu ((List.mem_singleton.mp h) ▸ ha)
  have lt : ∀ p ∈ nw, @LT.lt Nat _ p.1 x.et := fun p hp => hf p (hm p hp)
  have elt : @LT.lt Nat _ σ.EL x.et := lt _ M.hEL
  have hmu : mu F (σ.es ++ [x]) = mu F σ.es ++ [x.de] := by unfold mu; rw [List.map_append, ← List.append_assoc]; rfl
  have fresh : ∀ p ∈ nw, p.1 ≠ x.de := fun p hp => Nat.ne_of_lt (Nat.lt_trans (lt p hp) l1)
  have dnew : x.de ∉ mu F σ.es := fun h => by
    obtain ⟨o, h1, _⟩ := M.mu_dict _ h
    exact fresh _ h1 rfl
  exact {
    fxs := M.fxk S N hC K
    off := fun p hp => by
      show p.1 ∉ mu F (σ.es ++ [x])
      rw [hmu]
      intro h
      rcases List.mem_append.mp h with h | h
      · exact M.off p hp h
      · exact fresh p (M.fxs p hp) (List.mem_singleton.mp h)
    nd := by
      show (mu F (σ.es ++ [x])).Nodup
      rw [hmu, List.nodup_append]
      exact ⟨M.nd, List.nodup_cons.mpr ⟨List.not_mem_nil, List.nodup_nil⟩, fun a ha b hb h => dnew (by rw [← List.mem_singleton.mp hb, ← h]; exact ha)⟩
    hT := fun n hn => K _ (M.hT n hn) (n1 _ (List.mem_append_left _ (Dyn.Tm hn)))
    dT := M.dT
    hdM := fun n hn => K _ (M.hdM n hn) (n1 _ (List.mem_append_left _ (Dyn.dMm hn)))
    st := M.st
    hdB := K _ M.hdB (n1 _ (.tail _ (.head _)))
    hEL := by
      show (σ.EL, PySem.W.listOf (refs (σ.es ++ [x])).toArray (σ.ep + 1)) ∈ nw'
      have : (refs (σ.es ++ [x])).toArray = (refs σ.es).toArray.push (.ref x.e) := by unfold refs; rw [List.map_append]; simp
      rw [this]
      exact mem_sets_self e (.tail _ (.tail _ (.tail _ (hm _ M.hEL))))
    hes := fun e' he => by
      rcases List.mem_append.mp he with he | he
      · exact M.esk N hC K he (n1 _ (List.mem_append_right _ (List.mem_map.mpr ⟨e', he, rfl⟩)))
      · obtain rfl := List.mem_singleton.mp he
        exact ⟨mem_sets e (.head _) (Nat.ne_of_gt (Nat.lt_trans elt (Nat.lt_trans l1 l2))), mem_sets e (.tail _ (.head _)) (Nat.ne_of_gt (Nat.lt_trans elt l1)), mem_sets e (.tail _ (.tail _ (.head _))) (Nat.ne_of_gt elt)⟩
    hSD := K _ M.hSD (n1 _ (.head _))
    hS := M.hS
    hat := fun x hx => M.slk N hC K hx
    num := M.num
    ser := M.ser
    len := M.len }
theorem putS_cases {sl : List SL} {x y : SL} (h : x ∈ putS sl y) : x = y ∨ ∃ x0 ∈ sl, x = x0 ∨ x = { x0 with u := y.u, tu := y.tu } := by
  unfold putS at h
  split at h
  · obtain ⟨x0, h0, e⟩ := List.mem_map.mp h
    split at e
    · exact .inr ⟨x0, h0, .inr e.symm⟩
    · exact .inr ⟨x0, h0, .inl e.symm⟩
  · rcases List.mem_append.mp h with h | h
    · exact .inr ⟨x, h, .inl rfl⟩
    · exact .inl (List.mem_singleton.mp h)
theorem putS_length {sl : List SL} {y : SL} : (putS sl y).length ≤ sl.length + 1 := by
  unfold putS
  split
  · simp
  · simp
theorem mid_slot (M : Mid w fx nw F σ k) (S : Stat w fx F) (N : FnL nw) {y : SL} {oS' : Obj} (hSD' : (F.SD, oS') ∈ nw') (hS' : Slots w oS' (putS σ.sl y)) (hy : y.At nw') (K : ∀ p ∈ nw, p.1 ≠ F.SD → p ∈ nw')
    (cor : Cor F.zf σ.es (putS σ.sl y)) (hn : y.n ∈ N3) (hr : (0 ≤ y.a2 ∧ y.r = 0) ∨ (y.a2 = -1 ∧ 1 ≤ y.r ∧ y.r ≤ k + 1)) : Dyn w fx nw' F { σ with sl := putS σ.sl y, oS := oS' } (k + 1) := by
  have hC : ∀ a ∈ [F.SD], a ∈ σ.EL :: mu F σ.es := fun a ha => by obtain rfl := List.mem_singleton.mp ha; exact .tail _ (.head _)
  have K' : Keep [F.SD] nw nw' := fun p hp hh => K p hp (by simpa using hh)
  have elmu := M.EL_mu N
  have len' := putS_length (sl := σ.sl) (y := y)
  have len := M.len
  refine ⟨{
    fxs := M.fxk S N hC K'
    off := M.off
    nd := M.nd
    hT := fun n hn => K _ (M.hT n hn) (M.SDT hn)
    dT := M.dT
    hdM := fun n hn => K _ (M.hdM n hn) (M.SDdM hn)
    st := M.st
    hdB := K _ M.hdB M.SDdB
    hEL := K _ M.hEL (fun e => elmu (by have : σ.EL = F.SD := e
                                        rw [this]; exact .head _))
    hes := fun e he => M.esk N hC K' he (fun h => M.de_ne he (.head _) (List.mem_singleton.mp h))
    hSD := hSD'
    hS := hS'
    hat := fun x hx => by
      rcases putS_cases hx with rfl | ⟨x0, h0, rfl | rfl⟩
      · exact hy
      · exact M.slk N hC K' h0
      · have := M.slk N hC K' h0
        exact ⟨this.hk, this.hb⟩
    num := fun x hx => by
      rcases putS_cases hx with rfl | ⟨x0, h0, rfl | rfl⟩
      · exact hn
      · exact M.num _ h0
      · exact M.num x0 h0
    ser := fun x hx => by
      rcases putS_cases hx with rfl | ⟨x0, h0, rfl | rfl⟩
      · exact hr
      · rcases M.ser _ h0 with h | ⟨h1, h2, h3⟩
        · exact .inl h
        · exact .inr ⟨h1, h2, by omega⟩
      · rcases M.ser x0 h0 with h | ⟨h1, h2, h3⟩
        · exact .inl h
        · exact .inr ⟨h1, h2, by show x0.r ≤ k + 1; omega⟩
    len := by show ((putS σ.sl y).length : Int) ≤ k + 1; omega }, cor⟩
end
theorem base_lt {l : Led} {d : Addr} (h : ∀ p ∈ l, p.1 < d) {p : Addr × Obj} (hp : p ∈ l) : @LT.lt Nat _ p.1 d := h p hp
theorem at104n {M : Model} {A : Around} {Q E : Value → Shared → Prop} {s : Shared} {Sc : Addr} {x : Str} {t : Tok} (h : ∀ (a : Addr) (nm : Str), a = Sc → nm = x → wpAny M A (call (.ref 104) [.ref Sc, .str x t]) Q E s) : wpAny M A (call (.ref 104) [.ref Sc, .str x t]) Q E s := h _ _ rfl rfl
theorem Stat.name {w : World} {fx : Led} {F : SF} (S : Stat w fx F) {nm : Str} (h : nm ∈ [Str.ofString "sip", Str.ofString "ftp", Str.ofString "pptp", Str.ofString "irc"]) : (∃ (i : Nat) (v : Value), F.nml[i]? = some (nm, v) ∧ valueAt F.nml nm = some v) ∨ nm = Str.ofString "irc" := by
  simp only [List.mem_cons, List.not_mem_nil, or_false] at h
  rcases h with h | h | h | h
  · exact .inl (S.known (by simp [h]))
  · exact .inl (S.known (by simp [h]))
  · exact .inl (S.known (by simp [h]))
  · exact .inr h
/-! M29 -/
theorem eqAt_empty2 {A : Around} {s : Shared} {h₀ : Heap} {L a b : Addr} {news : Led} {prog₀ prog₁ : Program} {w₀ w₁ : World} {oa o : Obj} (N : News h₀ L s.heap news) (ha : (a, oa) ∈ news) (da : oa.IsDictOf (intKind prog₁ w₁) []) (hb : (b, o) ∈ news) (db : o.IsDictOf (intKind prog₀ w₀) []) (la : (a == sysModules) = false) (lb : (b == sysModules) = false) (hu : A.units < cLine) : SeqAt.EqAt A s (.ref a) (.ref b) true := by
  obtain ⟨n, rfl⟩ := empty_obj da
  exact eqAt_empty N ha hb db la lb hu
set_option genInjectivity false in
set_option genSizeOf false in
/-- the ask's middle: its locals -/
structure AK where
  who : Int
  twho : Tok
  way : Int
  tway : Tok
  nm : Str
  tnm : Tok
  n : Int
  tn : Tok
  Sc : Addr
  c : SC
  tv : Value
  bv : Value
structure AK.Is (w : World) (news : Led) (F : SF) (now : Int) (tnow : Tok) (x : AK) (m : Str → Option Value) (nw : Led) : Prop where
  mwho : m (Str.ofString "who") = some (.int x.who x.twho)
  mway : m (Str.ofString "way") = some (.int x.way x.tway)
  mname : m (Str.ofString "name") = some (.str x.nm x.tnm)
  mnum : m (Str.ofString "number") = some (.int x.n x.tn)
  mscene : m (Str.ofString "scene") = some (.ref x.Sc)
  mnow : m (Str.ofString "now") = some (.int now tnow)
  mworld : m (Str.ofString "world") = some (.ref F.W)
  way0 : 0 ≤ x.way
  way2 : x.way < 2
  nmm : x.nm ∈ [Str.ofString "sip", Str.ofString "ftp", Str.ofString "pptp", Str.ofString "irc"]
  n3 : x.n ∈ N3
  is : x.c.Is w nw x.Sc F.OD x.tv x.bv now tnow x.way x.tway
  new : x.c.New news x.Sc
  cas : (x.who = 6 ∧ x.tv = .none ∧ x.bv = .ref F.b.B) ∨ (x.who = 7 ∧ x.tv = .ref (F.y x.n).M ∧ x.bv = .none) ∨ (x.who < 6 ∧ x.tv = .ref (F.y x.n).M ∧ x.bv = .ref F.b.B)
set_option genInjectivity false in
set_option genSizeOf false in
/-- what is asked for, where it is known -/
structure AQ where
  S0 : Addr
  p1 : Int
  p2 : Int
  p3 : Int
  p4 : Int
  p5 : Int
  s1 : Tok
  s2 : Tok
  s3 : Tok
  s4 : Tok
  s5 : Tok
  Sd : Addr
  sa : Int
  sb : Int
  sc : Int
  sd : Int
  se : Int
  sf : Int
  ta : Tok
  tb : Tok
  tc : Tok
  td : Tok
  te : Tok
  tf : Tok
structure AQ.Is (fx : Led) (F : SF) (nm : Str) (n way : Int) (q : AQ) : Prop where
  hv : valueAt F.nml nm = some (.ref q.S0)
  hS0 : (q.S0, tupO [.int q.p1 q.s1, .int q.p2 q.s2, .int q.p3 q.s3, .int q.p4 q.s4, .int q.p5 q.s5]) ∈ fx
  hSd : q.Sd = if 1 - way = 0 then (F.y n).Th else (F.y n).Ba
  hSdt : (q.Sd, tupO [.int q.sa q.ta, .int q.sb q.tb, .int q.sc q.tc, .int q.sd q.td, .int q.se q.te, .int q.sf q.tf]) ∈ fx
  hc0 : 0 ≤ q.sc
/-- the law's own look says: break -/
def AQ.No (σ : DY) (n now : Int) (q : AQ) : Prop := ((σ.d n).st.fdiv 8).fmod 2 = 1 ∨ 512 ≤ (σ.d n).st ∨ q.p4 ≤ cntS σ.sl n now
/-- what the project's answer has to be, and what it has left -/
def Told (w : World) (fx : Led) (F : SF) (σ : DY) (k now : Int) (x : AK) (nw : Led) (told : Value) : Prop :=
  (∃ b t u, told = .ref b ∧ (b, brk t u) ∈ nw ∧ Dyn w fx nw F σ k ∧ (x.nm = Str.ofString "irc" ∨ ∃ q : AQ, q.Is fx F x.nm x.n x.way ∧ (6 ≤ x.who ∨ q.No σ x.n now))) ∨
  (told = .none ∧ x.who < 6 ∧ ∃ (q : AQ) (es : List ES) (EL : Addr) (ep : Nat), q.Is fx F x.nm x.n x.way ∧ ¬ q.No σ x.n now ∧ Mid w fx nw F ⟨σ.d, EL, ep, es, σ.sl, σ.oS⟩ k ∧
    ∀ y : SL, y.key = (x.n, [if q.p5 = 0 then q.sa else q.p5, q.p1, q.sc, q.se, q.p2], 0) → y.u = now + q.p3 → Cor F.zf es (putS σ.sl y))
theorem AQ.of {w : World} {fx : Led} {F : SF} (S : Stat w fx F) {nm : Str} {v : Value} (hv : valueAt F.nml nm = some v) {n : Int} (hn : n ∈ N3) (way : Int) : ∃ q : AQ, q.Is fx F nm n way := by
  obtain ⟨S0, p1, p2, p3, p4, p5, s1, s2, s3, s4, s5, rfl, hS0⟩ := S.sp _ _ hv
  by_cases c : 1 - way = 0
  · exact ⟨⟨S0, p1, p2, p3, p4, p5, s1, s2, s3, s4, s5, (F.y n).Th, _, _, _, _, _, _, _, _, _, _, _, _⟩, hv, hS0, by rw [if_pos c], S.tT _ hn, S.p2 _ hn⟩
  · exact ⟨⟨S0, p1, p2, p3, p4, p5, s1, s2, s3, s4, s5, (F.y n).Ba, _, _, _, _, _, _, _, _, _, _, _, _⟩, hv, hS0, by rw [if_neg c], S.tB _ hn, S.q2 _ hn⟩
theorem ask_spec {w mean mg mb base} {fx news : Led} {F : SF} {σ : DY} {k rest now : Int} {trest tnow : Tok} (S : Stat w fx F) (D : Dyn w fx news F σ k) (hk100 : k ≤ 500) (h0 : 0 ≤ rest) :
    Spec 16 w mean mg mb base 206 [.ref F.W, .ref F.MD, .ref F.b.B, .ref F.OD, .int rest trest, .int now tnow] news (fun v news' => v = .bool true ∧ ∃ σ', Dyn w fx news' F σ' (k + 1)) := by
  intro dp un gd cn cs a9 ccd cl outer A₀ h₀ L m h8 g8 d8 T8 os8 Q E B9 F9 X N T hk hd hu hret
  have hlen := D.len
  have hcl := D.cor.length
  have hMD := D.fxs _ S.hMD
  have dMD := S.dMD
  refine wpAny_call ?_
  k_dflt cell_enter
  refine @shut _ _ _ h₀ L m _ _ _ _ _ _ _ _ _ _ _ _ _ _ _ _ _ _ Q _ _ _ _ hret hd hu (by assumption) (fun _ _ h => h) (fun _ _ h => h) fun dp un gd outer A₀ tkS Q E Bw hd hu hret hnext => ?_
  have hG : GDO g8 d8 os8 := trivial
  (rename Fr _ _ _ _ => F1)
  refine seq_cut (b1 := [_, _, _, _, _, _, _, _]) F1 (fun m nw => ∃ x : AK, x.Is w news F now tnow m nw ∧ ∀ p ∈ news, p ∈ nw) ?_ ?_
  · intro Q1 K1; (repeat' (first | (k_here; (with_reducible show wpAny _ _ (subscriptTail _ (PySem.Expr.Name (PySem.Str.ofString "name") _) (Value.ref _) (Value.int _ _)) _ _ _); k_dflt (refine name_item (by k_asm) (by k_mem) (by omega) (by omega) ?_); intro nm9Q tnm9Q hnm9Q) | ((with_reducible show wpAny _ _ (compareOp CmpOp.NotEq (Value.ref _) (Value.ref _)) _ _ _); refine stop ?_) | ((with_reducible show wpAny _ _ (compareOp CmpOp.Eq (Value.ref _) (Value.ref _)) _ _ _); refine stop ?_) | ((fail_if_success (with_reducible refine Stop.go ?_)); (first | (k_unfold; (try dsimp only)) | (k_end; wrow_close) | walk1 | (dsimp only; walk1) | (leave1; walk_say "STEP leave1"; try dsimp only) | fail "no step"))))
    refine Stop.go ?_
    (try k_fold)
    k_dflt refine (Spec.use (by k_asm) (by k_asm) (by k_asm) (by k_asm) (by k_asm) (by first | exact rfl | assumption) (digits_spec (bs := [8, 2, 4]) (by k_mem) (by (repeat (first | exact IntsAre.nil | refine IntsAre.cons _ _ ?_))) (by decide) (by decide) h0) (by ktr_room) (by ktr_units) ?_)
    rintro v h' tk news' ⟨l9, ys, rfl, rfl, hys, hl9⟩ F8 N8
    refine digsE3 hys (by decide) (by decide) (by decide) h0 fun who way name t1 t2 t3 l1 u1 l2 u2 l3 u3 ey => ?_
    subst ey
    have t9 : Halt 0 := trivial
    clear hys
    (try dsimp only at F8 N8 ⊢)
    (try k_fold)
    have hn3 : [4, 9, 7].getD (who.fmod 3).toNat 0 ∈ N3 := getD3 _ (by have := Int.fmod_lt_of_pos who (show (0 : Int) < 3 by omega); have := Int.fmod_nonneg_of_pos who (show (0 : Int) < 3 by omega); omega)
    have hvM := S.vM hn3
    have hwho : who = 6 ∨ who = 7 ∨ (who ≠ 6 ∧ who ≠ 7 ∧ who < 6) := by omega
    (repeat' (first | (k_here; (with_reducible show wpAny _ _ (subscriptTail _ (PySem.Expr.Name (PySem.Str.ofString "name") _) (Value.ref _) (Value.int _ _)) _ _ _); k_dflt (refine name_item (by k_asm) (by k_mem) (by omega) (by omega) ?_); intro nm9Q tnm9Q hnm9Q) | ((with_reducible show wpAny _ _ (compareOp CmpOp.NotEq (Value.ref _) (Value.ref _)) _ _ _); refine stop ?_) | ((with_reducible show wpAny _ _ (compareOp CmpOp.Eq (Value.ref _) (Value.ref _)) _ _ _); refine stop ?_) | ((fail_if_success (with_reducible refine Stop.go ?_)); (first | (k_unfold; (try dsimp only)) | (k_end; wrow_close) | walk1 | (dsimp only; walk1) | (leave1; walk_say "STEP leave1"; try dsimp only) | fail "no step"))))
    all_goals try (exfalso; omega)
    all_goals
      (rename News _ _ _ _ => N5)
      (rename Fr _ _ _ _ => F5)
      refine' SeqV.next K1 F5 N5 ⟨⟨who, _, way, _, _, _, [4, 9, 7].getD (who.fmod 3).toNat 0, _, _, ⟨_, _, _, _, _, _, _, _, _, _⟩, _, _⟩, { mwho := by first | exact rfl | with_unfolding_all assumption, mway := by first | exact rfl | with_unfolding_all assumption, mname := by first | exact rfl | with_unfolding_all assumption, mnum := by first | exact rfl | with_unfolding_all assumption, mscene := by first | exact rfl | with_unfolding_all assumption, mnow := by first | exact rfl | with_unfolding_all assumption, mworld := by first | exact rfl | with_unfolding_all assumption, way0 := l2, way2 := u2, nmm := by assumption, n3 := hn3, is := ⟨by k_mem, by k_mem, rfl, rfl, rfl, rfl, rfl, rfl, rfl, rfl, rfl, by k_mem, by k_mem, by k_mem, by assumption, by assumption⟩, new := ⟨?_, ?_, ?_, ?_, ?_⟩, cas := ?cas }, (by intro p hp; (repeat (first | exact hp | refine List.Mem.tail _ ?_)); done)⟩
      case cas => first | (have h6 : who = 6 := by omega); exact .inl ⟨h6, rfl, rfl⟩ | (have h6 : who = 7 := by omega); exact .inr (.inl ⟨h6, rfl, rfl⟩) | (have h6 : who < 6 := by omega); exact .inr (.inr ⟨h6, rfl, rfl⟩)
      all_goals first | ((try dsimp only); apply tail_lt; assumption; (intro p hp; (repeat (first | exact hp | refine List.Mem.tail _ ?_)); done)) | (intro p hp; have hb9 := base_lt (l := news) (by assumption) hp; (show @LT.lt Nat _ _ _); (try dsimp only); omega)
  rintro h2 tk2 m2 nwA F2 N2 ⟨⟨who, twho, way, tway, nm, tnm, n, tn, Sc, c, tv, bv⟩, ⟨j1, j2, j3, j4, j5, j6, j7, l2, u2, hnm, hn3, hc, hnew, cas⟩, subA⟩
  dsimp only at j1 j2 j3 j4 j5 j6 j7 l2 u2 hnm hn3 hc hnew subA cas ⊢
  have NA := FnL.of N2
  have DA := D.mono (Int.le_refl k) subA
  refine seq_cut (b1 := [_]) F2 (fun m nw => ∃ (x : AK) (told : Value), m (Str.ofString "told") = some told ∧ x.Is w news F now tnow m nw ∧ Told w fx F σ k now x nw told) ?_ ?_
  · intro Q1 K1; (try k_fold)
    (repeat' (first | (k_here; (with_reducible show wpAny _ _ (subscriptTail _ (PySem.Expr.Name (PySem.Str.ofString "name") _) (Value.ref _) (Value.int _ _)) _ _ _); k_dflt (refine name_item (by k_asm) (by k_mem) (by omega) (by omega) ?_); intro nm9Q tnm9Q hnm9Q) | ((with_reducible show wpAny _ _ (compareOp CmpOp.NotEq (Value.ref _) (Value.ref _)) _ _ _); refine stop ?_) | ((with_reducible show wpAny _ _ (compareOp CmpOp.Eq (Value.ref _) (Value.ref _)) _ _ _); refine stop ?_) | ((fail_if_success (with_reducible refine Stop.go ?_)); (first | (k_unfold; (try dsimp only)) | (k_end; wrow_close) | walk1 | (dsimp only; walk1) | (leave1; walk_say "STEP leave1"; try dsimp only) | fail "no step"))))
    refine Stop.go ?_
    rcases S.name hnm with ⟨i, v, hi, hv⟩ | rfl
    · obtain ⟨Ka, hKa⟩ := S.objKnown hi
      obtain ⟨q, hq⟩ := AQ.of S hv hn3 way
      obtain rfl : v = .ref q.S0 := Option.some.inj (hv.symm.trans hq.hv)
      have brkEnd : ∀ (b : Addr) (t u : Tok) (nw : Led), (b, brk t u) ∈ nw → (∀ p ∈ nwA, p ∈ nw) → (6 ≤ who ∨ q.No σ n now) → Told w fx F σ k now ⟨who, twho, way, tway, nm, tnm, n, tn, Sc, c, tv, bv⟩ nw (.ref b) :=
        fun b t u nw h1 h2 h3 => .inl ⟨b, t, u, rfl, h1, DA.mono (Int.le_refl k) h2, .inr ⟨q, hq, h3⟩⟩
      rcases cas with ⟨rfl, rfl, rfl⟩ | ⟨rfl, rfl, rfl⟩ | ⟨w8, rfl, rfl⟩
      · (try k_fold)
        k_dflt refine (Spec.use (by k_asm) (by k_asm) (by k_asm) (by k_asm) (by k_asm) (by first | exact rfl | assumption) (expect_break hc.hSc hc.hd hc.g1 (DA.fxs _ S.hOD) S.hO S.lOD (fun x hx => OL.At.up S.hoat hx DA.fxs) hKa (.inl ⟨hc.g2, _, hc.g3⟩)) (by ktr_room) (by ktr_units) ?_)
        k_dflt (intro v9 h9 tk9 news8 p9 F8 N8)
        obtain ⟨b, tb, ub, rfl, hb, sub8⟩ := p9
        (try dsimp only at F8 N8 ⊢)
        (repeat' (first | (k_here; (with_reducible show wpAny _ _ (subscriptTail _ (PySem.Expr.Name (PySem.Str.ofString "name") _) (Value.ref _) (Value.int _ _)) _ _ _); k_dflt (refine name_item (by k_asm) (by k_mem) (by omega) (by omega) ?_); intro nm9Q tnm9Q hnm9Q) | ((with_reducible show wpAny _ _ (compareOp CmpOp.NotEq (Value.ref _) (Value.ref _)) _ _ _); refine stop ?_) | ((with_reducible show wpAny _ _ (compareOp CmpOp.Eq (Value.ref _) (Value.ref _)) _ _ _); refine stop ?_) | ((fail_if_success (with_reducible refine Stop.go ?_)); (first | (k_unfold; (try dsimp only)) | (k_end; wrow_close) | walk1 | (dsimp only; walk1) | (leave1; walk_say "STEP leave1"; try dsimp only) | fail "no step"))))
        (rename Fr _ _ _ _ => F5); (rename News _ _ _ _ => N5)
        refine SeqV.next K1 F5 N5 ⟨⟨_, twho, way, tway, _, tnm, n, tn, Sc, c, _, _⟩, _, rfl, { mwho := by first | exact rfl | with_unfolding_all assumption, mway := by first | exact rfl | with_unfolding_all assumption, mname := by first | exact rfl | with_unfolding_all assumption, mnum := by first | exact rfl | with_unfolding_all assumption, mscene := by first | exact rfl | with_unfolding_all assumption, mnow := by first | exact rfl | with_unfolding_all assumption, mworld := by first | exact rfl | with_unfolding_all assumption, way0 := l2, way2 := u2, nmm := hnm, n3 := hn3, is := hc.mono sub8, new := hnew, cas := by first | exact .inl ⟨rfl, rfl, rfl⟩ | exact .inr (.inl ⟨rfl, rfl, rfl⟩) | exact .inr (.inr ⟨w8, rfl, rfl⟩) | exact cas }, brkEnd b tb ub news8 hb sub8 (.inl (by omega))⟩
      · (try k_fold)
        k_dflt refine (Spec.use (by k_asm) (by k_asm) (by k_asm) (by k_asm) (by k_asm) (by first | exact rfl | assumption) (expect_break hc.hSc hc.hd hc.g1 (DA.fxs _ S.hOD) S.hO S.lOD (fun x hx => OL.At.up S.hoat hx DA.fxs) hKa (.inr ⟨hc.g3, _, hc.g2⟩)) (by ktr_room) (by ktr_units) ?_)
        k_dflt (intro v9 h9 tk9 news8 p9 F8 N8)
        obtain ⟨b, tb, ub, rfl, hb, sub8⟩ := p9
        (try dsimp only at F8 N8 ⊢)
        (repeat' (first | (k_here; (with_reducible show wpAny _ _ (subscriptTail _ (PySem.Expr.Name (PySem.Str.ofString "name") _) (Value.ref _) (Value.int _ _)) _ _ _); k_dflt (refine name_item (by k_asm) (by k_mem) (by omega) (by omega) ?_); intro nm9Q tnm9Q hnm9Q) | ((with_reducible show wpAny _ _ (compareOp CmpOp.NotEq (Value.ref _) (Value.ref _)) _ _ _); refine stop ?_) | ((with_reducible show wpAny _ _ (compareOp CmpOp.Eq (Value.ref _) (Value.ref _)) _ _ _); refine stop ?_) | ((fail_if_success (with_reducible refine Stop.go ?_)); (first | (k_unfold; (try dsimp only)) | (k_end; wrow_close) | walk1 | (dsimp only; walk1) | (leave1; walk_say "STEP leave1"; try dsimp only) | fail "no step"))))
        (rename Fr _ _ _ _ => F5); (rename News _ _ _ _ => N5)
        refine SeqV.next K1 F5 N5 ⟨⟨_, twho, way, tway, _, tnm, n, tn, Sc, c, _, _⟩, _, rfl, { mwho := by first | exact rfl | with_unfolding_all assumption, mway := by first | exact rfl | with_unfolding_all assumption, mname := by first | exact rfl | with_unfolding_all assumption, mnum := by first | exact rfl | with_unfolding_all assumption, mscene := by first | exact rfl | with_unfolding_all assumption, mnow := by first | exact rfl | with_unfolding_all assumption, mworld := by first | exact rfl | with_unfolding_all assumption, way0 := l2, way2 := u2, nmm := hnm, n3 := hn3, is := hc.mono sub8, new := hnew, cas := by first | exact .inl ⟨rfl, rfl, rfl⟩ | exact .inr (.inl ⟨rfl, rfl, rfl⟩) | exact .inr (.inr ⟨w8, rfl, rfl⟩) | exact cas }, brkEnd b tb ub news8 hb sub8 (.inl (by omega))⟩
      · have elen := DA.cor.length
        have lenA := DA.len
        have etn := S.tn _ hn3
        have hst := DA.st _ hn3
        (try k_fold)
        k_dflt refine (Spec.use (by k_asm) (by k_asm) (by k_asm) (by k_asm) (by k_asm) (by first | exact rfl | assumption) (expect_some hc.hSc hc.hd hc.g1 hc.g2 hc.g3 hc.g4 hc.g5 (DA.fxs _ S.hOD) S.hO S.lOD (fun x hx => OL.At.up S.hoat hx DA.fxs) hKa (DA.fxs _ (S.tM _ hn3)) (DA.hdM _ hn3) rfl rfl rfl rfl rfl (DA.fxs _ S.hB) DA.hdB rfl DA.hEL DA.hes (by omega) (DA.fxs _ hq.hS0) hq.hSd (DA.fxs _ hq.hSdt)) (by ktr_room) (by ktr_units) ?_)
        k_dflt (intro v9 h9 tk9 news8 p9 F8 N8)
        obtain ⟨D9, o9, lD9, p9⟩ := p9
        rw [etn] at p9
        (try dsimp only at F8 N8 ⊢)
        have hno : (¬ Builtin.bitAnd (σ.d n).st (Builtin.bitOr 8 512) = 0 ∨ q.p4 ≤ cntE σ.es n now) ↔ q.No σ n now := by
          rw [bit_eq hst.1 hst.2, cnt_eq DA.cor]
          exact ⟨fun h => by rcases h with (h | h) | h; exact .inl h; exact .inr (.inl h); exact .inr (.inr h), fun h => by rcases h with h | h | h; exact .inl (.inl h); exact .inl (.inr h); exact .inr h⟩
        rcases p9 with ⟨hcond, b, tb9, ub9, rfl, e8⟩ | ⟨hcond, rfl, ⟨j, x, tu, hf, hx, e8⟩ | ⟨hf, x, x1, x2, x3, x4, x5, x6, x7, x8, e8, lt1, lt2, lt3⟩⟩
        · have sub8 : ∀ p ∈ nwA, p ∈ news8 := fun p hp => by rw [e8]; (repeat (first | exact hp | refine List.Mem.tail _ ?_)); done
          have hb : (b, brk tb9 ub9) ∈ news8 := by rw [e8]; exact .head _
          clear e8
          (repeat' (first | (k_here; (with_reducible show wpAny _ _ (subscriptTail _ (PySem.Expr.Name (PySem.Str.ofString "name") _) (Value.ref _) (Value.int _ _)) _ _ _); k_dflt (refine name_item (by k_asm) (by k_mem) (by omega) (by omega) ?_); intro nm9Q tnm9Q hnm9Q) | ((with_reducible show wpAny _ _ (compareOp CmpOp.NotEq (Value.ref _) (Value.ref _)) _ _ _); refine stop ?_) | ((with_reducible show wpAny _ _ (compareOp CmpOp.Eq (Value.ref _) (Value.ref _)) _ _ _); refine stop ?_) | ((fail_if_success (with_reducible refine Stop.go ?_)); (first | (k_unfold; (try dsimp only)) | (k_end; wrow_close) | walk1 | (dsimp only; walk1) | (leave1; walk_say "STEP leave1"; try dsimp only) | fail "no step"))))
          (rename Fr _ _ _ _ => F5); (rename News _ _ _ _ => N5)
          refine SeqV.next K1 F5 N5 ⟨⟨_, twho, way, tway, _, tnm, n, tn, Sc, c, _, _⟩, _, rfl, { mwho := by first | exact rfl | with_unfolding_all assumption, mway := by first | exact rfl | with_unfolding_all assumption, mname := by first | exact rfl | with_unfolding_all assumption, mnum := by first | exact rfl | with_unfolding_all assumption, mscene := by first | exact rfl | with_unfolding_all assumption, mnow := by first | exact rfl | with_unfolding_all assumption, mworld := by first | exact rfl | with_unfolding_all assumption, way0 := l2, way2 := u2, nmm := hnm, n3 := hn3, is := hc.mono sub8, new := hnew, cas := by first | exact .inl ⟨rfl, rfl, rfl⟩ | exact .inr (.inl ⟨rfl, rfl, rfl⟩) | exact .inr (.inr ⟨w8, rfl, rfl⟩) | exact cas }, brkEnd b _ _ news8 hb sub8 (.inr (hno.mp hcond))⟩
        · have hxm : x ∈ σ.es := List.mem_of_getElem? hx
          have K8 : Keep [x.de] nwA news8 := fun p hp hh => mem_sets e8 (by (repeat (first | exact hp | refine List.Mem.tail _ ?_)); done) (by simpa using hh)
          have M8 := mid_update DA.toMid S NA (x' := { x with u := now + q.p3, tu := tu }) hx rfl rfl rfl rfl (mem_sets_self e8 (by have hp := (DA.hes x hxm).dict; (repeat (first | exact hp | refine List.Mem.tail _ ?_)); done)) K8
          have hc8 := hc.keep hnew (D.hes x hxm).dict (fun p hp hh => K8 p hp (by simpa using hh))
          clear e8
          have cor8 : ∀ y : SL, y.key = (n, [if q.p5 = 0 then q.sa else q.p5, q.p1, q.sc, q.se, q.p2], 0) → y.u = now + q.p3 → Cor F.zf (σ.es.set j { x with u := now + q.p3, tu := tu }) (putS σ.sl y) := fun y hkey hyu => by
            have hjl : j < σ.sl.length := by have := (List.getElem?_eq_some_iff.mp hx).1; omega
            have hx0 : σ.sl[j]? = some σ.sl[j] := List.getElem?_eq_getElem hjl
            have s9 := DA.cor.get j _ _ hx hx0
            rw [put_some DA.cor DA.ser DA.hS.nd hq.hc0 rfl hkey hf hx hx0]
            exact DA.cor.set (e := { x with u := now + q.p3, tu := tu }) (x := { σ.sl[j] with u := y.u, tu := y.tu }) ⟨s9.n, s9.z, hyu.symm, s9.a0, s9.a1, s9.a2, s9.a3, s9.a4⟩ j
          have ne8 : ∀ p ∈ news, p.1 ≠ x.de → p ∈ news8 := fun p hp hh => K8 p (subA p hp) (by simpa using hh)
          (repeat' (first | (k_here; (with_reducible show wpAny _ _ (subscriptTail _ (PySem.Expr.Name (PySem.Str.ofString "name") _) (Value.ref _) (Value.int _ _)) _ _ _); k_dflt (refine name_item (by k_asm) (by k_mem) (by omega) (by omega) ?_); intro nm9Q tnm9Q hnm9Q) | ((with_reducible show wpAny _ _ (compareOp CmpOp.NotEq (Value.ref _) (Value.ref _)) _ _ _); refine stop ?_) | ((with_reducible show wpAny _ _ (compareOp CmpOp.Eq (Value.ref _) (Value.ref _)) _ _ _); refine stop ?_) | ((fail_if_success (with_reducible refine Stop.go ?_)); (first | (k_unfold; (try dsimp only)) | (k_end; wrow_close) | walk1 | (dsimp only; walk1) | (leave1; walk_say "STEP leave1"; try dsimp only) | fail "no step"))))
          (rename Fr _ _ _ _ => F5); (rename News _ _ _ _ => N5)
          refine SeqV.next K1 F5 N5 ⟨⟨_, twho, way, tway, _, tnm, n, tn, Sc, c, _, _⟩, _, rfl, { mwho := by first | exact rfl | with_unfolding_all assumption, mway := by first | exact rfl | with_unfolding_all assumption, mname := by first | exact rfl | with_unfolding_all assumption, mnum := by first | exact rfl | with_unfolding_all assumption, mscene := by first | exact rfl | with_unfolding_all assumption, mnow := by first | exact rfl | with_unfolding_all assumption, mworld := by first | exact rfl | with_unfolding_all assumption, way0 := l2, way2 := u2, nmm := hnm, n3 := hn3, is := hc8, new := hnew, cas := by first | exact .inl ⟨rfl, rfl, rfl⟩ | exact .inr (.inl ⟨rfl, rfl, rfl⟩) | exact .inr (.inr ⟨w8, rfl, rfl⟩) | exact cas }, .inr ⟨rfl, w8, q, _, _, _, hq, fun h => hcond (hno.mpr h), M8, cor8⟩⟩
        · have M8 := mid_append DA.toMid S NA (by intro p hp; (repeat (first | exact hp | refine List.Mem.tail _ ?_)); done) lt1 lt2 lt3 e8
          have K8 : ∀ p ∈ nwA, p.1 ≠ σ.EL → p ∈ news8 := fun p hp hh => mem_sets e8 (by (repeat (first | exact hp | refine List.Mem.tail _ ?_)); done) hh
          have hc8 := hc.keep hnew D.hEL K8
          clear e8
          have cor8 : ∀ y : SL, y.key = (n, [if q.p5 = 0 then q.sa else q.p5, q.p1, q.sc, q.se, q.p2], 0) → y.u = now + q.p3 → Cor F.zf (σ.es ++ [x]) (putS σ.sl y) := fun y hkey hyu => by
            have ky := hkey
            unfold SL.key at ky
            simp only [Prod.mk.injEq, List.cons.injEq, and_true] at ky
            obtain ⟨k0, ⟨k1, k2, k3, k4, k5⟩, k6⟩ := ky
            rw [put_none DA.cor DA.ser hq.hc0 rfl hkey hf]
            exact DA.cor.snoc ⟨by rw [x1, k0], by rw [x2, k0], by rw [x3, hyu], by rw [x4, k1], by rw [x5, k2], by rw [x6, k3], by rw [x7, k4], by rw [x8, k5]⟩
          (repeat' (first | (k_here; (with_reducible show wpAny _ _ (subscriptTail _ (PySem.Expr.Name (PySem.Str.ofString "name") _) (Value.ref _) (Value.int _ _)) _ _ _); k_dflt (refine name_item (by k_asm) (by k_mem) (by omega) (by omega) ?_); intro nm9Q tnm9Q hnm9Q) | ((with_reducible show wpAny _ _ (compareOp CmpOp.NotEq (Value.ref _) (Value.ref _)) _ _ _); refine stop ?_) | ((with_reducible show wpAny _ _ (compareOp CmpOp.Eq (Value.ref _) (Value.ref _)) _ _ _); refine stop ?_) | ((fail_if_success (with_reducible refine Stop.go ?_)); (first | (k_unfold; (try dsimp only)) | (k_end; wrow_close) | walk1 | (dsimp only; walk1) | (leave1; walk_say "STEP leave1"; try dsimp only) | fail "no step"))))
          (rename Fr _ _ _ _ => F5); (rename News _ _ _ _ => N5)
          refine SeqV.next K1 F5 N5 ⟨⟨_, twho, way, tway, _, tnm, n, tn, Sc, c, _, _⟩, _, rfl, { mwho := by first | exact rfl | with_unfolding_all assumption, mway := by first | exact rfl | with_unfolding_all assumption, mname := by first | exact rfl | with_unfolding_all assumption, mnum := by first | exact rfl | with_unfolding_all assumption, mscene := by first | exact rfl | with_unfolding_all assumption, mnow := by first | exact rfl | with_unfolding_all assumption, mworld := by first | exact rfl | with_unfolding_all assumption, way0 := l2, way2 := u2, nmm := hnm, n3 := hn3, is := hc8, new := hnew, cas := by first | exact .inl ⟨rfl, rfl, rfl⟩ | exact .inr (.inl ⟨rfl, rfl, rfl⟩) | exact .inr (.inr ⟨w8, rfl, rfl⟩) | exact cas }, .inr ⟨rfl, w8, q, _, _, _, hq, fun h => hcond (hno.mpr h), M8, cor8⟩⟩
    · (try k_fold)
      k_dflt refine (Spec.use (by k_asm) (by k_asm) (by k_asm) (by k_asm) (by k_asm) (by first | exact rfl | assumption) (expect_none hc.hSc hc.hd hc.g1 (DA.fxs _ S.hOD) S.hO S.lOD (fun x hx => OL.At.up S.hoat hx DA.fxs) S.objUnknown) (by ktr_room) (by ktr_units) ?_)
      k_dflt (intro v9 h9 tk9 news8 p9 F8 N8)
      obtain ⟨b, tb, ub, rfl, hb, sub8⟩ := p9
      (try dsimp only at F8 N8 ⊢)
      (repeat' (first | (k_here; (with_reducible show wpAny _ _ (subscriptTail _ (PySem.Expr.Name (PySem.Str.ofString "name") _) (Value.ref _) (Value.int _ _)) _ _ _); k_dflt (refine name_item (by k_asm) (by k_mem) (by omega) (by omega) ?_); intro nm9Q tnm9Q hnm9Q) | ((with_reducible show wpAny _ _ (compareOp CmpOp.NotEq (Value.ref _) (Value.ref _)) _ _ _); refine stop ?_) | ((with_reducible show wpAny _ _ (compareOp CmpOp.Eq (Value.ref _) (Value.ref _)) _ _ _); refine stop ?_) | ((fail_if_success (with_reducible refine Stop.go ?_)); (first | (k_unfold; (try dsimp only)) | (k_end; wrow_close) | walk1 | (dsimp only; walk1) | (leave1; walk_say "STEP leave1"; try dsimp only) | fail "no step"))))
      (rename Fr _ _ _ _ => F5); (rename News _ _ _ _ => N5)
      refine SeqV.next K1 F5 N5 ⟨⟨_, twho, way, tway, _, tnm, n, tn, Sc, c, _, _⟩, _, rfl, { mwho := by first | exact rfl | with_unfolding_all assumption, mway := by first | exact rfl | with_unfolding_all assumption, mname := by first | exact rfl | with_unfolding_all assumption, mnum := by first | exact rfl | with_unfolding_all assumption, mscene := by first | exact rfl | with_unfolding_all assumption, mnow := by first | exact rfl | with_unfolding_all assumption, mworld := by first | exact rfl | with_unfolding_all assumption, way0 := l2, way2 := u2, nmm := hnm, n3 := hn3, is := hc.mono sub8, new := hnew, cas := by first | exact .inl ⟨rfl, rfl, rfl⟩ | exact .inr (.inl ⟨rfl, rfl, rfl⟩) | exact .inr (.inr ⟨w8, rfl, rfl⟩) | exact cas }, .inl ⟨b, tb, ub, rfl, hb, DA.mono (Int.le_refl k) sub8, .inl rfl⟩⟩
  rintro h3 tk3 m3 nw3 F3 N3 ⟨⟨who, twho, way, tway, nm, tnm, n, tn, Sc, c, tv, bv⟩, told, j0, ⟨j1, j2, j3, j4, j5, j6, j7, l2, u2, hnm, hn3, hc, hnew, cas⟩, T3⟩
  dsimp only at j0 j1 j2 j3 j4 j5 j6 j7 l2 u2 hnm hn3 hc hnew cas T3 ⊢
  refine seq_cut (b1 := [_]) F3 (fun m nw => ∃ (x : AK) (told : Value), m (Str.ofString "told") = some told ∧ x.Is w news F now tnow m nw ∧ Told w fx F σ k now x nw told) ?_ ?_
  · intro Q1 K1; obtain ⟨q1, q2, q3, q4, q5, q6, q7, q8, q9, q10, q11, q12, q13, q14, q15, q16⟩ := hc
    have hc : c.Is w nw3 Sc F.OD tv bv now tnow way tway := ⟨q1, q2, q3, q4, q5, q6, q7, q8, q9, q10, q11, q12, q13, q14, q15, q16⟩
    (try k_fold)
    (repeat' (first | (k_here; (with_reducible show wpAny _ _ (subscriptTail _ (PySem.Expr.Name (PySem.Str.ofString "name") _) (Value.ref _) (Value.int _ _)) _ _ _); k_dflt (refine name_item (by k_asm) (by k_mem) (by omega) (by omega) ?_); intro nm9Q tnm9Q hnm9Q) | ((with_reducible show wpAny _ _ (compareOp CmpOp.NotEq (Value.ref _) (Value.ref _)) _ _ _); refine stop ?_) | ((with_reducible show wpAny _ _ (compareOp CmpOp.Eq (Value.ref _) (Value.ref _)) _ _ _); refine stop ?_) | ((fail_if_success (with_reducible refine Stop.go ?_)); (first | (k_unfold; (try dsimp only)) | (k_end; wrow_close) | walk1 | (dsimp only; walk1) | (leave1; walk_say "STEP leave1"; try dsimp only) | fail "no step"))))
    all_goals try (exfalso; omega)
    refine Stop.go ?_
    k_dflt (refine ne_lists_same (by k_asm) (by k_mem) (by k_mem) (by ktr_units) ?_ ?_)
    · refine AllEq.cons (eqAt_int _ _ _) ?_
      refine AllEq.cons (eqAt_int _ _ _) ?_
      refine AllEq.cons (eqAt_int _ _ _) ?_
      refine AllEq.cons (eqAt_nil (by k_asm) (by k_mem) (by k_mem) (by ktr_units)) ?_
      refine AllEq.cons (eqAt_nil (by k_asm) (by k_mem) (by k_mem) (by ktr_units)) ?_
      refine AllEq.cons (eqAt_empty2 (by k_asm) (by k_mem) (by assumption) (by k_mem) (by assumption) (by assumption) (by assumption) (by ktr_units)) ?_
      exact AllEq.nil
    (repeat' (first | (k_here; (with_reducible show wpAny _ _ (subscriptTail _ (PySem.Expr.Name (PySem.Str.ofString "name") _) (Value.ref _) (Value.int _ _)) _ _ _); k_dflt (refine name_item (by k_asm) (by k_mem) (by omega) (by omega) ?_); intro nm9Q tnm9Q hnm9Q) | ((with_reducible show wpAny _ _ (compareOp CmpOp.NotEq (Value.ref _) (Value.ref _)) _ _ _); refine stop ?_) | ((with_reducible show wpAny _ _ (compareOp CmpOp.Eq (Value.ref _) (Value.ref _)) _ _ _); refine stop ?_) | ((fail_if_success (with_reducible refine Stop.go ?_)); (first | (k_unfold; (try dsimp only)) | (k_end; wrow_close) | walk1 | (dsimp only; walk1) | (leave1; walk_say "STEP leave1"; try dsimp only) | fail "no step"))))
    all_goals try (exfalso; omega)
    (rename Fr _ _ _ _ => F5); (rename News _ _ _ _ => N5)
    refine SeqV.next K1 (news' := nw3) F5 (drop_led N5 (by intro p hp; (repeat (first | exact hp | refine List.Mem.tail _ ?_)); done)) ⟨⟨who, twho, way, tway, nm, tnm, n, tn, Sc, c, tv, bv⟩, told, by with_unfolding_all exact j0, { mwho := by with_unfolding_all exact j1, mway := by with_unfolding_all exact j2, mname := by with_unfolding_all exact j3, mnum := by with_unfolding_all exact j4, mscene := by with_unfolding_all exact j5, mnow := by with_unfolding_all exact j6, mworld := by with_unfolding_all exact j7, way0 := l2, way2 := u2, nmm := hnm, n3 := hn3, is := hc, new := hnew, cas := cas }, T3⟩
  rintro h4 tk4 m4 nw4 F4 N4 ⟨⟨who, twho, way, tway, nm, tnm, n, tn, Sc, c, tv, bv⟩, told, j0, ⟨j1, j2, j3, j4, j5, j6, j7, l2, u2, hnm, hn3, hc, hnew, cas⟩, T4⟩
  dsimp only at j0 j1 j2 j3 j4 j5 j6 j7 l2 u2 hnm hn3 T4 ⊢
  clear hc hnew cas
  (try k_fold)
  have N4f := FnL.of N4
  rcases T4 with ⟨b, tb, ub, rfl, hb, D4, hno⟩ | ⟨rfl, w8, q, es, EL, ep, hq, hno, M4, cor4⟩
  · dsimp only at hno
    (repeat' (first | (k_here; (with_reducible show wpAny _ _ (subscriptTail _ (PySem.Expr.Name (PySem.Str.ofString "name") _) (Value.ref _) (Value.int _ _)) _ _ _); k_dflt (refine name_item (by k_asm) (by k_mem) (by omega) (by omega) ?_); intro nm9Q tnm9Q hnm9Q) | ((with_reducible show wpAny _ _ (compareOp CmpOp.NotEq (Value.ref _) (Value.ref _)) _ _ _); refine stop ?_) | ((with_reducible show wpAny _ _ (compareOp CmpOp.Eq (Value.ref _) (Value.ref _)) _ _ _); refine stop ?_) | ((fail_if_success (with_reducible refine Stop.go ?_)); (first | (k_unfold; (try dsimp only)) | (k_end; wrow_close) | walk1 | (dsimp only; walk1) | (leave1; walk_say "STEP leave1"; try dsimp only) | fail "no step"))))
    all_goals refine Stop.go ?_
    · rcases hno with rfl | ⟨q, hq, hno⟩
      · (try k_fold)
        k_dflt refine (Spec.use (by k_asm) (by k_asm) (by k_asm) (by k_asm) (by k_asm) (by first | exact rfl | assumption) (request_none (D4.fxs _ S.hW) S.dW (D4.fxs _ S.hTK) S.dTK S.lTK (D4.fxs _ S.hNM) S.dNM S.lNM (.inl ⟨S.unknown, .inr ⟨_, S.vT hn3⟩⟩)) (by ktr_room) (by ktr_units) ?_)
        k_dflt (intro v9 h9 tk9 news9 p9 F8 N8)
        (try dsimp only at F8 N8 ⊢)
        obtain ⟨b2, tb2, ub2, rfl, hb2, sub9⟩ := p9
        (repeat' (first | (k_here; (with_reducible show wpAny _ _ (subscriptTail _ (PySem.Expr.Name (PySem.Str.ofString "name") _) (Value.ref _) (Value.int _ _)) _ _ _); k_dflt (refine name_item (by k_asm) (by k_mem) (by omega) (by omega) ?_); intro nm9Q tnm9Q hnm9Q) | ((with_reducible show wpAny _ _ (compareOp CmpOp.NotEq (Value.ref _) (Value.ref _)) _ _ _); refine stop ?_) | ((with_reducible show wpAny _ _ (compareOp CmpOp.Eq (Value.ref _) (Value.ref _)) _ _ _); refine stop ?_) | ((fail_if_success (with_reducible refine Stop.go ?_)); (first | (k_unfold; (try dsimp only)) | (k_end; wrow_close) | walk1 | (dsimp only; walk1) | (leave1; walk_say "STEP leave1"; try dsimp only) | fail "no step"))))
        refine Stop.go ?_
        (rename News _ _ _ _ => N12)
        refine brk_rc N12 (sub9 _ hb) hb2 (by ktr_units) _ _ _ _ ?_
        (repeat' (first | (k_here; (with_reducible show wpAny _ _ (subscriptTail _ (PySem.Expr.Name (PySem.Str.ofString "name") _) (Value.ref _) (Value.int _ _)) _ _ _); k_dflt (refine name_item (by k_asm) (by k_mem) (by omega) (by omega) ?_); intro nm9Q tnm9Q hnm9Q) | ((with_reducible show wpAny _ _ (compareOp CmpOp.NotEq (Value.ref _) (Value.ref _)) _ _ _); refine stop ?_) | ((with_reducible show wpAny _ _ (compareOp CmpOp.Eq (Value.ref _) (Value.ref _)) _ _ _); refine stop ?_) | ((fail_if_success (with_reducible refine Stop.go ?_)); (first | (k_unfold; (try dsimp only)) | (k_end; wrow_close) | walk1 | (dsimp only; walk1) | (leave1; walk_say "STEP leave1"; try dsimp only) | fail "no step"))))
        k_dflt refine hret _ _ _ _ ⟨rfl, _, D4.mono (by omega) sub9⟩ (by k_asm) (by k_asm)
      · (try k_fold)
        k_dflt refine (Spec.use (by k_asm) (by k_asm) (by k_asm) (by k_asm) (by k_asm) (by first | exact rfl | assumption) (request_spec (D4.fxs _ S.hW) S.dW (D4.fxs _ S.hTK) S.dTK (S.vT hn3) S.lTK (D4.fxs _ S.hNM) S.dNM hq.hv S.lNM (D4.hT _ hn3) (D4.dT _ hn3) (D4.fxs _ (S.tE _ hn3)) (D4.fxs _ hq.hS0) D4.hSD S.lSD D4.hS D4.hat (by have := D4.len; omega) ⟨l2, u2⟩ (D4.st _ hn3) hq.hSd (D4.fxs _ hq.hSdt)) (by ktr_room) (by ktr_units) ?_)
        k_dflt (intro v9 h9 tk9 news9 p9 F8 N8)
        (try dsimp only at F8 N8 ⊢)
        rcases p9 with ⟨_, b2, tb2, ub2, rfl, hb2, sub9⟩ | ⟨hnc, _⟩
        · (repeat' (first | (k_here; (with_reducible show wpAny _ _ (subscriptTail _ (PySem.Expr.Name (PySem.Str.ofString "name") _) (Value.ref _) (Value.int _ _)) _ _ _); k_dflt (refine name_item (by k_asm) (by k_mem) (by omega) (by omega) ?_); intro nm9Q tnm9Q hnm9Q) | ((with_reducible show wpAny _ _ (compareOp CmpOp.NotEq (Value.ref _) (Value.ref _)) _ _ _); refine stop ?_) | ((with_reducible show wpAny _ _ (compareOp CmpOp.Eq (Value.ref _) (Value.ref _)) _ _ _); refine stop ?_) | ((fail_if_success (with_reducible refine Stop.go ?_)); (first | (k_unfold; (try dsimp only)) | (k_end; wrow_close) | walk1 | (dsimp only; walk1) | (leave1; walk_say "STEP leave1"; try dsimp only) | fail "no step"))))
          refine Stop.go ?_
          (rename News _ _ _ _ => N12)
          refine brk_rc N12 (sub9 _ hb) hb2 (by ktr_units) _ _ _ _ ?_
          (repeat' (first | (k_here; (with_reducible show wpAny _ _ (subscriptTail _ (PySem.Expr.Name (PySem.Str.ofString "name") _) (Value.ref _) (Value.int _ _)) _ _ _); k_dflt (refine name_item (by k_asm) (by k_mem) (by omega) (by omega) ?_); intro nm9Q tnm9Q hnm9Q) | ((with_reducible show wpAny _ _ (compareOp CmpOp.NotEq (Value.ref _) (Value.ref _)) _ _ _); refine stop ?_) | ((with_reducible show wpAny _ _ (compareOp CmpOp.Eq (Value.ref _) (Value.ref _)) _ _ _); refine stop ?_) | ((fail_if_success (with_reducible refine Stop.go ?_)); (first | (k_unfold; (try dsimp only)) | (k_end; wrow_close) | walk1 | (dsimp only; walk1) | (leave1; walk_say "STEP leave1"; try dsimp only) | fail "no step"))))
          k_dflt refine hret _ _ _ _ ⟨rfl, _, D4.mono (by omega) sub9⟩ (by k_asm) (by k_asm)
        · exact absurd (hno.resolve_left (by omega)) hnc
    · rcases hno with rfl | ⟨q, hq, _⟩
      · (try k_fold)
        k_dflt refine (Spec.use (by k_asm) (by k_asm) (by k_asm) (by k_asm) (by k_asm) (by first | exact rfl | assumption) (request_none (D4.fxs _ S.hW) S.dW (D4.fxs _ S.hTK) S.dTK S.lTK (D4.fxs _ S.hNM) S.dNM S.lNM (.inl ⟨S.unknown, .inl rfl⟩)) (by ktr_room) (by ktr_units) ?_)
        k_dflt (intro v9 h9 tk9 news9 p9 F8 N8)
        (try dsimp only at F8 N8 ⊢)
        obtain ⟨b2, tb2, ub2, rfl, hb2, sub9⟩ := p9
        (repeat' (first | (k_here; (with_reducible show wpAny _ _ (subscriptTail _ (PySem.Expr.Name (PySem.Str.ofString "name") _) (Value.ref _) (Value.int _ _)) _ _ _); k_dflt (refine name_item (by k_asm) (by k_mem) (by omega) (by omega) ?_); intro nm9Q tnm9Q hnm9Q) | ((with_reducible show wpAny _ _ (compareOp CmpOp.NotEq (Value.ref _) (Value.ref _)) _ _ _); refine stop ?_) | ((with_reducible show wpAny _ _ (compareOp CmpOp.Eq (Value.ref _) (Value.ref _)) _ _ _); refine stop ?_) | ((fail_if_success (with_reducible refine Stop.go ?_)); (first | (k_unfold; (try dsimp only)) | (k_end; wrow_close) | walk1 | (dsimp only; walk1) | (leave1; walk_say "STEP leave1"; try dsimp only) | fail "no step"))))
        refine Stop.go ?_
        (rename News _ _ _ _ => N12)
        refine brk_rc N12 (sub9 _ hb) hb2 (by ktr_units) _ _ _ _ ?_
        (repeat' (first | (k_here; (with_reducible show wpAny _ _ (subscriptTail _ (PySem.Expr.Name (PySem.Str.ofString "name") _) (Value.ref _) (Value.int _ _)) _ _ _); k_dflt (refine name_item (by k_asm) (by k_mem) (by omega) (by omega) ?_); intro nm9Q tnm9Q hnm9Q) | ((with_reducible show wpAny _ _ (compareOp CmpOp.NotEq (Value.ref _) (Value.ref _)) _ _ _); refine stop ?_) | ((with_reducible show wpAny _ _ (compareOp CmpOp.Eq (Value.ref _) (Value.ref _)) _ _ _); refine stop ?_) | ((fail_if_success (with_reducible refine Stop.go ?_)); (first | (k_unfold; (try dsimp only)) | (k_end; wrow_close) | walk1 | (dsimp only; walk1) | (leave1; walk_say "STEP leave1"; try dsimp only) | fail "no step"))))
        k_dflt refine hret _ _ _ _ ⟨rfl, _, D4.mono (by omega) sub9⟩ (by k_asm) (by k_asm)
      · (try k_fold)
        k_dflt refine (Spec.use (by k_asm) (by k_asm) (by k_asm) (by k_asm) (by k_asm) (by first | exact rfl | assumption) (request_none (D4.fxs _ S.hW) S.dW (D4.fxs _ S.hTK) S.dTK S.lTK (D4.fxs _ S.hNM) S.dNM S.lNM (.inr ⟨rfl, _, hq.hv⟩)) (by ktr_room) (by ktr_units) ?_)
        k_dflt (intro v9 h9 tk9 news9 p9 F8 N8)
        (try dsimp only at F8 N8 ⊢)
        obtain ⟨b2, tb2, ub2, rfl, hb2, sub9⟩ := p9
        (repeat' (first | (k_here; (with_reducible show wpAny _ _ (subscriptTail _ (PySem.Expr.Name (PySem.Str.ofString "name") _) (Value.ref _) (Value.int _ _)) _ _ _); k_dflt (refine name_item (by k_asm) (by k_mem) (by omega) (by omega) ?_); intro nm9Q tnm9Q hnm9Q) | ((with_reducible show wpAny _ _ (compareOp CmpOp.NotEq (Value.ref _) (Value.ref _)) _ _ _); refine stop ?_) | ((with_reducible show wpAny _ _ (compareOp CmpOp.Eq (Value.ref _) (Value.ref _)) _ _ _); refine stop ?_) | ((fail_if_success (with_reducible refine Stop.go ?_)); (first | (k_unfold; (try dsimp only)) | (k_end; wrow_close) | walk1 | (dsimp only; walk1) | (leave1; walk_say "STEP leave1"; try dsimp only) | fail "no step"))))
        refine Stop.go ?_
        (rename News _ _ _ _ => N12)
        refine brk_rc N12 (sub9 _ hb) hb2 (by ktr_units) _ _ _ _ ?_
        (repeat' (first | (k_here; (with_reducible show wpAny _ _ (subscriptTail _ (PySem.Expr.Name (PySem.Str.ofString "name") _) (Value.ref _) (Value.int _ _)) _ _ _); k_dflt (refine name_item (by k_asm) (by k_mem) (by omega) (by omega) ?_); intro nm9Q tnm9Q hnm9Q) | ((with_reducible show wpAny _ _ (compareOp CmpOp.NotEq (Value.ref _) (Value.ref _)) _ _ _); refine stop ?_) | ((with_reducible show wpAny _ _ (compareOp CmpOp.Eq (Value.ref _) (Value.ref _)) _ _ _); refine stop ?_) | ((fail_if_success (with_reducible refine Stop.go ?_)); (first | (k_unfold; (try dsimp only)) | (k_end; wrow_close) | walk1 | (dsimp only; walk1) | (leave1; walk_say "STEP leave1"; try dsimp only) | fail "no step"))))
        k_dflt refine hret _ _ _ _ ⟨rfl, _, D4.mono (by omega) sub9⟩ (by k_asm) (by k_asm)
  · (repeat' (first | (k_here; (with_reducible show wpAny _ _ (subscriptTail _ (PySem.Expr.Name (PySem.Str.ofString "name") _) (Value.ref _) (Value.int _ _)) _ _ _); k_dflt (refine name_item (by k_asm) (by k_mem) (by omega) (by omega) ?_); intro nm9Q tnm9Q hnm9Q) | ((with_reducible show wpAny _ _ (compareOp CmpOp.NotEq (Value.ref _) (Value.ref _)) _ _ _); refine stop ?_) | ((with_reducible show wpAny _ _ (compareOp CmpOp.Eq (Value.ref _) (Value.ref _)) _ _ _); refine stop ?_) | ((fail_if_success (with_reducible refine Stop.go ?_)); (first | (k_unfold; (try dsimp only)) | (k_end; wrow_close) | walk1 | (dsimp only; walk1) | (leave1; walk_say "STEP leave1"; try dsimp only) | fail "no step"))))
    all_goals try (exfalso; omega)
    refine Stop.go ?_
    (try k_fold)
    k_dflt refine (Spec.use (by k_asm) (by k_asm) (by k_asm) (by k_asm) (by k_asm) (by first | exact rfl | assumption) (request_spec (M4.fxs _ S.hW) S.dW (M4.fxs _ S.hTK) S.dTK (S.vT hn3) S.lTK (M4.fxs _ S.hNM) S.dNM hq.hv S.lNM (M4.hT _ hn3) (M4.dT _ hn3) (M4.fxs _ (S.tE _ hn3)) (M4.fxs _ hq.hS0) M4.hSD S.lSD M4.hS M4.hat (by have := M4.len; omega) ⟨l2, u2⟩ (M4.st _ hn3) hq.hSd (M4.fxs _ hq.hSdt)) (by ktr_room) (by ktr_units) ?_)
    k_dflt (intro v9 h9 tk9 news9 p9 F8 N8)
    (try dsimp only at F8 N8 ⊢)
    rcases p9 with ⟨hbc, _⟩ | ⟨hnc, rfl, y, oS', hkey, hyu, hSD', hS', hy, keep⟩
    · exact absurd hbc hno
    · have ky := hkey
      unfold SL.key at ky
      simp only [Prod.mk.injEq, List.cons.injEq, and_true] at ky
      obtain ⟨k0, ⟨k1, k2, k3, k4, k5⟩, k6⟩ := ky
      have D9' := mid_slot M4 S N4f hSD' hS' hy keep (cor4 y hkey hyu) (by rw [k0]; exact hn3) (.inl ⟨by rw [k3]; exact hq.hc0, k6⟩)
      (repeat' (first | (k_here; (with_reducible show wpAny _ _ (subscriptTail _ (PySem.Expr.Name (PySem.Str.ofString "name") _) (Value.ref _) (Value.int _ _)) _ _ _); k_dflt (refine name_item (by k_asm) (by k_mem) (by omega) (by omega) ?_); intro nm9Q tnm9Q hnm9Q) | ((with_reducible show wpAny _ _ (compareOp CmpOp.NotEq (Value.ref _) (Value.ref _)) _ _ _); refine stop ?_) | ((with_reducible show wpAny _ _ (compareOp CmpOp.Eq (Value.ref _) (Value.ref _)) _ _ _); refine stop ?_) | ((fail_if_success (with_reducible refine Stop.go ?_)); (first | (k_unfold; (try dsimp only)) | (k_end; wrow_close) | walk1 | (dsimp only; walk1) | (leave1; walk_say "STEP leave1"; try dsimp only) | fail "no step"))))
      k_dflt refine hret _ _ _ _ ⟨rfl, _, D9'⟩ (by k_asm) (by k_asm)
/-! M30a -/
section
variable {prog : Program} {w : World} {A : Around} {E : Value → Shared → Prop} {s : Shared} {h₀ : Heap} {L : Addr} {m : Str → Option Value} {news : Led}
theorem dict_set {K : Type} [DecidableEq K] {knd : KeyKind prog w K} {d : Addr} {o : Obj} {kvs : List (K × Value)} {k : K} {key v : Value} {Q : Unit → Shared → Prop} (F : Fr h₀ L s.heap m) (N : News h₀ L s.heap news) (hm : (d, o) ∈ news) (hd : o.IsDictOf knd kvs) (hkey : knd.is k key = true) (hsz : kvs.length ≤ sizeLine)
    (h : ∀ h' o', Fr h₀ L h' m → News h₀ L h' (setAt d o' news) → o'.IsDictOf knd (stored kvs k v) → Q () { s with heap := h', toks := s.toks + 1 }) : wpAny (model prog w) A (setItem (.ref d) key v) Q E s := by
  refine wpAny_setItem_pairs (hsz := hsz) hkey (Heap.dictOf_iff.mpr ⟨o, (N _ hm).1, hd⟩) fun h' hmm hs => ?_
  obtain ⟨o', ho', hd'⟩ := Heap.dictOf_iff.mp hmm
  exact h h' o' (F.change hs (N _ hm).2.1 (N _ hm).2.2) (led_set N hm hs ho') hd'
theorem cell_ne {nw : Led} (N : FnL nw) {a b : Addr} {o o' : Obj} {v : Option Value} (hc : (a, o) ∈ nw) (hv : o.data = Data.cell v) (hb : (b, o') ∈ nw) (hd : ∃ es ep, o'.data = .dict es ep) : a ≠ b := fun e => by
  subst e
  have := N _ _ _ hc hb
  subst this
  obtain ⟨es, ep, h⟩ := hd
  exact Data.noConfusion (hv.symm.trans h)
theorem dict_data {K : Type} [DecidableEq K] {knd : KeyKind prog w K} {o : Obj} {kvs : List (K × Value)} (h : o.IsDictOf knd kvs) : ∃ es ep, o.data = .dict es ep := let ⟨es, ep, _, hd, _⟩ := h; ⟨es, ep, hd⟩
end
theorem drop_keys {sl : List SL} (nd : (sl.map SL.key).Nodup) (n : Int) : sl.filter (fun y => decide (y.key ∉ (sl.filter fun x => decide (x.n = n)).map SL.key)) = sl.filter fun y => decide (y.n ≠ n) := by
  refine List.filter_congr fun y hy => ?_
  refine decide_eq_decide.mpr ⟨fun h e => h (List.mem_map.mpr ⟨y, List.mem_filter.mpr ⟨hy, decide_eq_true e⟩, rfl⟩), fun h hm => ?_⟩
  obtain ⟨x, hx, e⟩ := List.mem_map.mp hm
  have : x.n = n := of_decide_eq_true (List.mem_filter.mp hx).2
  exact h (by rw [← this]; exact (congrArg Prod.fst e).symm)
theorem drop_step {sl : List SL} {ks : List SK} {x : SL} : dropS (sl.filter fun y => decide (y.key ∉ ks)) x.key = sl.filter fun y => decide (y.key ∉ ks ++ [x.key]) := by
  unfold dropS
  rw [List.filter_filter]
  refine List.filter_congr fun y _ => ?_
  rw [Bool.eq_iff_iff]
  simp only [Bool.and_eq_true, decide_eq_true_eq, List.mem_append, List.mem_singleton, not_or]
  exact And.comm
section
variable {w : World} {fx news nw nw' : Led} {F : SF} {σ : DY} {k : Int}
theorem talk_dyn (D : Mid w fx nw F σ k) (S : Stat w fx F) (N : FnL nw) {n : Int} (hn : n ∈ N3) (t' : TD) {EL' : Addr} {ep' : Nat} {es' : List ES} {sl' : List SL} {oS' : Obj}
    (K : Keep [σ.EL, F.SD, F.b.dB, (F.y n).T, (F.y n).dM] nw nw') (hT' : ((F.y n).T, t'.oT) ∈ nw') (dT' : t'.oT.IsDictOf (sKind w) [(Str.ofString "zone", .int (F.y n).z (F.y n).uz), (Str.ofString "status", .int t'.st t'.us), (Str.ofString "ends", .ref (F.y n).Ed)])
    (hdM' : ((F.y n).dM, TL.mob w { F.y n with st := t'.st, oT := t'.oT, ts := t'.ts, us := t'.us }) ∈ nw') (st' : 0 ≤ t'.st ∧ t'.st < 1024)
    (hdB' : (F.b.dB, BL.obj w { F.b with EL := EL', ep := ep' }) ∈ nw') (hEL' : (EL', PySem.W.listOf (refs es').toArray ep') ∈ nw') (hes' : es'.Sublist σ.es)
    (hSD' : (F.SD, oS') ∈ nw') (hS' : Slots w oS' sl') (hsl' : sl'.Sublist σ.sl) (cor : Cor F.zf es' sl') :
    Dyn w fx nw' F { d := fun m => if m = n then t' else σ.d m, EL := EL', ep := ep', es := es', sl := sl', oS := oS' } (k + 1) := by
  have hC : ∀ a ∈ [σ.EL, F.SD, F.b.dB, (F.y n).T, (F.y n).dM], a ∈ σ.EL :: mu F σ.es := fun a ha => by
    simp only [List.mem_cons, List.not_mem_nil, or_false] at ha
    rcases ha with rfl | rfl | rfl | rfl | rfl
    · exact .head _
    · exact .tail _ (.head _)
    · exact .tail _ (.tail _ (.head _))
    · exact .tail _ (List.mem_append_left _ (Dyn.Tm hn))
    · exact .tail _ (List.mem_append_left _ (Dyn.dMm hn))
  have elmu := D.EL_mu N
  have sub : (mu F es').Sublist (mu F σ.es) := (List.Sublist.refl _).append (hes'.map ES.de)
  have len := D.len
  have hl := hsl'.length_le
  refine ⟨{
    fxs := D.fxk S N hC K
    off := fun p hp hm => D.off p hp (sub.subset hm)
    nd := D.nd.sublist sub
    hT := fun m hm => by
      by_cases c : m = n
      · subst c; show ((F.y m).T, (if m = m then t' else σ.d m).oT) ∈ nw'; rw [if_pos rfl]; exact hT'
      · show ((F.y m).T, (if m = n then t' else σ.d m).oT) ∈ nw'; rw [if_neg c]
        refine K _ (D.hT m hm) ?_
        simp only [List.mem_cons, List.not_mem_nil, or_false, not_or]
        exact ⟨fun e => elmu (e ▸ List.mem_append_left _ (Dyn.Tm hm)), D.SDT hm, D.dBT hm, D.TT hm hn c, D.TdM hm hn⟩
    dT := fun m hm => by
      by_cases c : m = n
      · subst c; show Obj.IsDictOf _ (if m = m then t' else σ.d m).oT [(_, _), (_, .int (if m = m then t' else σ.d m).st (if m = m then t' else σ.d m).us), (_, _)]; rw [if_pos rfl]; exact dT'
      · show Obj.IsDictOf _ (if m = n then t' else σ.d m).oT [(_, _), (_, .int (if m = n then t' else σ.d m).st (if m = n then t' else σ.d m).us), (_, _)]; rw [if_neg c]; exact D.dT m hm
    hdM := fun m hm => by
      by_cases c : m = n
      · subst c
        show ((F.y m).dM, TL.mob w { F.y m with st := (if m = m then t' else σ.d m).st, oT := (if m = m then t' else σ.d m).oT, ts := (if m = m then t' else σ.d m).ts, us := (if m = m then t' else σ.d m).us }) ∈ nw'
        rw [if_pos rfl]; exact hdM'
      · show ((F.y m).dM, TL.mob w { F.y m with st := (if m = n then t' else σ.d m).st, oT := (if m = n then t' else σ.d m).oT, ts := (if m = n then t' else σ.d m).ts, us := (if m = n then t' else σ.d m).us }) ∈ nw'
        rw [if_neg c]
        refine K _ (D.hdM m hm) ?_
        simp only [List.mem_cons, List.not_mem_nil, or_false, not_or]
        exact ⟨fun e => elmu (e ▸ List.mem_append_left _ (Dyn.dMm hm)), D.SDdM hm, D.dBdM hm, Ne.symm (D.TdM hn hm), D.dMdM hm hn c⟩
    st := fun m hm => by
      by_cases c : m = n
      · subst c; show 0 ≤ (if m = m then t' else σ.d m).st ∧ (if m = m then t' else σ.d m).st < 1024; rw [if_pos rfl]; exact st'
      · show 0 ≤ (if m = n then t' else σ.d m).st ∧ (if m = n then t' else σ.d m).st < 1024; rw [if_neg c]; exact D.st m hm
    hdB := hdB'
    hEL := hEL'
    hes := fun e he => D.esk N hC K (hes'.subset he) (by
      have := fun a ha => D.de_ne (a := a) (hes'.subset he) ha
      simp only [List.mem_cons, List.not_mem_nil, or_false, not_or]
      exact ⟨fun e' => elmu (e' ▸ List.mem_append_right _ (List.mem_map.mpr ⟨e, hes'.subset he, rfl⟩)), this _ (.head _), this _ (.tail _ (.head _)), this _ (Dyn.Tm hn), this _ (Dyn.dMm hn)⟩)
    hSD := hSD'
    hS := hS'
    hat := fun x hx => D.slk N hC K (hsl'.subset hx)
    num := fun x hx => D.num x (hsl'.subset hx)
    ser := fun x hx => by rcases D.ser x (hsl'.subset hx) with h | ⟨h1, h2, h3⟩; exact .inl h; exact .inr ⟨h1, h2, by omega⟩
    len := by show (sl'.length : Int) ≤ k + 1; omega }, cor⟩
end
theorem cell_ne2 {nw : Led} (N : FnL nw) {a b : Addr} {o : Obj} {its : Array Value} {n : Nat} {v : Option Value} (hc : (a, o) ∈ nw) (hv : o.data = Data.cell v) (hb : (b, PySem.W.listOf its n) ∈ nw) : a ≠ b := fun e => by
  subst e
  have := N _ _ _ hc hb
  subst this
  exact Data.noConfusion hv
theorem Stat.spec5 {w : World} {fx : Led} {F : SF} (S : Stat w fx F) {nm : Str} (h : nm ∈ [Str.ofString "sip", Str.ofString "ftp", Str.ofString "pptp"]) : ∃ S0 p1 p2 p3 p4 p5 t1 t2 t3 t4 t5, valueAt F.nml nm = some (.ref S0) ∧ (S0, tupO [.int p1 t1, .int p2 t2, .int p3 t3, .int p4 t4, .int p5 t5]) ∈ fx := by
  obtain ⟨i, v, _, hv⟩ := S.known h
  obtain ⟨S0, p1, p2, p3, p4, p5, t1, t2, t3, t4, t5, rfl, hm⟩ := S.sp _ _ hv
  exact ⟨S0, p1, p2, p3, p4, p5, t1, t2, t3, t4, t5, hv, hm⟩
theorem Dyn.fx9 {w : World} {fx news : Led} {F : SF} {σ : DY} {k : Int} (D : Dyn w fx news F σ k) {p : Addr × Obj} (h : p ∈ fx) : p ∈ news := D.fxs p h
theorem put_new {sl : List SL} {y : SL} {k : Int} (hs : Ser k sl) (hk : 0 ≤ k) (hy : y.r = 1 + k) : putS sl y = sl ++ [y] := by
  unfold putS
  rw [if_neg]
  intro h
  obtain ⟨x, hx, e⟩ := List.any_eq_true.mp h
  have e := of_decide_eq_true e
  have er : x.r = y.r := congrArg (fun q : SK => q.2.2) e
  rcases hs x hx with ⟨_, h0⟩ | ⟨_, _, h0⟩ <;> omega
theorem head3_of {h₀ h : Heap} {L a : Addr} {o : Obj} {x y : Addr × Obj} {r : Led} (_ : News h₀ L h (x :: y :: (a, o) :: r)) : ∃ a' : Addr, a' = a := ⟨_, rfl⟩
theorem mem_tail_of {h₀ h : Heap} {L : Addr} {x : Addr × Obj} {r : Led} (_ : News h₀ L h (x :: r)) : ∀ p ∈ r, p ∈ x :: r := fun _ hp => .tail _ hp
/-! M31 -/
theorem turn10_spec {w mean mg mb base} {fx news : Led} {F : SF} {σ : DY} {k rest now : Int} {tw trest tnow tk : Tok} (S : Stat w fx F) (D : Dyn w fx news F σ k) (hk0 : 0 ≤ k) (hk100 : k ≤ 500) (h0 : 0 ≤ rest) :
    Spec 16 w mean mg mb base 218 [.ref F.W, .ref F.MD, .ref F.b.B, .int 10 tw, .int rest trest, .int now tnow, .int (1 + k) tk] news (fun v news' => v = .none ∧ ∃ σ', Dyn w fx news' F σ' (k + 1)) := by
  intro dp un gd cn cs a9 ccd cl outer A₀ h₀ L m h8 g8 d8 T8 os8 Q E B9 F9 X N T hk hd hu hret
  have hlen := D.len
  have hcl := D.cor.length
  have hMD := D.fxs _ S.hMD
  have dMD := S.dMD
  have hW := D.fxs _ S.hW
  have dW := S.dW
  have hTK := D.fxs _ S.hTK
  have dTK := S.dTK
  refine wpAny_call ?_
  k_dflt (refine' code_defC ?k1 ?k2 ?k3 ?k4 ?k5 ?kA ?kF ?kK ?k6 ?k7 ?k8 ?k9 ?kB ?kD ?_ ?c2 ?c3 ?c4; (case kA => exact rfl); (case kF => exact rfl); (case kK => assumption); (case k1 => k_asm); (case k2 => k_asm); (case k3 => k_asm); (case k4 => k_asm); (case k5 => k_asm); (case k6 => k_is); (case k7 => k_is); (case k8 => ktr_room); (case k9 => exact BindsTo.of_eq rfl); (case kB => exact rfl); (case kD => decide +kernel); (case c2 => exact rfl); (case c3 => exact rfl); (case c4 => exact rfl); k_whole; intro g' L' h' tk' cells' FG' F' N' Y' B' X' T' l1; (try k_lt l1); k_cells Y'; (try simp only [List.cons_append, List.nil_append] at N'); (try (have l1a := lt_succ_all l1; have l1b := lt_succ_all l1a; have l1c := lt_succ_all l1b; have l1d := lt_succ_all l1c; have l1e := lt_succ_all l1d; have l1f := lt_succ_all l1e)); (try dsimp only); (try k_lift B'); (try k_fold))
  refine @shut _ _ _ h₀ L m _ _ _ _ _ _ _ _ _ _ _ _ _ _ _ _ _ _ Q _ _ _ _ hret hd hu (by assumption) (fun _ _ h => h) (fun _ _ h => h) fun dp un gd outer A₀ tkS Q E Bw hd hu hret hnext => ?_
  have hG : GDO g8 d8 os8 := trivial
  (repeat' (first | ((with_reducible show wpAny _ _ (eval (Expr.IfExp _ _ _ _) _) _ _ _); refine stop ?_) | ((with_reducible show wpAny _ _ (setAttr (Value.ref _) _ _) _ _ _); refine stop ?_) | ((with_reducible show wpAny _ _ (setItem (Value.ref _) (Value.str _ _) _) _ _ _); refine stop ?_) | ((fail_if_success (with_reducible refine Stop.go ?_)); (first | (k_unfold; (try dsimp only)) | (k_end; wrow_close) | walk1 | (dsimp only; walk1) | (leave1; walk_say "STEP leave1"; try dsimp only) | fail "no step"))))
  refine Stop.go ?_
  (try k_fold)
  k_dflt refine (Spec.use (by k_asm) (by k_asm) (by k_asm) (by k_asm) (by k_asm) (by first | exact rfl | assumption) (digits_spec (bs := [8, 2, 4]) (by k_mem) (by (repeat (first | exact IntsAre.nil | refine IntsAre.cons _ _ ?_))) (by decide) (by decide) h0) (by ktr_room) (by ktr_units) ?_)
  rintro v h' tk news' ⟨l9, ys, rfl, rfl, hys, hl9⟩ F8 N8
  refine digsE3 hys (by decide) (by decide) (by decide) h0 fun who way name t1 t2 t3 l1 u1 l2 u2 l3 u3 ey => ?_
  subst ey
  have t9 : Halt 0 := trivial
  clear hys
  (try k_lt hl9)
  (try dsimp only at F8 N8 ⊢)
  (try k_fold)
  have hn3 : [4, 9, 7].getD (who.fmod 3).toNat 0 ∈ N3 := getD3 _ (by have := Int.fmod_lt_of_pos who (show (0 : Int) < 3 by omega); have := Int.fmod_nonneg_of_pos who (show (0 : Int) < 3 by omega); omega)
  have hvM := S.vM hn3
  have hvT := S.vT hn3
  have hT := D.hT _ hn3
  have dT := D.dT _ hn3
  have hM := D.fxs _ (S.tM _ hn3)
  have hdM := D.hdM _ hn3
  have hst := D.st _ hn3
  (repeat' (first | ((with_reducible show wpAny _ _ (eval (Expr.IfExp _ _ _ _) _) _ _ _); refine stop ?_) | ((with_reducible show wpAny _ _ (setAttr (Value.ref _) _ _) _ _ _); refine stop ?_) | ((with_reducible show wpAny _ _ (setItem (Value.ref _) (Value.str _ _) _) _ _ _); refine stop ?_) | ((fail_if_success (with_reducible refine Stop.go ?_)); (first | (k_unfold; (try dsimp only)) | (k_end; wrow_close) | walk1 | (dsimp only; walk1) | (leave1; walk_say "STEP leave1"; try dsimp only) | fail "no step"))))
  (rename News _ _ _ _ => N5)
  obtain ⟨nwA, eA⟩ := led_of N5
  have subA : ∀ p ∈ news, p ∈ nwA := by rw [eA]; intro p hp; (repeat (first | exact hp | refine List.Mem.tail _ ?_)); done
  have DA := D.mono (Int.le_refl k) subA
  have NA := FnL.of (led_as eA N5)
  have N6 := led_as eA N5
  clear N5 eA
  have f1 := subA _ hM
  have f2 := subA _ hdM
  have orq := or_eq hst.1 hst.2
  refine Stop.go ?_
  k_dflt (refine' set_led ?k1 ?k2 ?k3 ?k4 ?k5 ?k6 ?k7 ?k8 ?k9 ?k10 ?k11 ?k12 ?k13 ?_; (case k1 => k_asm); (case k2 => k_asm); (case k3 => k_asm); (case k4 => k_inst); (case k5 => exact rfl); (case k6 => k_is); (case k7 => k_is); (case k8 => k_is); (case k9 => k_is); (case k10 => k_get); (case k11 => k_put); (case k12 => k_mem); (case k13 => exact Nat.le_of_ble_eq_true rfl); k_whole; intro h' F' N'; (try k_sweep))
  (rename News _ _ _ _ => N7)
  obtain ⟨nwB, eB⟩ := led_of N7
  have N8b := led_as eB N7
  clear N7
  have all1 : ∀ p ∈ nwA, p.1 ≠ (F.y ([4, 9, 7].getD (who.fmod 3).toNat 0)).dM → p ∈ nwB := fun p hp hh => mem_sets eB hp hh
  have g1 := mem_sets_self eB f2
  have hTB := all1 _ (subA _ hT) (D.TdM hn3 hn3)
  clear eB f1 f2
  (repeat' (first | ((with_reducible show wpAny _ _ (eval (Expr.IfExp _ _ _ _) _) _ _ _); refine stop ?_) | ((with_reducible show wpAny _ _ (setAttr (Value.ref _) _ _) _ _ _); refine stop ?_) | ((with_reducible show wpAny _ _ (setItem (Value.ref _) (Value.str _ _) _) _ _ _); refine stop ?_) | ((fail_if_success (with_reducible refine Stop.go ?_)); (first | (k_unfold; (try dsimp only)) | (k_end; wrow_close) | walk1 | (dsimp only; walk1) | (leave1; walk_say "STEP leave1"; try dsimp only) | fail "no step"))))
  refine Stop.go (cut (IsI (if ((σ.d ([4, 9, 7].getD (who.fmod 3).toNat 0)).st.fdiv 8).fmod 2 = 0 then 8 else 0)) ?_ ?_)
  · refine IfExp_ ?_
    (repeat' (first | ((with_reducible show wpAny _ _ (eval (Expr.IfExp _ _ _ _) _) _ _ _); refine stop ?_) | ((with_reducible show wpAny _ _ (setAttr (Value.ref _) _ _) _ _ _); refine stop ?_) | ((with_reducible show wpAny _ _ (setItem (Value.ref _) (Value.str _ _) _) _ _ _); refine stop ?_) | ((fail_if_success (with_reducible refine Stop.go ?_)); (first | (k_unfold; (try dsimp only)) | (k_end; wrow_close) | walk1 | (dsimp only; walk1) | (leave1; walk_say "STEP leave1"; try dsimp only) | fail "no step"))))
    · exact ⟨⟨_, by rw [if_pos (by assumption)]⟩, _, rfl⟩
    · exact ⟨⟨_, by rw [if_neg (by assumption)]⟩, _, rfl⟩
  rintro v9 tk9 ⟨t9, rfl⟩
  (try dsimp only)
  (repeat' (first | ((with_reducible show wpAny _ _ (eval (Expr.IfExp _ _ _ _) _) _ _ _); refine stop ?_) | ((with_reducible show wpAny _ _ (setAttr (Value.ref _) _ _) _ _ _); refine stop ?_) | ((with_reducible show wpAny _ _ (setItem (Value.ref _) (Value.str _ _) _) _ _ _); refine stop ?_) | ((fail_if_success (with_reducible refine Stop.go ?_)); (first | (k_unfold; (try dsimp only)) | (k_end; wrow_close) | walk1 | (dsimp only; walk1) | (leave1; walk_say "STEP leave1"; try dsimp only) | fail "no step"))))
  have e8 : Builtin.bitOr (σ.d ([4, 9, 7].getD (who.fmod 3).toNat 0)).st 8 = (σ.d ([4, 9, 7].getD (who.fmod 3).toNat 0)).st + (if ((σ.d ([4, 9, 7].getD (who.fmod 3).toNat 0)).st.fdiv 8).fmod 2 = 0 then 8 else 0) := orq.2.1
  refine Stop.go ?_
  k_dflt refine dict_set (knd := PySem.strKind _ _) (by k_asm) (by k_asm) (by k_mem) dT (strKind_is _ _ _ _) (by rw [sizeLine_eq]; exact Nat.le_of_ble_eq_true rfl) ?_
  intro h' oT' F' N' dT'
  obtain ⟨nwC, eC⟩ := led_of N'
  have N9 := led_as eC N'
  clear N'
  have all2 : ∀ p ∈ nwB, p.1 ≠ (F.y ([4, 9, 7].getD (who.fmod 3).toNat 0)).T → p ∈ nwC := fun p hp hh => mem_sets eC hp hh
  have cT := mem_sets_self eC hTB
  have cM := all2 _ g1 (Ne.symm (D.TdM hn3 hn3))
  clear eC
  (repeat' (first | ((with_reducible show wpAny _ _ (eval (Expr.IfExp _ _ _ _) _) _ _ _); refine stop ?_) | ((with_reducible show wpAny _ _ (setAttr (Value.ref _) _ _) _ _ _); refine stop ?_) | ((with_reducible show wpAny _ _ (setItem (Value.ref _) (Value.str _ _) _) _ _ _); refine stop ?_) | ((fail_if_success (with_reducible refine Stop.go ?_)); (first | (k_unfold; (try dsimp only)) | (k_end; wrow_close) | walk1 | (dsimp only; walk1) | (leave1; walk_say "STEP leave1"; try dsimp only) | fail "no step"))))
  have K : Keep [σ.EL, F.SD, F.b.dB, (F.y ([4, 9, 7].getD (who.fmod 3).toNat 0)).T, (F.y ([4, 9, 7].getD (who.fmod 3).toNat 0)).dM] nwA nwC := fun p hp hh => by
    simp only [List.mem_cons, List.not_mem_nil, or_false, not_or] at hh
    exact all2 _ (all1 _ hp hh.2.2.2.2) hh.2.2.2.1
  have keep2 : ∀ p ∈ nwA, p.1 ≠ (F.y ([4, 9, 7].getD (who.fmod 3).toNat 0)).dM → p.1 ≠ (F.y ([4, 9, 7].getD (who.fmod 3).toNat 0)).T → p ∈ nwC := fun p hp h1 h2 => all2 _ (all1 _ hp h1) h2
  have elmu := DA.EL_mu NA
  have elM : σ.EL ≠ (F.y ([4, 9, 7].getD (who.fmod 3).toNat 0)).dM := fun e => elmu (e ▸ List.mem_append_left _ (Dyn.dMm hn3))
  have elT : σ.EL ≠ (F.y ([4, 9, 7].getD (who.fmod 3).toNat 0)).T := fun e => elmu (e ▸ List.mem_append_left _ (Dyn.Tm hn3))
  k_dflt refine hnext _ _ _ nwC ⟨rfl, _, talk_dyn DA.toMid S NA hn3 ⟨_, oT', _, _⟩ (es' := σ.es) (sl' := σ.sl) K cT dT' (by rw [← e8]; exact cM) (by rw [← e8]; exact ⟨orq.2.2.2.2, orq.2.2.2.1⟩) (keep2 _ DA.hdB (Ne.symm (D.dBdM hn3)) (Ne.symm (D.dBT hn3))) (keep2 _ DA.hEL elM elT) (List.Sublist.refl _) (keep2 _ DA.hSD (Ne.symm (D.SDdM hn3)) (Ne.symm (D.SDT hn3))) DA.hS (List.Sublist.refl _) DA.cor⟩ (by k_asm) (by k_asm) rfl
/-! M32 -/
theorem turn11_spec {w mean mg mb base} {fx news : Led} {F : SF} {σ : DY} {k rest now : Int} {tw trest tnow tk : Tok} (S : Stat w fx F) (D : Dyn w fx news F σ k) (hk0 : 0 ≤ k) (hk100 : k ≤ 500) (h0 : 0 ≤ rest) :
    Spec 16 w mean mg mb base 218 [.ref F.W, .ref F.MD, .ref F.b.B, .int 11 tw, .int rest trest, .int now tnow, .int (1 + k) tk] news (fun v news' => v = .none ∧ ∃ σ', Dyn w fx news' F σ' (k + 1)) := by
  intro dp un gd cn cs a9 ccd cl outer A₀ h₀ L m h8 g8 d8 T8 os8 Q E B9 F9 X N T hk hd hu hret
  have hlen := D.len
  have hcl := D.cor.length
  have hMD := D.fxs _ S.hMD
  have dMD := S.dMD
  have hW := D.fxs _ S.hW
  have dW := S.dW
  have hTK := D.fxs _ S.hTK
  have dTK := S.dTK
  refine wpAny_call ?_
  k_dflt (refine' code_defC ?k1 ?k2 ?k3 ?k4 ?k5 ?kA ?kF ?kK ?k6 ?k7 ?k8 ?k9 ?kB ?kD ?_ ?c2 ?c3 ?c4; (case kA => exact rfl); (case kF => exact rfl); (case kK => assumption); (case k1 => k_asm); (case k2 => k_asm); (case k3 => k_asm); (case k4 => k_asm); (case k5 => k_asm); (case k6 => k_is); (case k7 => k_is); (case k8 => ktr_room); (case k9 => exact BindsTo.of_eq rfl); (case kB => exact rfl); (case kD => decide +kernel); (case c2 => exact rfl); (case c3 => exact rfl); (case c4 => exact rfl); k_whole; intro g' L' h' tk' cells' FG' F' N' Y' B' X' T' l1; (try k_lt l1); k_cells Y'; (try simp only [List.cons_append, List.nil_append] at N'); (try (have l1a := lt_succ_all l1; have l1b := lt_succ_all l1a; have l1c := lt_succ_all l1b; have l1d := lt_succ_all l1c; have l1e := lt_succ_all l1d; have l1f := lt_succ_all l1e)); (try dsimp only); (try k_lift B'); (try k_fold))
  refine @shut _ _ _ h₀ L m _ _ _ _ _ _ _ _ _ _ _ _ _ _ _ _ _ _ Q _ _ _ _ hret hd hu (by assumption) (fun _ _ h => h) (fun _ _ h => h) fun dp un gd outer A₀ tkS Q E Bw hd hu hret hnext => ?_
  have hG : GDO g8 d8 os8 := trivial
  (repeat' (first | ((with_reducible show wpAny _ _ (eval (Expr.BoolOp _ _ _) _) _ _ _); refine stop ?_) | (k_here; (with_reducible show wpAny _ _ (subscriptTail _ (PySem.Expr.BinOp _ _ _ _) (Value.ref _) (Value.int _ _)) _ _ _); k_dflt (refine name3_item (by k_asm) (by k_mem) (by omega) (by omega) ?_); intro nm9Q tnm9Q hnm9Q; obtain ⟨S9Q, p1Q, p2Q, p3Q, p4Q, p5Q, s1Q, s2Q, s3Q, s4Q, s5Q, hv9Q, hS9Q⟩ := Stat.spec5 (by assumption) hnm9Q; have hS8Q := Dyn.fx9 (by assumption) hS9Q) | ((with_reducible show wpAny _ _ (call (Value.builtin _) [Value.ref _, Value.ref _]) _ _ _); refine stop ?_) | ((with_reducible show wpAny _ _ (setItem (Value.ref _) (Value.ref _) _) _ _ _); refine stop ?_) | ((fail_if_success (with_reducible refine Stop.go ?_)); (first | (k_unfold; (try dsimp only)) | (k_end; wrow_close) | walk1 | (dsimp only; walk1) | (leave1; walk_say "STEP leave1"; try dsimp only) | fail "no step"))))
  refine Stop.go ?_
  (try k_fold)
  k_dflt refine (Spec.use (by k_asm) (by k_asm) (by k_asm) (by k_asm) (by k_asm) (by first | exact rfl | assumption) (digits_spec (bs := [8, 2, 4]) (by k_mem) (by (repeat (first | exact IntsAre.nil | refine IntsAre.cons _ _ ?_))) (by decide) (by decide) h0) (by ktr_room) (by ktr_units) ?_)
  rintro v h' tk news' ⟨l9, ys, rfl, rfl, hys, hl9⟩ F8 N8
  refine digsE3 hys (by decide) (by decide) (by decide) h0 fun who way name t1 t2 t3 l1 u1 l2 u2 l3 u3 ey => ?_
  subst ey
  clear hys
  (try k_lt hl9)
  (try dsimp only at F8 N8 ⊢)
  (try k_fold)
  have hn3 : [4, 9, 7].getD (who.fmod 3).toNat 0 ∈ N3 := getD3 _ (by have := Int.fmod_lt_of_pos who (show (0 : Int) < 3 by omega); have := Int.fmod_nonneg_of_pos who (show (0 : Int) < 3 by omega); omega)
  have hvM := S.vM hn3
  have hvT := S.vT hn3
  have hT := D.hT _ hn3
  have dT := D.dT _ hn3
  have hM := D.fxs _ (S.tM _ hn3)
  have hdM := D.hdM _ hn3
  have hst := D.st _ hn3
  have hNM := D.fxs _ S.hNM
  have dNM := S.dNM
  have hEd := D.fxs _ (S.tE _ hn3)
  have hTh := D.fxs _ (S.tT _ hn3)
  have hB := D.fxs _ S.hB
  have hdB := D.hdB
  have hEL := D.hEL
  have hSD := D.hSD
  have hfit : (refs σ.es).toArray.size ≤ 100000 := by simp; omega
  have NW := FnL.of N
  have hf1 := Int.fmod_lt_of_pos name (show (0 : Int) < 3 by omega)
  have hf2 := Int.fmod_nonneg_of_pos name (show (0 : Int) < 3 by omega)
  obtain ⟨Sd, sa, sb, sc, sd, se, sf, ta, tb, tc, td, te, tf, hSd, hSdt⟩ : ∃ (Sd : Addr) (sa sb sc sd se sf : Int) (ta tb tc td te tf : Tok), Sd = (if 1 - way = 0 then (F.y ([4, 9, 7].getD (who.fmod 3).toNat 0)).Th else (F.y ([4, 9, 7].getD (who.fmod 3).toNat 0)).Ba) ∧ (Sd, tupO [.int sa ta, .int sb tb, .int sc tc, .int sd td, .int se te, .int sf tf]) ∈ news := by
    by_cases c : 1 - way = 0
    · exact ⟨_, _, _, _, _, _, _, _, _, _, _, _, _, by rw [if_pos c], hTh⟩
    · exact ⟨_, _, _, _, _, _, _, _, _, _, _, _, _, by rw [if_neg c], D.fxs _ (S.tB _ hn3)⟩
  (repeat' (first | ((with_reducible show wpAny _ _ (eval (Expr.BoolOp _ _ _) _) _ _ _); refine stop ?_) | (k_here; (with_reducible show wpAny _ _ (subscriptTail _ (PySem.Expr.BinOp _ _ _ _) (Value.ref _) (Value.int _ _)) _ _ _); k_dflt (refine name3_item (by k_asm) (by k_mem) (by omega) (by omega) ?_); intro nm9Q tnm9Q hnm9Q; obtain ⟨S9Q, p1Q, p2Q, p3Q, p4Q, p5Q, s1Q, s2Q, s3Q, s4Q, s5Q, hv9Q, hS9Q⟩ := Stat.spec5 (by assumption) hnm9Q; have hS8Q := Dyn.fx9 (by assumption) hS9Q) | ((with_reducible show wpAny _ _ (call (Value.builtin _) [Value.ref _, Value.ref _]) _ _ _); refine stop ?_) | ((with_reducible show wpAny _ _ (setItem (Value.ref _) (Value.ref _) _) _ _ _); refine stop ?_) | ((fail_if_success (with_reducible refine Stop.go ?_)); (first | (k_unfold; (try dsimp only)) | (k_end; wrow_close) | walk1 | (dsimp only; walk1) | (leave1; walk_say "STEP leave1"; try dsimp only) | fail "no step"))))
  refine Stop.go (cut (fun v => ∃ (x : Int) (t : Tok), v = .int x t) ?_ ?_)
  · refine BoolOp_or ?_
    (repeat' (first | ((with_reducible show wpAny _ _ (eval (Expr.BoolOp _ _ _) _) _ _ _); refine stop ?_) | (k_here; (with_reducible show wpAny _ _ (subscriptTail _ (PySem.Expr.BinOp _ _ _ _) (Value.ref _) (Value.int _ _)) _ _ _); k_dflt (refine name3_item (by k_asm) (by k_mem) (by omega) (by omega) ?_); intro nm9Q tnm9Q hnm9Q; obtain ⟨S9Q, p1Q, p2Q, p3Q, p4Q, p5Q, s1Q, s2Q, s3Q, s4Q, s5Q, hv9Q, hS9Q⟩ := Stat.spec5 (by assumption) hnm9Q; have hS8Q := Dyn.fx9 (by assumption) hS9Q) | ((with_reducible show wpAny _ _ (call (Value.builtin _) [Value.ref _, Value.ref _]) _ _ _); refine stop ?_) | ((with_reducible show wpAny _ _ (setItem (Value.ref _) (Value.ref _) _) _ _ _); refine stop ?_) | ((fail_if_success (with_reducible refine Stop.go ?_)); (first | (k_unfold; (try dsimp only)) | (k_end; wrow_close) | walk1 | (dsimp only; walk1) | (leave1; walk_say "STEP leave1"; try dsimp only) | fail "no step"))))
    all_goals try (refine Stop.go ?_; refine BoolOp_one ?_; (repeat' (first | ((with_reducible show wpAny _ _ (eval (Expr.BoolOp _ _ _) _) _ _ _); refine stop ?_) | (k_here; (with_reducible show wpAny _ _ (subscriptTail _ (PySem.Expr.BinOp _ _ _ _) (Value.ref _) (Value.int _ _)) _ _ _); k_dflt (refine name3_item (by k_asm) (by k_mem) (by omega) (by omega) ?_); intro nm9Q tnm9Q hnm9Q; obtain ⟨S9Q, p1Q, p2Q, p3Q, p4Q, p5Q, s1Q, s2Q, s3Q, s4Q, s5Q, hv9Q, hS9Q⟩ := Stat.spec5 (by assumption) hnm9Q; have hS8Q := Dyn.fx9 (by assumption) hS9Q) | ((with_reducible show wpAny _ _ (call (Value.builtin _) [Value.ref _, Value.ref _]) _ _ _); refine stop ?_) | ((with_reducible show wpAny _ _ (setItem (Value.ref _) (Value.ref _) _) _ _ _); refine stop ?_) | ((fail_if_success (with_reducible refine Stop.go ?_)); (first | (k_unfold; (try dsimp only)) | (k_end; wrow_close) | walk1 | (dsimp only; walk1) | (leave1; walk_say "STEP leave1"; try dsimp only) | fail "no step")))))
    all_goals exact ⟨⟨_, _, rfl⟩, _, rfl⟩
  rintro v9 tk9 ⟨x9, t9, rfl⟩
  (try dsimp only)
  (repeat' (first | ((with_reducible show wpAny _ _ (eval (Expr.BoolOp _ _ _) _) _ _ _); refine stop ?_) | (k_here; (with_reducible show wpAny _ _ (subscriptTail _ (PySem.Expr.BinOp _ _ _ _) (Value.ref _) (Value.int _ _)) _ _ _); k_dflt (refine name3_item (by k_asm) (by k_mem) (by omega) (by omega) ?_); intro nm9Q tnm9Q hnm9Q; obtain ⟨S9Q, p1Q, p2Q, p3Q, p4Q, p5Q, s1Q, s2Q, s3Q, s4Q, s5Q, hv9Q, hS9Q⟩ := Stat.spec5 (by assumption) hnm9Q; have hS8Q := Dyn.fx9 (by assumption) hS9Q) | ((with_reducible show wpAny _ _ (call (Value.builtin _) [Value.ref _, Value.ref _]) _ _ _); refine stop ?_) | ((with_reducible show wpAny _ _ (setItem (Value.ref _) (Value.ref _) _) _ _ _); refine stop ?_) | ((fail_if_success (with_reducible refine Stop.go ?_)); (first | (k_unfold; (try dsimp only)) | (k_end; wrow_close) | walk1 | (dsimp only; walk1) | (leave1; walk_say "STEP leave1"; try dsimp only) | fail "no step"))))
  refine Stop.go ?_
  (rename News _ _ _ _ => N5)
  (rename Fr _ _ _ _ => F5)
  dsimp only at N5 F5
  obtain ⟨xe, e1⟩ := head_of N5
  subst e1
  obtain ⟨xd, e1⟩ := head2_of N5
  subst e1
  obtain ⟨xt, e1⟩ := head3_of N5
  subst e1
  k_dflt refine append_led F5 N5 (by k_mem) hfit ?_
  intro h' F' N'
  obtain ⟨nwA, eA⟩ := led_of N5
  have NL := FnL.of (led_as eA N5)
  obtain ⟨nwB, eB⟩ := led_of N'
  have N6 := led_as eB N'
  have MB := mid_append D.toMid S NW (x := ⟨xe, xd, xt, ([4, 9, 7].getD (who.fmod 3).toNat 0), _, _, _, _, _, _, _, _, _, _, _, _, _, _, _, _, _, _, _⟩) (by intro p hp; (repeat (first | exact hp | refine List.Mem.tail _ ?_)); done) (tail_lt (by assumption) (fun p hp => hp)) (by first | exact head_lt (by assumption) | ((try dsimp only); assumption)) (by first | exact head_lt (by assumption) | ((try dsimp only); assumption)) eB
  rw [← eA] at eB
  have mA := mem_of_led eA
  obtain ⟨m1, mA⟩ := List.forall_mem_cons.mp mA
  obtain ⟨m2, mA⟩ := List.forall_mem_cons.mp mA
  obtain ⟨m3, mA⟩ := List.forall_mem_cons.mp mA
  obtain ⟨m4, mA⟩ := List.forall_mem_cons.mp mA
  obtain ⟨m5, mA⟩ := List.forall_mem_cons.mp mA
  obtain ⟨m6, mA⟩ := List.forall_mem_cons.mp mA
  obtain ⟨m7, mA⟩ := List.forall_mem_cons.mp mA
  obtain ⟨m8, mA⟩ := List.forall_mem_cons.mp mA
  have cne := cell_ne2 NL m8 (by assumption) (mA _ hEL)
  have cB := mem_sets eB m8 cne
  have tB := (MB.hes _ (List.mem_append_right _ (List.mem_singleton.mpr rfl))).tup
  have hSDB := MB.hSD
  clear eA eB N5 N' m1 m2 m3 m4 m5 m6 m7 m8
  (repeat' (first | ((with_reducible show wpAny _ _ (eval (Expr.BoolOp _ _ _) _) _ _ _); refine stop ?_) | (k_here; (with_reducible show wpAny _ _ (subscriptTail _ (PySem.Expr.BinOp _ _ _ _) (Value.ref _) (Value.int _ _)) _ _ _); k_dflt (refine name3_item (by k_asm) (by k_mem) (by omega) (by omega) ?_); intro nm9Q tnm9Q hnm9Q; obtain ⟨S9Q, p1Q, p2Q, p3Q, p4Q, p5Q, s1Q, s2Q, s3Q, s4Q, s5Q, hv9Q, hS9Q⟩ := Stat.spec5 (by assumption) hnm9Q; have hS8Q := Dyn.fx9 (by assumption) hS9Q) | ((with_reducible show wpAny _ _ (call (Value.builtin _) [Value.ref _, Value.ref _]) _ _ _); refine stop ?_) | ((with_reducible show wpAny _ _ (setItem (Value.ref _) (Value.ref _) _) _ _ _); refine stop ?_) | ((fail_if_success (with_reducible refine Stop.go ?_)); (first | (k_unfold; (try dsimp only)) | (k_end; wrow_close) | walk1 | (dsimp only; walk1) | (leave1; walk_say "STEP leave1"; try dsimp only) | fail "no step"))))
  refine Stop.go ?_
  (rename News _ _ _ _ => N7)
  obtain ⟨k1, e1⟩ := head_of N7
  subst e1
  have NB := FnL.of N7
  have MB2 := MB.mono (Int.le_refl k) (mem_tail_of N7)
  k_dflt refine slot_set (y := ⟨k1, xt, ([4, 9, 7].getD (who.fmod 3).toNat 0), _, _, _, _, _, 1 + k, _, _, _, _, _, _, _, _, _⟩) (by k_asm) (by k_asm) (by k_mem) MB.hS (fun x hx => (MB.hat x hx).mono fun p hp => .tail _ hp) ⟨List.Mem.head _, List.Mem.tail _ tB⟩ (by ktr_units) (by have := D.len; show σ.sl.length ≤ 100000; omega) ?_
  intro h' tk oS' F' N' S' y'
  obtain ⟨nwC, eC⟩ := led_of N'
  have N9 := led_as eC N'
  have hSDC := mem_sets_self eC (List.Mem.tail _ MB.hSD)
  have keepC := fun (p : Addr × Obj) (hp : p ∈ _) (hh : p.1 ≠ F.SD) => mem_sets (p := p) eC hp hh
  rw [← eC] at y'
  clear N' eC N7
  have D9 := mid_slot MB2 S NB hSDC S' y' keepC (by rw [put_new D.ser hk0 rfl]; exact D.cor.snoc ⟨rfl, rfl, rfl, rfl, rfl, rfl, rfl, rfl⟩) hn3 (.inr ⟨rfl, by show 1 ≤ 1 + k; omega, by show 1 + k ≤ k + 1; omega⟩)
  (repeat' (first | ((with_reducible show wpAny _ _ (eval (Expr.BoolOp _ _ _) _) _ _ _); refine stop ?_) | (k_here; (with_reducible show wpAny _ _ (subscriptTail _ (PySem.Expr.BinOp _ _ _ _) (Value.ref _) (Value.int _ _)) _ _ _); k_dflt (refine name3_item (by k_asm) (by k_mem) (by omega) (by omega) ?_); intro nm9Q tnm9Q hnm9Q; obtain ⟨S9Q, p1Q, p2Q, p3Q, p4Q, p5Q, s1Q, s2Q, s3Q, s4Q, s5Q, hv9Q, hS9Q⟩ := Stat.spec5 (by assumption) hnm9Q; have hS8Q := Dyn.fx9 (by assumption) hS9Q) | ((with_reducible show wpAny _ _ (call (Value.builtin _) [Value.ref _, Value.ref _]) _ _ _); refine stop ?_) | ((with_reducible show wpAny _ _ (setItem (Value.ref _) (Value.ref _) _) _ _ _); refine stop ?_) | ((fail_if_success (with_reducible refine Stop.go ?_)); (first | (k_unfold; (try dsimp only)) | (k_end; wrow_close) | walk1 | (dsimp only; walk1) | (leave1; walk_say "STEP leave1"; try dsimp only) | fail "no step"))))
  k_dflt refine hnext _ _ _ nwC ⟨rfl, _, D9⟩ (by k_asm) (by k_asm) rfl
/-! M33 -/
theorem turn9_spec {w mean mg mb base} {fx news : Led} {F : SF} {σ : DY} {k rest now : Int} {tw trest tnow tk : Tok} (S : Stat w fx F) (D : Dyn w fx news F σ k) (hk0 : 0 ≤ k) (hk100 : k ≤ 500) (h0 : 0 ≤ rest) :
    Spec 16 w mean mg mb base 218 [.ref F.W, .ref F.MD, .ref F.b.B, .int 9 tw, .int rest trest, .int now tnow, .int (1 + k) tk] news (fun v news' => v = .none ∧ ∃ σ', Dyn w fx news' F σ' (k + 1)) := by
  intro dp un gd cn cs a9 ccd cl outer A₀ h₀ L m h8 g8 d8 T8 os8 Q E B9 F9 X N T hk hd hu hret
  have hlen := D.len
  have hcl := D.cor.length
  have hMD := D.fxs _ S.hMD
  have dMD := S.dMD
  have hW := D.fxs _ S.hW
  have dW := S.dW
  have hTK := D.fxs _ S.hTK
  have dTK := S.dTK
  refine wpAny_call ?_
  k_dflt (refine' code_defC ?k1 ?k2 ?k3 ?k4 ?k5 ?kA ?kF ?kK ?k6 ?k7 ?k8 ?k9 ?kB ?kD ?_ ?c2 ?c3 ?c4; (case kA => exact rfl); (case kF => exact rfl); (case kK => assumption); (case k1 => k_asm); (case k2 => k_asm); (case k3 => k_asm); (case k4 => k_asm); (case k5 => k_asm); (case k6 => k_is); (case k7 => k_is); (case k8 => ktr_room); (case k9 => exact BindsTo.of_eq rfl); (case kB => exact rfl); (case kD => decide +kernel); (case c2 => exact rfl); (case c3 => exact rfl); (case c4 => exact rfl); k_whole; intro g' L' h' tk' cells' FG' F' N' Y' B' X' T' l1; (try k_lt l1); k_cells Y'; (try simp only [List.cons_append, List.nil_append] at N'); (try (have l1a := lt_succ_all l1; have l1b := lt_succ_all l1a; have l1c := lt_succ_all l1b; have l1d := lt_succ_all l1c; have l1e := lt_succ_all l1d; have l1f := lt_succ_all l1e)); (try dsimp only); (try k_lift B'); (try k_fold))
  refine @shut _ _ _ h₀ L m _ _ _ _ _ _ _ _ _ _ _ _ _ _ _ _ _ _ Q _ _ _ _ hret hd hu (by assumption) (fun _ _ h => h) (fun _ _ h => h) fun dp un gd outer A₀ tkS Q E Bw hd hu hret hnext => ?_
  have hG : GDO g8 d8 os8 := trivial
  (repeat' (first | ((with_reducible show wpAny _ _ (delItem (Value.ref _) (Value.ref _)) _ _ _); refine stop ?_) | ((with_reducible show wpAny _ _ (setItem (Value.ref _) (Value.str _ _) _) _ _ _); refine stop ?_) | ((fail_if_success (with_reducible refine Stop.go ?_)); (first | (k_unfold; (try dsimp only)) | (k_end; wrow_close) | walk1 | (dsimp only; walk1) | (leave1; walk_say "STEP leave1"; try dsimp only) | fail "no step"))))
  refine Stop.go ?_
  (try k_fold)
  k_dflt refine (Spec.use (by k_asm) (by k_asm) (by k_asm) (by k_asm) (by k_asm) (by first | exact rfl | assumption) (digits_spec (bs := [8, 2, 4]) (by k_mem) (by (repeat (first | exact IntsAre.nil | refine IntsAre.cons _ _ ?_))) (by decide) (by decide) h0) (by ktr_room) (by ktr_units) ?_)
  rintro v h' tk news' ⟨l9, ys, rfl, rfl, hys, hl9⟩ F8 N8
  refine digsE3 hys (by decide) (by decide) (by decide) h0 fun who way name t1 t2 t3 l1 u1 l2 u2 l3 u3 ey => ?_
  subst ey
  clear hys
  (try k_lt hl9)
  (try dsimp only at F8 N8 ⊢)
  (try k_fold)
  have hn3 : [4, 9, 7].getD (who.fmod 3).toNat 0 ∈ N3 := getD3 _ (by have := Int.fmod_lt_of_pos who (show (0 : Int) < 3 by omega); have := Int.fmod_nonneg_of_pos who (show (0 : Int) < 3 by omega); omega)
  have hvM := S.vM hn3
  have hvT := S.vT hn3
  have hT := D.hT _ hn3
  have dT := D.dT _ hn3
  have hM := D.fxs _ (S.tM _ hn3)
  have hdM := D.hdM _ hn3
  have hst := D.st _ hn3
  have hSD := D.hSD
  have lSD := S.lSD
  have etn := S.tn _ hn3
  (repeat' (first | ((with_reducible show wpAny _ _ (delItem (Value.ref _) (Value.ref _)) _ _ _); refine stop ?_) | ((with_reducible show wpAny _ _ (setItem (Value.ref _) (Value.str _ _) _) _ _ _); refine stop ?_) | ((fail_if_success (with_reducible refine Stop.go ?_)); (first | (k_unfold; (try dsimp only)) | (k_end; wrow_close) | walk1 | (dsimp only; walk1) | (leave1; walk_say "STEP leave1"; try dsimp only) | fail "no step"))))
  (rename News _ _ _ _ => N5)
  (rename Fr _ _ _ _ => F5)
  obtain ⟨nwA, eA⟩ := led_of N5
  have subA : ∀ p ∈ news, p ∈ nwA := by rw [eA]; intro p hp; (repeat (first | exact hp | refine List.Mem.tail _ ?_)); done
  have DA := D.mono (Int.le_refl k) subA
  have NA := FnL.of (led_as eA N5)
  have N6 := led_as eA N5
  have mA := mem_of_led eA
  obtain ⟨m1, mA⟩ := List.forall_mem_cons.mp mA
  obtain ⟨m2, mA⟩ := List.forall_mem_cons.mp mA
  obtain ⟨m3, mA⟩ := List.forall_mem_cons.mp mA
  obtain ⟨m4, mA⟩ := List.forall_mem_cons.mp mA
  have elen := DA.cor.length
  have orq := or_eq hst.1 hst.2
  clear N5 eA
  refine Stop.go ?_
  (try k_fold)
  k_dflt refine (Spec.use (by k_asm) F5 (by k_asm) N6 (by k_asm) (by first | exact rfl | assumption) (drop_spec (bk := F.bk σ) (x := F.x σ ([4, 9, 7].getD (who.fmod 3).toNat 0)) (DA.bk S) (DA.tl S hn3) DA.hEL DA.hes (by omega) (DA.dBdM hn3)) (by ktr_room) (by ktr_units) ?_)
  k_dflt (intro v9 h9 tk9 nwB p9 F8 N8)
  obtain ⟨rfl, EL', ep', ts', hEL', hdB', hdM', keep⟩ := p9
  (try dsimp only at F8 N8 ⊢)
  (try k_fold)
  have NB := FnL.of N8
  have cne1 := cell_ne NA m4 (by assumption) DA.hdB ⟨_, _, rfl⟩
  have cne2 := cell_ne NA m4 (by assumption) (DA.hdM _ hn3) ⟨_, _, rfl⟩
  have cne3 := cell_ne NA m4 (by assumption) (DA.hT _ hn3) (dict_data dT)
  have cne4 := cell_ne NA m4 (by assumption) DA.hSD (let ⟨es, ep, h, _⟩ := DA.hS.dat; ⟨es, ep, h⟩)
  have cB := keep _ m4 cne1 cne2
  have hTB := keep _ (DA.hT _ hn3) (DA.dBT hn3) (DA.TdM hn3 hn3)
  have hSDB := keep _ DA.hSD (Ne.symm DA.SDdB) (Ne.symm (DA.SDdM hn3))
  have hC2 : ∀ a ∈ [F.b.dB, (F.y ([4, 9, 7].getD (who.fmod 3).toNat 0)).dM], a ∈ σ.EL :: mu F σ.es := fun a ha => by
    simp only [List.mem_cons, List.not_mem_nil, or_false] at ha
    rcases ha with rfl | rfl
    · exact .tail _ (.tail _ (.head _))
    · exact .tail _ (List.mem_append_left _ (Dyn.dMm hn3))
  have K2 : Keep [F.b.dB, (F.y ([4, 9, 7].getD (who.fmod 3).toNat 0)).dM] nwA nwB := fun p hp hh => by
    simp only [List.mem_cons, List.not_mem_nil, or_false, not_or] at hh
    exact keep p hp hh.1 hh.2
  have hatB : ∀ x ∈ σ.sl, x.At nwB := fun x hx => DA.toMid.slk NA hC2 K2 hx
  have EL'ne : EL' ≠ F.SD ∧ EL' ≠ (F.y ([4, 9, 7].getD (who.fmod 3).toNat 0)).T := ⟨fn_ne NB hEL' hSDB (by rw [DA.hS.ex.1]; exact fun e => absurd (show Value.type "list" = Value.type "dict" from e) (by decide)), fn_ne NB hEL' hTB (by rw [(dT).choose_spec.choose_spec.1.1]; exact fun e => absurd (show Value.type "list" = Value.type "dict" from e) (by decide))⟩
  clear m1 m2 m3 m4
  (repeat' (first | ((with_reducible show wpAny _ _ (delItem (Value.ref _) (Value.ref _)) _ _ _); refine stop ?_) | ((with_reducible show wpAny _ _ (setItem (Value.ref _) (Value.str _ _) _) _ _ _); refine stop ?_) | ((fail_if_success (with_reducible refine Stop.go ?_)); (first | (k_unfold; (try dsimp only)) | (k_end; wrow_close) | walk1 | (dsimp only; walk1) | (leave1; walk_say "STEP leave1"; try dsimp only) | fail "no step"))))
  refine Stop.go ?_
  (rename News _ _ _ _ => N7)
  (rename Fr _ _ _ _ => F7)
  k_dflt refine dict_set (knd := PySem.strKind _ _) F7 N7 (by k_mem) dT (strKind_is _ _ _ _) (by rw [sizeLine_eq]; exact Nat.le_of_ble_eq_true rfl) ?_
  intro h' oT' F' N' dT'
  obtain ⟨nwC, eC⟩ := led_of N'
  have N9 := led_as eC N'
  clear N' N7
  have all3 : ∀ p ∈ nwB, p.1 ≠ (F.y ([4, 9, 7].getD (who.fmod 3).toNat 0)).T → p ∈ nwC := fun p hp hh => mem_sets eC hp hh
  have cT := mem_sets_self eC hTB
  have cC := all3 _ cB cne3
  have hSDC := all3 _ hSDB (Ne.symm (DA.SDT hn3))
  have hatC : ∀ x ∈ σ.sl, x.At nwC := fun x hx => ⟨all3 _ (hatB x hx).hk (fn_ne NB (hatB x hx).hk hTB (by rw [(dT).choose_spec.choose_spec.1.1]; exact tup_ne_dict)), all3 _ (hatB x hx).hb (fn_ne NB (hatB x hx).hb hTB (by rw [(dT).choose_spec.choose_spec.1.1]; exact tup_ne_dict))⟩
  have hdBC := all3 _ hdB' (Ne.symm (DA.dBT hn3))
  have hdMC := all3 _ hdM' (Ne.symm (DA.TdM hn3 hn3))
  have hELC := all3 _ hEL' EL'ne.2
  clear eC
  (try dsimp only at F' N9 ⊢)
  (try k_fold)
  (repeat' (first | ((with_reducible show wpAny _ _ (delItem (Value.ref _) (Value.ref _)) _ _ _); refine stop ?_) | ((with_reducible show wpAny _ _ (setItem (Value.ref _) (Value.str _ _) _) _ _ _); refine stop ?_) | ((fail_if_success (with_reducible refine Stop.go ?_)); (first | (k_unfold; (try dsimp only)) | (k_end; wrow_close) | walk1 | (dsimp only; walk1) | (leave1; walk_say "STEP leave1"; try dsimp only) | fail "no step"))))
  refine Stop.go ?_
  have NC := FnL.of N9
  have tupSD : ∀ p ∈ nwC, p.2.cls = .type "tuple" → p.1 ≠ F.SD := fun p hp hc => fn_ne NC hp hSDC (by rw [hc, DA.hS.ex.1]; exact tup_ne_dict)
  obtain ⟨es9, ep9, src9, size9, keys9⟩ := DA.hS.src (SD := F.SD) hSDC
  (rename Fr _ _ _ _ => F2)
  refine For_L F2 rfl rfl ?_
  (repeat' (first | ((with_reducible show wpAny _ _ (delItem (Value.ref _) (Value.ref _)) _ _ _); refine stop ?_) | ((with_reducible show wpAny _ _ (setItem (Value.ref _) (Value.str _ _) _) _ _ _); refine stop ?_) | ((fail_if_success (with_reducible refine Stop.go ?_)); (first | (k_unfold; (try dsimp only)) | (k_end; wrow_close) | walk1 | (dsimp only; walk1) | (leave1; walk_say "STEP leave1"; try dsimp only) | fail "no step"))))
  refine Stop.go ?_
  (rename Fr _ _ _ _ => F3)
  k_dflt (refine ListComp_fT F3 (by with_unfolding_all rfl) (by decide) (by rfl) (by decide) (by rfl) ?_)
  (repeat' (first | ((with_reducible show wpAny _ _ (delItem (Value.ref _) (Value.ref _)) _ _ _); refine stop ?_) | ((with_reducible show wpAny _ _ (setItem (Value.ref _) (Value.str _ _) _) _ _ _); refine stop ?_) | ((fail_if_success (with_reducible refine Stop.go ?_)); (first | (k_unfold; (try dsimp only)) | (k_end; wrow_close) | walk1 | (dsimp only; walk1) | (leave1; walk_say "STEP leave1"; try dsimp only) | fail "no step"))))
  refine Stop.go ?_
  k_dflt (refine compAt_dict (by rfl) lSD (by k_asm) (by k_asm) (es := es9) (ep := ep9) ?_ (by rw [sizeLine_eq, size9]; omega) ?_)
  · exact src9
  intro g9
  rw [size9]
  refine filter_rest σ.sl (fun x => .ref x.k) (fun x => decide (x.n = ([4, 9, 7].getD (who.fmod 3).toNat 0))) (by rfl) (by rfl) (by decide) ?_ ?_ ?_ ?_
  · rintro i v ⟨e, he, rfl⟩ a ha
    exact keys9 i e he a ha
  · exact src9
  · intro x I oI C oC D m₂ h tk ys hx hN hxv F9 N9 off ne
    have hk9 := (hatC x hx).hk
    (repeat' (first | ((with_reducible show wpAny _ _ (delItem (Value.ref _) (Value.ref _)) _ _ _); refine stop ?_) | ((with_reducible show wpAny _ _ (setItem (Value.ref _) (Value.str _ _) _) _ _ _); refine stop ?_) | ((fail_if_success (with_reducible refine Stop.go ?_)); (first | (k_unfold; (try dsimp only)) | (k_end; wrow_close) | walk1 | (dsimp only; walk1) | (leave1; walk_say "STEP leave1"; try dsimp only) | fail "no step"))))
    all_goals first
      | exact F9
      | exact N9
      | (symm; rw [decide_eq_true_eq]; assumption)
      | (symm; rw [decide_eq_false_iff_not]; assumption)
  (unfold LCg.FinE); intro D' h' tk' F' N' o1'; (try simp only [List.nil_append, List.cons_append] at N'); (try dsimp only at F' N' ⊢); (try k_fold)
  generalize hfl : (σ.sl.filter fun x => decide (x.n = ([4, 9, 7].getD (who.fmod 3).toNat 0))) = fl at N'
  have flsub : ∀ x ∈ fl, x ∈ σ.sl := fun x hx => (List.mem_filter.mp (hfl ▸ hx)).1
  have flnd : (fl.map SL.key).Nodup := by rw [← hfl]; exact DA.hS.nd.sublist (List.filter_sublist.map _)
  have DSD : D' ≠ F.SD := led_ne N' (.head _) (.tail _ hSDC) (by rw [DA.hS.ex.1]; exact fun e => absurd (show Value.type "list" = Value.type "dict" from e) (by decide))
  refine ⟨D', (fl.map fun x => Value.ref x.k).toArray, _, _, fun i m nw => m (Str.ofString "slots") = some (.ref F.SD) ∧ (∀ p ∈ nwC, p.1 ≠ F.SD → p ∈ nw) ∧ (D', LCg.lst (fl.map fun x => Value.ref x.k)) ∈ nw ∧ ∃ oS1, (F.SD, oS1) ∈ nw ∧ Slots w oS1 (σ.sl.filter fun y => decide (y.key ∉ (fl.take i).map SL.key)),
    rfl, rfl, F', N', .inr ⟨_, .head _, rfl, _, rfl⟩, ⟨by with_unfolding_all rfl, fun p hp _ => .tail _ hp, .head _, σ.oS, .tail _ hSDC, ?_⟩, ?_, ?_⟩
  · have e0 : (σ.sl.filter fun y => decide (y.key ∉ ([] : List SL).map SL.key)) = σ.sl := List.filter_eq_self.mpr fun x _ => by simp
    show Slots w σ.oS (σ.sl.filter fun y => decide (y.key ∉ ([] : List SL).map SL.key))
    rw [e0]; exact DA.hS
  · rintro i v m₁ news₁ h tk I oI hv hJ9 S9 off F₁ N₁
    refine and4 hJ9 fun j1 sub hD q39 => ?_
    obtain ⟨oS1, hS1, hSl⟩ := q39
    (try dsimp only)
    have hi : i < fl.length := by have := (Array.getElem?_eq_some_iff.mp hv).1; simpa using this
    have hx : fl[i]? = some fl[i] := List.getElem?_eq_getElem hi
    have hve : v = .ref fl[i].k := by
      rw [List.getElem?_toArray, List.getElem?_map, hx] at hv
      exact (Option.some.inj hv).symm
    have htake : (fl.take (i + 1)).map SL.key = (fl.take i).map SL.key ++ [fl[i].key] := by rw [List.take_add_one, hx, List.map_append]; rfl
    have hmem : fl[i] ∈ fl := List.getElem_mem hi
    have hnot : fl[i].key ∉ (fl.take i).map SL.key := by
      intro hm
      obtain ⟨q, hq, e⟩ := List.mem_map.mp hm
      obtain ⟨j, hj⟩ := List.mem_iff_getElem?.mp hq
      have hji : j < i := by
        have := (List.getElem?_eq_some_iff.mp hj).1
        rw [List.length_take] at this; omega
      have hj' : fl[j]? = some q := by rw [List.getElem?_take] at hj; rw [if_pos hji] at hj; exact hj
      have h1 : (fl.map SL.key)[j]? = some fl[i].key := by rw [List.getElem?_map, hj', ← e]; rfl
      have h2 : (fl.map SL.key)[i]? = some fl[i].key := by rw [List.getElem?_map, hx]; rfl
      have := (List.getElem?_inj (by simpa using (by omega : j < fl.length)) flnd).mp (h1.trans h2.symm)
      omega
    subst hve
    generalize fl[i] = x at *
    have hatn : ∀ y ∈ σ.sl, y.At news₁ := fun y hy => ⟨sub _ (hatC y hy).hk (tupSD _ (hatC y hy).hk rfl), sub _ (hatC y hy).hb (tupSD _ (hatC y hy).hb rfl)⟩
    have hk9 := (hatn x (flsub x hmem)).hk
    (repeat' (first | ((with_reducible show wpAny _ _ (delItem (Value.ref _) (Value.ref _)) _ _ _); refine stop ?_) | ((with_reducible show wpAny _ _ (setItem (Value.ref _) (Value.str _ _) _) _ _ _); refine stop ?_) | ((fail_if_success (with_reducible refine Stop.go ?_)); (first | (k_unfold; (try dsimp only)) | (k_end; wrow_close) | walk1 | (dsimp only; walk1) | (leave1; walk_say "STEP leave1"; try dsimp only) | fail "no step"))))
    refine Stop.go ?_
    (rename News _ _ _ _ => N7)
    (rename Fr _ _ _ _ => F7)
    k_dflt refine slot_del (x := x) F7 N7 (.tail _ hS1) hSl (fun y hy => (hatn y (List.mem_filter.mp hy).1).mono fun p hp => .tail _ hp) (List.mem_filter.mpr ⟨flsub x hmem, decide_eq_true hnot⟩) ((hatn x (flsub x hmem)).mono fun p hp => .tail _ hp) (by ktr_units) (by have := List.length_filter_le (fun y : SL => decide (y.key ∉ (fl.take i).map SL.key)) σ.sl; omega) ?_
    intro h' tk oS2 F' N' S'
    rw [drop_step, ← htake] at S'
    obtain ⟨nwD, eD⟩ := led_of N'
    have N8 := led_as eD N'
    clear N' N7 F7
    have SDI : F.SD ≠ I := off _ hS1
    have DI : D' ≠ I := off _ hD
    have hI := mem_sets eD (List.Mem.head _) (Ne.symm SDI)
    have c1 := mem_offOf (d := I) (mem_sets eD (.tail _ hD) DSD) DI
    have c2 := mem_offOf (d := I) (mem_sets_self eD (.tail _ hS1)) SDI
    have sub' : ∀ p ∈ nwC, p.1 ≠ F.SD → p ∈ offOf I nwD := fun p hp hh => mem_offOf (mem_sets eD (.tail _ (sub p hp hh)) hh) (off p (sub p hp hh))
    clear eD
    (try dsimp only at F' N8 ⊢)
    (try k_fold)
    (repeat' (first | ((with_reducible show wpAny _ _ (delItem (Value.ref _) (Value.ref _)) _ _ _); refine stop ?_) | ((with_reducible show wpAny _ _ (setItem (Value.ref _) (Value.str _ _) _) _ _ _); refine stop ?_) | ((fail_if_success (with_reducible refine Stop.go ?_)); (first | (k_unfold; (try dsimp only)) | (k_end; wrow_close) | walk1 | (dsimp only; walk1) | (leave1; walk_say "STEP leave1"; try dsimp only) | fail "no step"))))
    (rename Fr _ _ _ _ => F9); (rename News _ _ _ _ => N9)
    refine TurnV.next (news' := offOf I nwD) F9 (led_rot N9 hI) led_off ⟨⟨by with_unfolding_all exact j1, sub', c1, oS2, c2, S'⟩, .inr ⟨_, c1, rfl, _, rfl⟩⟩
  · rintro h tk m' news' F' N' hJ9
    refine and4 hJ9 fun j1 sub hD q39 => ?_
    obtain ⟨oS1, hS1, hSl⟩ := q39
    (try dsimp only)
    have hSl' : Slots w oS1 (σ.sl.filter fun y => decide (y.n ≠ ([4, 9, 7].getD (who.fmod 3).toNat 0))) := by
      have e1 : (fl.map fun x => Value.ref x.k).toArray.size = fl.length := by simp
      rw [e1, List.take_length, ← hfl, drop_keys DA.hS.nd] at hSl
      exact hSl
    (repeat' (first | ((with_reducible show wpAny _ _ (delItem (Value.ref _) (Value.ref _)) _ _ _); refine stop ?_) | ((with_reducible show wpAny _ _ (setItem (Value.ref _) (Value.str _ _) _) _ _ _); refine stop ?_) | ((fail_if_success (with_reducible refine Stop.go ?_)); (first | (k_unfold; (try dsimp only)) | (k_end; wrow_close) | walk1 | (dsimp only; walk1) | (leave1; walk_say "STEP leave1"; try dsimp only) | fail "no step"))))
    have K : Keep [σ.EL, F.SD, F.b.dB, (F.y ([4, 9, 7].getD (who.fmod 3).toNat 0)).T, (F.y ([4, 9, 7].getD (who.fmod 3).toNat 0)).dM] nwA news' := fun p hp hh => by
      simp only [List.mem_cons, List.not_mem_nil, or_false, not_or] at hh
      exact sub _ (all3 _ (keep p hp hh.2.2.1 hh.2.2.2.2) hh.2.2.2.1) hh.2.1
    k_dflt refine hnext _ _ _ news' ⟨rfl, _, talk_dyn (EL' := EL') (ep' := ep') (es' := σ.es.filter fun e => decide (e.n ≠ (F.x σ ([4, 9, 7].getD (who.fmod 3).toNat 0)).n)) DA.toMid S NA hn3 ⟨_, oT', _, _⟩ K (sub _ cT (DA.SDT hn3)) dT' (by rw [← orq.1]; exact sub _ hdMC (DA.SDdM hn3)) ⟨by have := Int.fmod_nonneg_of_pos (σ.d ([4, 9, 7].getD (who.fmod 3).toNat 0)).st (show (0 : Int) < 512 by omega); show 0 ≤ (σ.d ([4, 9, 7].getD (who.fmod 3).toNat 0)).st.fmod 512 + 512; omega, orq.2.2.1⟩ (sub _ hdBC DA.SDdB) (sub _ hELC EL'ne.1) List.filter_sublist hS1 hSl' List.filter_sublist (DA.cor.filter (fun e => decide (e.n ≠ (F.x σ ([4, 9, 7].getD (who.fmod 3).toNat 0)).n)) (fun y => decide (y.n ≠ ([4, 9, 7].getD (who.fmod 3).toNat 0))) fun e x s => by show decide (e.n ≠ (F.y ([4, 9, 7].getD (who.fmod 3).toNat 0)).n) = decide (x.n ≠ ([4, 9, 7].getD (who.fmod 3).toNat 0)); rw [s.n, etn])⟩ (by k_asm) (by k_asm) rfl
/-! M34a -/
section
variable {prog : Program} {w : World} {A : Around} {s : Shared} {env : Env} {h₀ : Heap}
/-- what a for over range(n) wants behind its iterable -/
inductive ForRG (prog : Program) (w : World) (A : Around) (h₀ : Heap) (env : Env) (x : Str) (body : List Stmt) (Q : Flow → Shared → Prop) (xv : Value) (s₁ : Shared) : Prop
  | mk (r : Addr) (a b : Int) (t u v : Tok) (n : Nat) (m : Str → Option Value) (news : Led) (J : Nat → (Str → Option Value) → Led → Prop) (z0 : xv = .ref r) (z1 : A.handled = none) (z2 : Fr h₀ env.locals s₁.heap m) (z3 : News h₀ env.locals s₁.heap news) (z4 : IsRange s₁.heap r a b 1 t u v) (z5 : Builtin.Range.small a b 1 = true) (z6 : Builtin.Range.rangeSize a b 1 = ((n : Nat) : Int)) (z7 : J 0 m news) (z8 : (∀ i t m₁ news₁ h tk I oI, i < n → oI.cls = .type "range_iterator" → J i m₁ news₁ → (∀ p ∈ news₁, p.1 ≠ I) → Fr h₀ env.locals h (fun y => if y = x then some (.int (a + (i : Int)) t) else m₁ y) → News h₀ env.locals h ((I, oI) :: news₁) → wpAny (model prog w) A (execs body env) (TurnV h₀ env.locals (fun m' nw' => J (i + 1) m' nw' ∧ True) I oI { s₁ with heap := h, toks := tk } Q) (fun _ _ => False) { s₁ with heap := h, toks := tk })) (z9 : ∀ h tk m' news', Fr h₀ env.locals h m' → News h₀ env.locals h news' → J n m' news' → Q .next { s₁ with heap := h, toks := tk }) : ForRG prog w A h₀ env x body Q xv s₁
theorem For_RG {E : Value → Shared → Prop} {Q : Flow → Shared → Prop} {x : Str} {px pos : Pos} {iter : Expr} {body : List Stmt} {m₀ : Str → Option Value} (_F : Fr h₀ env.locals s.heap m₀) (hx : env.kindOf x = some .local)
    (hp : (env.scope.kind == .class || (env.scope.kind == .module && env.locals != env.globals)) = false)
    (h : wpAny (model prog w) A (eval iter env) (ForRG prog w A h₀ env x body Q) (fun _ _ => False) s)
    (hs : ∀ x, foldedSetIterable iter env x = pure x := by intro _; rfl) :
    wpAny (model prog w) A (exec (.For (.Name x px) iter body [] pos) env) Q E s := by
  refine wpAny_noRaise (wpAny_For (wpAny_mono h (fun xv s₁ h₁ => ?_) fun _ _ e => e) hs)
  obtain ⟨r, a, b, t, u, v, n, m, news, J, rfl, hh, F, N, hr, hsm, hn, h0, step, done⟩ := h₁
  refine wpAny_pyIter_range hr hsm ?_
  have hLlt : env.locals < s₁.heap.objs.size := F.ns.lt
  refine forLoop_ledG (G := fun o => o.cls = .type "range_iterator") (R := fun r s' => match r with | .ok f => Q f s' | .error e => cameBackBy (model prog w) A env (fun _ _ => False) e s') (S := fun _ => True)
    (LCg.range_walks hh a n) (fun i h st => ⟨_, st, rfl⟩) LCg.range_st hx hp ?_ (next_is_new F) (fun p hp => Nat.ne_of_lt (Heap.lt_size (N p hp).1))
    (by show IsRangeIter _ _ _ _ _; rw [hn]; simpa using Heap.get?_push_size _ rfl) (F.keeps fun _ _ e => Heap.get?_push_of_some _ e) (N.grown fun _ _ e => Heap.get?_push_of_some _ e) trivial J h0 ?_ ?_
  · intro hm
    exact absurd hLlt ((List.mem_singleton.mp hm) ▸ Nat.lt_irrefl _)
  · rintro i v m₁ news₁ h tk oI hlt hG ⟨t, rfl⟩ hJ _ hoff F₁ N₁
    exact step i t m₁ news₁ h tk _ oI hlt hG hJ hoff F₁ N₁
  · intro h' tk m' news' F' N' hJ
    exact done h' tk m' news' F' N' hJ

end
section
variable {w : World} {fx nw nw' : Led} {F : SF} {σ : DY} {k : Int} {I : Addr} {oI : Obj}
theorem Stat.cons (S : Stat w fx F) (hc : oI.cls = .type "range_iterator") : Stat w ((I, oI) :: fx) F :=
  { S with
    hW := .tail _ S.hW, hTK := .tail _ S.hTK, hNM := .tail _ S.hNM, hMD := .tail _ S.hMD, hOD := .tail _ S.hOD
    hoat := fun x hx => .tail _ (S.hoat x hx)
    hom := S.hom.mono fun p hp _ => .tail _ hp
    zv := let ⟨c, t0, t1, t2, t3, t4, e, h⟩ := S.zv; ⟨c, t0, t1, t2, t3, t4, e, .tail _ h⟩
    hB := .tail _ S.hB
    htb := S.htb.imp fun _ h => .tail _ h
    htk := S.htk.imp fun _ h => .tail _ h
    hfl := S.hfl.imp fun _ h => .tail _ h
    tE := fun n hn => .tail _ (S.tE n hn)
    tT := fun n hn => .tail _ (S.tT n hn)
    tB := fun n hn => .tail _ (S.tB n hn)
    tM := fun n hn => .tail _ (S.tM n hn)
    sp := fun nm v h => let ⟨a, b, c, d, e, f, g, i, j, l, m, n, o⟩ := S.sp nm v h; ⟨a, b, c, d, e, f, g, i, j, l, m, n, .tail _ o⟩
    fxl := fun p hp => by
      rcases List.mem_cons.mp hp with rfl | hp
      · rw [hc]; decide
      · exact S.fxl p hp }
theorem Dyn.cons (D : Dyn w fx nw F σ k) (off : ∀ p ∈ nw, p.1 ≠ I) (sub : ∀ p ∈ (I, oI) :: nw, p ∈ nw') : Dyn w ((I, oI) :: fx) nw' F σ k := by
  have D' := D.mono (Int.le_refl k) (fun p hp => sub p (.tail _ hp))
  exact ⟨{ D'.toMid with
    fxs := fun p hp => by
      rcases List.mem_cons.mp hp with rfl | hp
      · exact sub _ (.head _)
      · exact D'.fxs p hp
    off := fun p hp hm => by
      rcases List.mem_cons.mp hp with rfl | hp
      · obtain ⟨o, h, _⟩ := D.mu_dict _ hm
        exact off _ h rfl
      · exact D'.off p hp hm }, D'.cor⟩
theorem Dyn.offI (D : Dyn w ((I, oI) :: fx) nw F σ k) (N : FnL nw) (hc : oI.cls = .type "range_iterator") (hfx : ∀ p ∈ fx, p.1 ≠ I) : Dyn w fx (offOf I nw) F σ k := by
  have hI : (I, oI) ∈ nw := D.fxs _ (.head _)
  have kp : ∀ p ∈ nw, p.2.cls ≠ .type "range_iterator" → p ∈ offOf I nw := fun p hp h => mem_offOf hp (fn_ne N hp hI (by rw [hc]; exact h))
  have di : ∀ (a : Addr) (o : Obj), (a, o) ∈ nw → o.cls = .type "dict" → (a, o) ∈ offOf I nw := fun a o h e => kp _ h (by rw [e]; decide)
  have tp : ∀ (a : Addr) (o : Obj), (a, o) ∈ nw → o.cls = .type "tuple" → (a, o) ∈ offOf I nw := fun a o h e => kp _ h (by rw [e]; decide)
  exact ⟨{
    fxs := fun p hp => mem_offOf (D.fxs p (.tail _ hp)) (hfx p hp)
    off := fun p hp => D.off p (.tail _ hp)
    nd := D.nd
    hT := fun n hn => di _ _ (D.hT n hn) (D.dT n hn).choose_spec.choose_spec.1.1
    dT := D.dT
    hdM := fun n hn => di _ _ (D.hdM n hn) rfl
    st := D.st
    hdB := di _ _ D.hdB rfl
    hEL := kp _ D.hEL (fun e => absurd (show Value.type "list" = Value.type "range_iterator" from e) (by decide))
    hes := fun e he => ⟨kp _ (D.hes e he).inst (fun h => Value.noConfusion h), di _ _ (D.hes e he).dict rfl, tp _ _ (D.hes e he).tup rfl⟩
    hSD := di _ _ D.hSD D.hS.ex.1
    hS := D.hS
    hat := fun x hx => ⟨tp _ _ (D.hat x hx).hk rfl, tp _ _ (D.hat x hx).hb rfl⟩
    num := D.num
    ser := D.ser
    len := D.len }, D.cor⟩
end
/-! M34b -/
abbrev nms3 : List Str := [Str.ofString "sip", Str.ofString "ftp", Str.ofString "pptp"]
set_option genInjectivity false in
set_option genSizeOf false in
/-- the setup, after i turns -/
structure PR where
  oTK : Obj
  oNM : Obj
  oMD : Obj
  y : Int → TL
  nml : List (Str × Value)
structure Pre (w : World) (nw : Led) (W TK NM SD MD : Addr) (oW oS : Obj) (i : Nat) (P : PR) : Prop where
  hW : (W, oW) ∈ nw
  dW : oW.IsDictOf (sKind w) [(Str.ofString "talks", .ref TK), (Str.ofString "names", .ref NM), (Str.ofString "slots", .ref SD)]
  hTK : (TK, P.oTK) ∈ nw
  dTK : P.oTK.IsDictOf (intKind Challenge.rw_pf0335_01.row.prog w) ((N3.take i).map fun n => (n, .ref (P.y n).T))
  lTK : (TK == sysModules) = false
  hNM : (NM, P.oNM) ∈ nw
  dNM : P.oNM.IsDictOf (sKind w) P.nml
  lNM : (NM == sysModules) = false
  hMD : (MD, P.oMD) ∈ nw
  dMD : P.oMD.IsDictOf (intKind Challenge.rw_pf0335_01.row.prog w) ((N3.take i).map fun n => (n, .ref (P.y n).M))
  lMD : (MD == sysModules) = false
  hSD : (SD, oS) ∈ nw
  dSD : ∃ n, oS = dictOf [] n
  lSD : (SD == sysModules) = false
  tl : ∀ n ∈ N3.take i, (P.y n).At w nw ∧ (P.y n).n = n
  nn : P.nml.map (·.1) = nms3.take i
  sp : ∀ nm v, valueAt P.nml nm = some v → Tup5 v nw
  nd : ([W, TK, NM, SD, MD] ++ ((N3.take i).map fun n => (P.y n).T) ++ ((N3.take i).map fun n => (P.y n).dM)).Nodup
theorem list_at {h : Heap} {a : Addr} {v : Array Value} (_ : h.IsList a v) : ∃ a' : Addr, a' = a := ⟨_, rfl⟩
theorem ints_at {vs : List Value} {ns : List Int} (_ : IntsAre vs ns) : ∃ (v' : List Value) (n' : List Int), v' = vs ∧ n' = ns := ⟨_, _, rfl, rfl⟩
theorem no_ints : IntsAre [] [] := .nil
def tl0 : TL := ⟨0, 0, 0, 0, 0, 0, 0, 0, 0, tupO [], 0, 0, 0, 0, 0, 0, 0, 0, 0, 0, 0, 0, 0, 0, 0, 0, 0, 0, 0, 0, 0, 0, 0, 0, 0, 0, 0, 0, 0, 0, 0, 0, 0, 0, 0, 0, 0, 0, 0, 0, 0, 0, 0, 0, 0⟩
theorem mem_cls {l : Led} {p : Addr × Obj} (h : p ∈ l) : p ∈ l := h
theorem range_at {h : Heap} {r : Addr} {a b c : Int} {t u v : Tok} (_ : IsRange h r a b c t u v) : ∃ b' : Int, b' = b := ⟨_, rfl⟩
/-! M34c -/
abbrev R6 (y : Int → TL) : List Addr := [(y 4).T, (y 9).T, (y 7).T, (y 4).dM, (y 9).dM, (y 7).dM]
theorem mem_R6 {y : Int → TL} {a : Addr} (h : a ∈ R6 y) : ∃ n ∈ N3, a = (y n).T ∨ a = (y n).dM :=
  (List.mem_cons.mp h).elim (fun e => ⟨4, .head _, .inl e⟩) fun h => (List.mem_cons.mp h).elim (fun e => ⟨9, .tail _ (.head _), .inl e⟩) fun h =>
  (List.mem_cons.mp h).elim (fun e => ⟨7, .tail _ (.tail _ (.head _)), .inl e⟩) fun h => (List.mem_cons.mp h).elim (fun e => ⟨4, .head _, .inr e⟩) fun h =>
  (List.mem_cons.mp h).elim (fun e => ⟨9, .tail _ (.head _), .inr e⟩) fun h => ⟨7, .tail _ (.tail _ (.head _)), .inr (List.mem_singleton.mp h)⟩
theorem TL.At.mono {w : World} {nw nw' : Led} {x : TL} (a : x.At w nw) (sub : ∀ p ∈ nw, p ∈ nw') : x.At w nw' :=
  ⟨sub _ a.hT, a.dT, sub _ a.hEd, sub _ a.hTh, sub _ a.hBa, sub _ a.hM, sub _ a.hdM, a.lT, a.st0, a.st1, a.p2, a.q2⟩
theorem five_ne {a b c d e : Addr} (h : [a, b, c, d, e].Nodup) : a ≠ d ∧ b ≠ d ∧ c ≠ d ∧ e ≠ d :=
  have h1 := List.nodup_cons.mp h; have h2 := List.nodup_cons.mp h1.2; have h3 := List.nodup_cons.mp h2.2; have h4 := List.nodup_cons.mp h3.2
  ⟨fun q => h1.1 (q ▸ .tail _ (.tail _ (.head _))), fun q => h2.1 (q ▸ .tail _ (.head _)), fun q => h3.1 (q ▸ .head _), fun q => h4.1 (q ▸ .head _)⟩
theorem start {w : World} {nw₀ nw8 : Led} {Wd TK NM SD MD OD : Addr} {oW oS oO : Obj} {P : PR} {bk : BL} {ol : List OL} {z : OL}
    (hP : Pre w nw₀ Wd TK NM SD MD oW oS 3 P) (sub : ∀ p ∈ nw₀, p ∈ nw8) (N : FnL nw8)
    (hB : (bk.B, instObj 53 bk.dB) ∈ nw8) (hdB : (bk.dB, bk.obj w) ∈ nw8) (htb : ∃ n, (bk.tb, dictOf [] n) ∈ nw8) (htk : ∃ n, (bk.tk, dictOf [] n) ∈ nw8) (hfl : ∃ n, (bk.fl, dictOf [] n) ∈ nw8)
    (ltb : (bk.tb == sysModules) = false) (ltk : (bk.tk == sysModules) = false) (lfl : (bk.fl == sysModules) = false) (x1 : bk.dB ≠ bk.fl) (x2 : bk.dB ≠ bk.tk) (x3 : bk.dB ≠ bk.tb)
    (hEL : (bk.EL, PySem.W.listOf #[] bk.ep) ∈ nw8) (fdB : ∀ p ∈ nw₀, p.1 ≠ bk.dB) (ftb : ∀ p ∈ nw₀, p.1 ≠ bk.tb) (ftk : ∀ p ∈ nw₀, p.1 ≠ bk.tk) (ffl : ∀ p ∈ nw₀, p.1 ≠ bk.fl)
    (hOD : (OD, oO) ∈ nw8) (lOD : (OD == sysModules) = false) (hO : Objs w oO (ol ++ [z])) (hoat : ∀ x ∈ ol ++ [z], x.At nw8) (hom : OMade nw8 P.nml ol) (zk : z.key = [Str.ofString "limit", Str.ofString "irc"]) (zv : IsCnt nw8 6667 9000 z.v)
    (fOD : ∀ p ∈ nw₀, p.1 ≠ OD) (xOD : OD ≠ bk.dB) :
    ∃ fx F σ, F.W = Wd ∧ F.MD = MD ∧ F.OD = OD ∧ F.NM = NM ∧ F.b.B = bk.B ∧ Stat w fx F ∧ Dyn w fx nw8 F σ 0 := by
  let M : List Addr := SD :: bk.dB :: R6 P.y
  have tl : ∀ n ∈ N3, (P.y n).At w nw8 ∧ (P.y n).n = n := fun n hn => ⟨(hP.tl n hn).1.mono sub, (hP.tl n hn).2⟩
  obtain ⟨nS, eS⟩ := hP.dSD
  have mud : ∀ a ∈ M, ∃ o, (a, o) ∈ nw8 ∧ o.cls = .type "dict" := fun a ha => by
    rcases List.mem_cons.mp ha with rfl | ha
    · exact ⟨_, sub _ hP.hSD, by rw [eS]⟩
    rcases List.mem_cons.mp ha with rfl | ha
    · exact ⟨_, hdB, rfl⟩
    · obtain ⟨n, hn, rfl | rfl⟩ := mem_R6 ha
      · exact ⟨_, (tl n hn).1.hT, (tl n hn).1.dT.choose_spec.choose_spec.1.1⟩
      · exact ⟨_, (tl n hn).1.hdM, rfl⟩
  let fx : Led := nw8.filter fun p => decide (p.1 ∉ M ∧ p.2.cls ≠ .type "list")
  have mk : ∀ p ∈ nw8, p.1 ∉ M → p.2.cls ≠ .type "list" → p ∈ fx := fun p hp h1 h2 => List.mem_filter.mpr ⟨hp, decide_eq_true ⟨h1, h2⟩⟩
  have nondict : ∀ p ∈ nw8, p.2.cls ≠ .type "dict" → p.2.cls ≠ .type "list" → p ∈ fx := fun p hp h1 h2 => mk p hp (fun hm => by
    obtain ⟨o, h3, h4⟩ := mud _ hm
    exact fn_ne N hp h3 (by rw [h4]; exact h1) rfl) h2
  have tup : ∀ p ∈ nw8, p.2.cls = .type "tuple" → p ∈ fx := fun p hp h => nondict p hp (by rw [h]; decide) (by rw [h]; decide)
  have dct : ∀ p ∈ nw8, p.2.cls = .type "dict" → p.1 ∉ M → p ∈ fx := fun p hp h h2 => mk p hp h2 (by rw [h]; decide)
  have nd : ([Wd, TK, NM, SD, MD] ++ R6 P.y).Nodup := hP.nd
  obtain ⟨nd5, ndR, dis⟩ := List.nodup_append.mp nd
  obtain ⟨w3, t3, n3, m3⟩ := five_ne nd5
  have dbR : bk.dB ∉ R6 P.y := fun h => by
    obtain ⟨n, hn, e | e⟩ := mem_R6 h
    · exact fdB _ (hP.tl n hn).1.hT e.symm
    · exact fdB _ (hP.tl n hn).1.hdM e.symm
  have notM : ∀ a ∈ [Wd, TK, NM, SD, MD], a ≠ SD → a ≠ bk.dB → a ∉ M := fun a ha h1 h2 hm =>
    (List.mem_cons.mp hm).elim h1 fun hm => (List.mem_cons.mp hm).elim h2 fun hm => dis a ha a hm rfl
  have new : ∀ a : Addr, (∀ p ∈ nw₀, p.1 ≠ a) → a ≠ bk.dB → a ∉ M := fun a h1 h2 hm =>
    (List.mem_cons.mp hm).elim (fun e => h1 _ hP.hSD e.symm) fun hm => (List.mem_cons.mp hm).elim h2 fun hm => by
      obtain ⟨n, hn, e | e⟩ := mem_R6 hm
      · exact h1 _ (hP.tl n hn).1.hT e.symm
      · exact h1 _ (hP.tl n hn).1.hdM e.symm
  refine ⟨fx, ⟨Wd, TK, NM, SD, MD, OD, oW, P.oTK, P.oNM, P.oMD, oO, bk, P.y, P.nml, ol, z⟩, ⟨fun n => ⟨(P.y n).st, (P.y n).oT, (P.y n).ts, (P.y n).us⟩, bk.EL, bk.ep, [], [], oS⟩, rfl, rfl, rfl, rfl, rfl, {
    hW := dct _ (sub _ hP.hW) hP.dW.choose_spec.choose_spec.1.1 (notM _ (.head _) w3 (fdB _ hP.hW))
    dW := hP.dW
    hTK := dct _ (sub _ hP.hTK) hP.dTK.choose_spec.choose_spec.1.1 (notM _ (.tail _ (.head _)) t3 (fdB _ hP.hTK))
    dTK := hP.dTK
    lTK := hP.lTK
    hNM := dct _ (sub _ hP.hNM) hP.dNM.choose_spec.choose_spec.1.1 (notM _ (.tail _ (.tail _ (.head _))) n3 (fdB _ hP.hNM))
    dNM := hP.dNM
    lNM := hP.lNM
    hMD := dct _ (sub _ hP.hMD) hP.dMD.choose_spec.choose_spec.1.1 (notM _ (.tail _ (.tail _ (.tail _ (.tail _ (.head _))))) m3 (fdB _ hP.hMD))
    dMD := hP.dMD
    lMD := hP.lMD
    hOD := dct _ hOD hO.ex.1 (new _ fOD xOD)
    lOD := lOD
    hO := hO
    hoat := fun x hx => tup _ (hoat x hx) rfl
    hom := hom.mono fun p hp hc => tup p hp hc
    zk := zk
    zv := let ⟨c, t0, t1, t2, t3, t4, e, h⟩ := zv; ⟨c, t0, t1, t2, t3, t4, e, tup _ h rfl⟩
    lSD := hP.lSD
    hB := nondict _ hB (fun e => Value.noConfusion e) (fun e => Value.noConfusion e)
    htb := htb.imp fun _ h => dct _ h rfl (new _ ftb (Ne.symm x3))
    htk := htk.imp fun _ h => dct _ h rfl (new _ ftk (Ne.symm x2))
    hfl := hfl.imp fun _ h => dct _ h rfl (new _ ffl (Ne.symm x1))
    ltb := ltb
    ltk := ltk
    lfl := lfl
    tn := fun n hn => (tl n hn).2
    tE := fun n hn => tup _ (tl n hn).1.hEd rfl
    tT := fun n hn => tup _ (tl n hn).1.hTh rfl
    tB := fun n hn => tup _ (tl n hn).1.hBa rfl
    tM := fun n hn => nondict _ (tl n hn).1.hM (fun e => Value.noConfusion e) (fun e => Value.noConfusion e)
    tl := fun n hn => (tl n hn).1.lT
    p2 := fun n hn => (tl n hn).1.p2
    q2 := fun n hn => (tl n hn).1.q2
    sp := fun nm v h => let ⟨a, b, c, d, e, f, g, i, j, l, m, n, o⟩ := hP.sp nm v h; ⟨a, b, c, d, e, f, g, i, j, l, m, n, tup _ (sub _ o) rfl⟩
    nn := hP.nn
    fxl := fun p hp => (of_decide_eq_true (List.mem_filter.mp hp).2).2 }, ⟨{
    fxs := fun p hp => (List.mem_filter.mp hp).1
    off := fun p hp hm => (of_decide_eq_true (List.mem_filter.mp hp).2).1 (List.append_nil M ▸ hm)
    nd := show (M ++ []).Nodup from (List.append_nil M).symm ▸ (List.nodup_cons.mpr ⟨fun h => (List.mem_cons.mp h).elim (fdB _ hP.hSD) fun h => dis SD (.tail _ (.tail _ (.tail _ (.head _)))) SD h rfl, List.nodup_cons.mpr ⟨dbR, ndR⟩⟩ : M.Nodup)
    hT := fun n hn => (tl n hn).1.hT
    dT := fun n hn => (tl n hn).1.dT
    hdM := fun n hn => (tl n hn).1.hdM
    st := fun n hn => ⟨(tl n hn).1.st0, (tl n hn).1.st1⟩
    hdB := hdB
    hEL := hEL
    hes := fun e he => (nomatch he)
    hSD := sub _ hP.hSD
    hS := by show Slots w oS []; rw [eS]; exact ⟨⟨rfl, rfl, rfl⟩, ⟨#[], nS, rfl, rfl⟩, List.nodup_nil⟩
    hat := fun x hx => (nomatch hx)
    num := fun x hx => (nomatch hx)
    ser := fun x hx => (nomatch hx)
    len := Int.le_refl 0 }, .nil⟩⟩
theorem same_mdl {w : World} {fx : Led} {F : SF} {σ : DY} (S : Stat w fx F) : F.mdl = (N3.map (F.x σ)).map fun x => (x.n, Value.ref x.M) := by
  have h4 := S.tn 4 (by decide)
  have h9 := S.tn 9 (by decide)
  have h7 := S.tn 7 (by decide)
  show [((4 : Int), Value.ref (F.y 4).M), (9, Value.ref (F.y 9).M), (7, Value.ref (F.y 7).M)] = [((F.y 4).n, Value.ref (F.y 4).M), ((F.y 9).n, Value.ref (F.y 9).M), ((F.y 7).n, Value.ref (F.y 7).M)]
  rw [h4, h9, h7]
/-! M34d -/
theorem stored_new {K : Type} [DecidableEq K] {kvs : List (K × Value)} {k : K} {v : Value} (h : k ∉ kvs.map (·.1)) : stored kvs k v = kvs ++ [(k, v)] := by
  unfold stored
  rw [if_neg]
  intro hh
  obtain ⟨x, hx, e⟩ := List.any_eq_true.mp hh
  exact h (List.mem_map.mpr ⟨x, hx, of_decide_eq_true e⟩)
theorem valueAt_snoc {K : Type} [DecidableEq K] {kvs : List (K × Value)} {k : K} {v : Value} (h : k ∉ kvs.map (·.1)) : valueAt (stored kvs k v) k = some v := by
  rw [stored_new h]
  have : kvs.find? (fun kv => decide (kv.1 = k)) = none := by
    rw [List.find?_eq_none]
    intro x hx e
    exact h (List.mem_map.mpr ⟨x, hx, of_decide_eq_true e⟩)
  unfold valueAt
  rw [List.find?_append, this]
  simp
theorem valueAt_other {K : Type} [DecidableEq K] {kvs : List (K × Value)} {k k' : K} {v u : Value} (h : k ∉ kvs.map (·.1)) (hv : valueAt (stored kvs k v) k' = some u) : (k' = k ∧ u = v) ∨ valueAt kvs k' = some u := by
  by_cases e : k' = k
  · subst e
    rw [valueAt_snoc h] at hv
    exact .inl ⟨rfl, (Option.some.inj hv).symm⟩
  · right
    rw [stored_new h] at hv
    unfold valueAt at hv ⊢
    rw [List.find?_append] at hv
    cases c : kvs.find? (fun kv => decide (kv.1 = k')) with
    | some x => rw [c] at hv; exact hv
    | none =>
      rw [c] at hv
      have e' : ¬ k = k' := fun e2 => e e2.symm
      simp [e'] at hv
theorem name3_at {prog : Program} {w : World} {A : Around} {E : Value → Shared → Prop} {s : Shared} {h₀ : Heap} {L a : Addr} {news : Led} {value slice : PySem.Expr} {x0 x1 x2 : Str} {s0 s1 s2 : Tok} {k : Int} {u : Tok} {Q : Value → Shared → Prop} (N : News h₀ L s.heap news) (hm : (a, tupO [.str x0 s0, .str x1 s1, .str x2 s2]) ∈ news) (h0 : 0 ≤ k) (hk : k < 3)
    (h : ∀ t, Q (.str ([x0, x1, x2].getD k.toNat (Str.ofString "")) t) s)
    (hs : subscripted slice false (.ref a) (.int k u) = operate [.ref a, .int k u] (getItem (.ref a) (.int k u)) := by with_unfolding_all rfl) :
    wpAny (model prog w) A (subscriptTail value slice (.ref a) (.int k u)) Q E s := by
  have t : IsTup s.heap a ([.str x0 s0, .str x1 s1, .str x2 s2] : List Value).toArray := ⟨_, (N _ hm).1, rfl, _, rfl⟩
  have hc : k = 0 ∨ k = 1 ∨ k = 2 := by omega
  rcases hc with rfl | rfl | rfl
  · exact item_tupleT (j := 0) t (by omega) (by omega) rfl rfl (h _) hs
  · exact item_tupleT (j := 1) t (by omega) (by omega) rfl rfl (h _) hs
  · exact item_tupleT (j := 2) t (by omega) (by omega) rfl rfl (h _) hs
abbrev num (i : Nat) : Int := [4, 9, 7].getD i 0
abbrev nam (i : Nat) : Str := nms3.getD i (Str.ofString "")
theorem num_take {i : Nat} (h : i < 3) : N3.take (i + 1) = N3.take i ++ [num i] ∧ num i ∉ N3.take i := by
  rcases i with _ | _ | _ | i
  · decide
  · decide
  · decide
  · omega
theorem nam_take {i : Nat} (h : i < 3) : nms3.take (i + 1) = nms3.take i ++ [nam i] ∧ nam i ∉ nms3.take i := by
  rcases i with _ | _ | _ | i
  · decide
  · decide
  · decide
  · omega
theorem nodup_two {A B C : List Addr} {t d : Addr} (h : (A ++ B ++ C).Nodup) (ht : t ∉ A ++ B ++ C) (hd : d ∉ A ++ B ++ C) (htd : t ≠ d) : (A ++ (B ++ [t]) ++ (C ++ [d])).Nodup := by
  have p : (A ++ (B ++ [t]) ++ (C ++ [d])).Perm (t :: d :: (A ++ B ++ C)) := by
    have h1 : (A ++ (B ++ [t]) ++ (C ++ [d])) = (A ++ B) ++ ([t] ++ (C ++ [d])) := by simp [List.append_assoc]
    rw [h1]
    refine (List.perm_append_comm).trans ?_
    have h2 : ([t] ++ (C ++ [d])) ++ (A ++ B) = t :: (C ++ ([d] ++ (A ++ B))) := by simp [List.append_assoc]
    rw [h2]
    refine List.Perm.cons t ?_
    refine (List.perm_append_comm).trans ?_
    have h3 : ([d] ++ (A ++ B)) ++ C = d :: (A ++ B ++ C) := by simp [List.append_assoc]
    rw [h3]
  rw [p.nodup_iff, List.nodup_cons, List.nodup_cons]
  refine ⟨?_, hd, h⟩
  intro hm
  rcases List.mem_cons.mp hm with e | hm
  · exact htd e
  · exact ht hm
section
variable {w : World} {nw nw' : Led} {W TK NM SD MD : Addr} {oW oS : Obj} {i : Nat} {P : PR}
theorem Pre.keys (_ : Pre w nw W TK NM SD MD oW oS i P) (hi : i < 3) (f : Int → Value) : num i ∉ ((N3.take i).map fun n => (n, f n)).map (·.1) := by
  rw [List.map_map]
  have : ((fun x : Int × Value => x.1) ∘ fun n => (n, f n)) = id := rfl
  rw [this, List.map_id]
  exact (num_take hi).2
theorem Pre.names (hP : Pre w nw W TK NM SD MD oW oS i P) (hi : i < 3) : nam i ∉ P.nml.map (·.1) := by
  rw [hP.nn]
  exact (nam_take hi).2
theorem Pre.mud (hP : Pre w nw W TK NM SD MD oW oS i P) : ∀ a ∈ [W, TK, NM, SD, MD] ++ ((N3.take i).map fun n => (P.y n).T) ++ ((N3.take i).map fun n => (P.y n).dM), ∃ o, (a, o) ∈ nw := by
  intro a ha
  rcases List.mem_append.mp ha with ha | ha
  · rcases List.mem_append.mp ha with ha | ha
    · simp only [List.mem_cons, List.not_mem_nil, or_false] at ha
      rcases ha with rfl | rfl | rfl | rfl | rfl
      · exact ⟨_, hP.hW⟩
      · exact ⟨_, hP.hTK⟩
      · exact ⟨_, hP.hNM⟩
      · exact ⟨_, hP.hSD⟩
      · exact ⟨_, hP.hMD⟩
    · obtain ⟨n, hn, rfl⟩ := List.mem_map.mp ha
      exact ⟨_, (hP.tl n hn).1.hT⟩
  · obtain ⟨n, hn, rfl⟩ := List.mem_map.mp ha
    exact ⟨_, (hP.tl n hn).1.hdM⟩
theorem pre_step (hP : Pre w nw W TK NM SD MD oW oS i P) (hi : i < 3) (N : FnL nw) (keep : ∀ p ∈ nw, p.1 ≠ TK → p.1 ≠ NM → p.1 ≠ MD → p ∈ nw') {y : TL} {oTK oNM oMD : Obj} {S : Addr} {p1 p2 p3 p4 p5 : Int} {t1 t2 t3 t4 t5 : Tok}
    {n : Int} {nm : Str} (hn : n = num i) (hnm : nm = nam i)
    (hTK : (TK, oTK) ∈ nw') (dTK : oTK.IsDictOf (PySem.intKind Challenge.rw_pf0335_01.row.prog w) (stored ((N3.take i).map fun n => (n, .ref (P.y n).T)) n (.ref y.T)))
    (hMD : (MD, oMD) ∈ nw') (dMD : oMD.IsDictOf (PySem.intKind Challenge.rw_pf0335_01.row.prog w) (stored ((N3.take i).map fun n => (n, .ref (P.y n).M)) n (.ref y.M)))
    (hNM : (NM, oNM) ∈ nw') (dNM : oNM.IsDictOf (sKind w) (stored P.nml nm (.ref S)))
    (hS : (S, tupO [.int p1 t1, .int p2 t2, .int p3 t3, .int p4 t4, .int p5 t5]) ∈ nw') (hy : y.At w nw') (yn : y.n = n)
    (fT : ∀ p ∈ nw, p.1 ≠ y.T) (fM : ∀ p ∈ nw, p.1 ≠ y.dM) (hne : y.T ≠ y.dM) :
    ∃ P', Pre w nw' W TK NM SD MD oW oS (i + 1) P' := by
  subst hn hnm
  have nd := hP.nd
  have dT3 : oTK.cls = .type "dict" := dTK.choose_spec.choose_spec.1.1
  have cTK : P.oTK.cls = .type "dict" := hP.dTK.choose_spec.choose_spec.1.1
  have cNM : P.oNM.cls = .type "dict" := hP.dNM.choose_spec.choose_spec.1.1
  have cMD : P.oMD.cls = .type "dict" := hP.dMD.choose_spec.choose_spec.1.1
  have other : ∀ p ∈ nw, p.2.cls ≠ .type "dict" → p ∈ nw' := fun p hp hc =>
    keep p hp (fn_ne N hp hP.hTK (by rw [cTK]; exact hc)) (fn_ne N hp hP.hNM (by rw [cNM]; exact hc)) (fn_ne N hp hP.hMD (by rw [cMD]; exact hc))
  have nd1 := (List.nodup_append.mp nd).1
  have nd0 := (List.nodup_append.mp nd1).1
  have five : ∀ a ∈ [W, TK, NM, SD, MD], ∀ n ∈ N3.take i, a ≠ (P.y n).T ∧ a ≠ (P.y n).dM := fun a ha n hn =>
    ⟨(List.nodup_append.mp nd1).2.2 a ha _ (List.mem_map.mpr ⟨n, hn, rfl⟩), (List.nodup_append.mp nd).2.2 a (List.mem_append_left _ ha) _ (List.mem_map.mpr ⟨n, hn, rfl⟩)⟩
  simp only [List.nodup_cons, List.mem_cons, List.not_mem_nil, or_false, not_or, List.nodup_nil, and_true, not_false_eq_true] at nd0
  obtain ⟨⟨w1, w2, w3, w4⟩, ⟨t6, t7, t8⟩, ⟨n1, n2⟩, s1⟩ := nd0
  have old : ∀ n ∈ N3.take i, (P.y n).At w nw' := fun n hn => by
    obtain ⟨⟨a1, a2, a3, a4, a5, a6, a7, a8, a9, a10, a11, a12⟩, e⟩ := hP.tl n hn
    have g := fun a ha => five a ha n hn
    exact ⟨keep _ a1 (Ne.symm (g TK (by simp)).1) (Ne.symm (g NM (by simp)).1) (Ne.symm (g MD (by simp)).1), a2, other _ a3 (by intro e; exact tup_ne_dict e), other _ a4 (by intro e; exact tup_ne_dict e), other _ a5 (by intro e; exact tup_ne_dict e), other _ a6 (fun e => Value.noConfusion e), keep _ a7 (Ne.symm (g TK (by simp)).2) (Ne.symm (g NM (by simp)).2) (Ne.symm (g MD (by simp)).2), a8, a9, a10, a11, a12⟩
  let yy : Int → TL := fun n => if n = num i then y else P.y n
  have y1 : yy (num i) = y := if_pos rfl
  have y2 : ∀ n ∈ N3.take i, yy n = P.y n := fun n hn => if_neg fun e => (num_take hi).2 (by rw [← e]; exact hn)
  have mapT : ∀ {α : Type} (f : Int → TL → α), (N3.take (i + 1)).map (fun n => f n (yy n)) = ((N3.take i).map fun n => f n (P.y n)) ++ [f (num i) y] := fun f => by
    rw [(num_take hi).1, List.map_append, List.map_singleton, y1]
    congr 1
    exact List.map_congr_left fun n hn => by rw [y2 n hn]
  refine ⟨⟨oTK, oNM, oMD, yy, stored P.nml (nam i) (.ref S)⟩, {
    hW := keep _ hP.hW w1 w2 w4
    dW := hP.dW
    hTK := hTK
    dTK := by
      rw [stored_new (hP.keys hi _)] at dTK
      show oTK.IsDictOf (PySem.intKind Challenge.rw_pf0335_01.row.prog w) ((N3.take (i + 1)).map fun n => (n, Value.ref (yy n).T))
      rw [mapT fun n x => (n, Value.ref x.T)]
      exact dTK
    lTK := hP.lTK
    hNM := hNM
    dNM := dNM
    lNM := hP.lNM
    hMD := hMD
    dMD := by
      rw [stored_new (hP.keys hi _)] at dMD
      show oMD.IsDictOf (PySem.intKind Challenge.rw_pf0335_01.row.prog w) ((N3.take (i + 1)).map fun n => (n, Value.ref (yy n).M))
      rw [mapT fun n x => (n, Value.ref x.M)]
      exact dMD
    lMD := hP.lMD
    hSD := keep _ hP.hSD (Ne.symm t7) (Ne.symm n1) s1
    dSD := hP.dSD
    lSD := hP.lSD
    tl := fun n hn => by
      rw [(num_take hi).1] at hn
      rcases List.mem_append.mp hn with hn | hn
      · show (yy n).At w nw' ∧ (yy n).n = n
        rw [y2 n hn]
        exact ⟨old n hn, (hP.tl n hn).2⟩
      · obtain rfl := List.mem_singleton.mp hn
        show (yy (num i)).At w nw' ∧ (yy (num i)).n = num i
        rw [y1]
        exact ⟨hy, yn⟩
    nn := by
      show (stored P.nml (nam i) (.ref S)).map (·.1) = _
      rw [stored_new (hP.names hi), List.map_append, hP.nn, (nam_take hi).1]
      rfl
    sp := fun nm v hv => by
      rcases valueAt_other (hP.names hi) hv with ⟨rfl, rfl⟩ | hv
      · exact ⟨S, p1, p2, p3, p4, p5, t1, t2, t3, t4, t5, rfl, hS⟩
      · obtain ⟨a, b, c, d, e, f, g, i, j, l, m, n, o⟩ := hP.sp nm v hv
        exact ⟨a, b, c, d, e, f, g, i, j, l, m, n, other _ o (by intro e; exact tup_ne_dict e)⟩
    nd := by
      show ([W, TK, NM, SD, MD] ++ ((N3.take (i + 1)).map fun n => (yy n).T) ++ ((N3.take (i + 1)).map fun n => (yy n).dM)).Nodup
      rw [mapT fun n x => x.T, mapT fun n x => x.dM]
      exact nodup_two nd (fun hm => by obtain ⟨o, ho⟩ := hP.mud _ hm; exact fT _ ho rfl) (fun hm => by obtain ⟨o, ho⟩ := hP.mud _ hm; exact fM _ ho rfl) hne }⟩
end
/-! M34e -/
theorem map_of {h₀ h : Heap} {L : Addr} {m : Str → Option Value} (_ : Fr h₀ L h m) : ∃ m' : Str → Option Value, m' = m := ⟨_, rfl⟩
theorem seq_cut3 {M : Model} {A : Around} {env : Env} {E : Value → Shared → Prop} {Q : Flow → Shared → Prop} {h₀ h : Heap} {L : Addr} {m₀ : Str → Option Value} {g : Array GenState} {d : Drawn} {T : Tok} {os : OsState} {s1 s2 s3 : Stmt} {b2 : List Stmt} (_F : Fr h₀ L h m₀)
    (J : (Str → Option Value) → Led → Prop) (h1 : ∀ Q1 : Flow → Shared → Prop, (∀ f s, SeqV h₀ L J g d os Q f s → Q1 f s) → wpAny M A (execs [s1, s2, s3] env) Q1 E ⟨h, g, d, T, os⟩)
    (h2 : ∀ h' tk m' news', Fr h₀ L h' m' → News h₀ L h' news' → J m' news' → wpAny M A (execs b2 env) Q E ⟨h', g, d, tk, os⟩) : wpAny M A (execs (s1 :: s2 :: s3 :: b2) env) Q E ⟨h, g, d, T, os⟩ := seq_cut (b1 := [s1, s2, s3]) _F J h1 h2
set_option genInjectivity false in
set_option genSizeOf false in
/-- the setup's addresses and what it has made -/
structure LW where
  W : Addr
  TK : Addr
  NM : Addr
  SD : Addr
  MD : Addr
  oW : Obj
  oS : Obj
  P : PR
abbrev LW.Pre (x : LW) (w : World) (nw : Led) (i : Nat) : Prop := Mine.Pre w nw x.W x.TK x.NM x.SD x.MD x.oW x.oS i x.P
structure LW.Is (x : LW) (w : World) (m : Str → Option Value) (nw : Led) (i : Nat) : Prop where
  mworld : m (Str.ofString "world") = some (.ref x.W)
  mmade : m (Str.ofString "made") = some (.ref x.MD)
  pre : x.Pre w nw i
theorem nodup5 {a b c d e : Addr} (h1 : a ≠ b) (h2 : a ≠ c) (h3 : a ≠ d) (h4 : a ≠ e) (h5 : b ≠ c) (h6 : b ≠ d) (h7 : b ≠ e) (h8 : c ≠ d) (h9 : c ≠ e) (h10 : d ≠ e) : ([a, b, c, d, e] ++ [] ++ []).Nodup := by simp [*]
theorem LW.first {w : World} {nw : Led} {m : Str → Option Value} {Wd TK NM SD MD : Addr} {oW oTK oNM oMD oS : Obj} (m1 : m (Str.ofString "world") = some (.ref Wd)) (m2 : m (Str.ofString "made") = some (.ref MD))
    (hW : (Wd, oW) ∈ nw) (dW : oW.IsDictOf (sKind w) [(Str.ofString "talks", .ref TK), (Str.ofString "names", .ref NM), (Str.ofString "slots", .ref SD)])
    (hTK : (TK, oTK) ∈ nw) (dTK : oTK.IsDictOf (PySem.intKind Challenge.rw_pf0335_01.row.prog w) []) (lTK : (TK == sysModules) = false)
    (hNM : (NM, oNM) ∈ nw) (dNM : oNM.IsDictOf (sKind w) []) (lNM : (NM == sysModules) = false)
    (hMD : (MD, oMD) ∈ nw) (dMD : oMD.IsDictOf (PySem.intKind Challenge.rw_pf0335_01.row.prog w) []) (lMD : (MD == sysModules) = false)
    (hSD : (SD, oS) ∈ nw) (dSD : oS.IsDictOf (PySem.intKind Challenge.rw_pf0335_01.row.prog w) []) (lSD : (SD == sysModules) = false)
    (nd : ([Wd, TK, NM, SD, MD] ++ [] ++ []).Nodup) : ∃ x : LW, x.Is w m nw 0 :=
  ⟨⟨Wd, TK, NM, SD, MD, oW, oS, ⟨oTK, oNM, oMD, fun _ => tl0, []⟩⟩, m1, m2,
    { hW := hW, dW := dW, hTK := hTK, dTK := dTK, lTK := lTK, hNM := hNM, dNM := dNM, lNM := lNM, hMD := hMD, dMD := dMD, lMD := lMD, hSD := hSD, dSD := empty_obj dSD, lSD := lSD,
      tl := fun n hn => (nomatch hn), nn := rfl, sp := fun nm v h => (nomatch h), nd := nd }⟩
/-- a book just made -/
structure BookAt (w : World) (nw news : Led) (b : BL) : Prop where
  hB : (b.B, instObj 53 b.dB) ∈ nw
  hdB : (b.dB, b.obj w) ∈ nw
  htb : ∃ o, (b.tb, o) ∈ nw ∧ o.IsDictOf (PySem.intKind Challenge.rw_pf0335_01.row.prog w) []
  htk : ∃ o, (b.tk, o) ∈ nw ∧ o.IsDictOf (PySem.intKind Challenge.rw_pf0335_01.row.prog w) []
  hfl : ∃ o, (b.fl, o) ∈ nw ∧ o.IsDictOf (PySem.intKind Challenge.rw_pf0335_01.row.prog w) []
  ltb : (b.tb == sysModules) = false
  ltk : (b.tk == sysModules) = false
  lfl : (b.fl == sysModules) = false
  x1 : b.dB ≠ b.fl
  x2 : b.dB ≠ b.tk
  x3 : b.dB ≠ b.tb
  hEL : (b.EL, PySem.W.listOf #[] b.ep) ∈ nw
  fdB : ∀ p ∈ news, p.1 < b.dB
  ftb : ∀ p ∈ news, p.1 < b.tb
  ftk : ∀ p ∈ news, p.1 < b.tk
  ffl : ∀ p ∈ news, p.1 < b.fl
  sub : ∀ p ∈ news, p ∈ nw
theorem up_dict {w : World} {nw nw' : Led} {a : Addr} (h : ∃ o, (a, o) ∈ nw ∧ o.IsDictOf (PySem.intKind Challenge.rw_pf0335_01.row.prog w) []) (s : ∀ p ∈ nw, p ∈ nw') : ∃ n, (a, dictOf [] n) ∈ nw' := by
  obtain ⟨o, h1, h2⟩ := h
  obtain ⟨n, rfl⟩ := empty_obj h2
  exact ⟨n, s _ h1⟩
set_option genInjectivity false in
set_option genSizeOf false in
/-- the law's state -/
structure SX where
  fx : Led
  F : SF
  σ : DY
structure SX.Is (y : SX) (w : World) (m : Str → Option Value) (nw : Led) (k : Int) : Prop where
  mworld : m (Str.ofString "world") = some (.ref y.F.W)
  mmade : m (Str.ofString "made") = some (.ref y.F.MD)
  mbook : m (Str.ofString "book") = some (.ref y.F.b.B)
  mobjects : m (Str.ofString "objects") = some (.ref y.F.OD)
  S : Stat w y.fx y.F
  D : Dyn w y.fx nw y.F y.σ k
theorem start2 {w : World} {nw₀ nwA nw8 : Led} {x : LW} {b : BL} {v : Value} (hP : x.Pre w nw₀ 3) (hb : BookAt w nwA nw₀ b) (N : FnL nw8) (hO : ObjsMade w nwA x.P.nml v nw8) :
    ∃ y : SX, v = .ref y.F.OD ∧ y.F.W = x.W ∧ y.F.MD = x.MD ∧ y.F.b.B = b.B ∧ Stat w y.fx y.F ∧ Dyn w y.fx nw8 y.F y.σ 0 := by
  obtain ⟨OD, oO, ol, z, rfl, lOD, hOD, hO, hoat, hom, zk, zv, sub8, fD⟩ := hO
  obtain ⟨fx, F, σ, g1, g2, g3, g4, g5, S, D⟩ := start (bk := b) hP (fun p hp => sub8 _ (hb.sub p hp)) N (sub8 _ hb.hB) (sub8 _ hb.hdB) (up_dict hb.htb sub8) (up_dict hb.htk sub8) (up_dict hb.hfl sub8) hb.ltb hb.ltk hb.lfl hb.x1 hb.x2 hb.x3 (sub8 _ hb.hEL)
    (fun p hp => Nat.ne_of_lt (hb.fdB p hp)) (fun p hp => Nat.ne_of_lt (hb.ftb p hp)) (fun p hp => Nat.ne_of_lt (hb.ftk p hp)) (fun p hp => Nat.ne_of_lt (hb.ffl p hp)) hOD lOD hO hoat hom zk zv (fun p hp => Nat.ne_of_lt (fD p (hb.sub p hp))) (Ne.symm (Nat.ne_of_lt (fD _ hb.hdB)))
  exact ⟨⟨fx, F, σ⟩, by rw [g3], g1, g2, g5, S, D⟩
/-! M34 -/
local macro_rules | `(tactic| k_qdec) => `(tactic| decide +kernel)
theorem law_try : Challenge.rw_pf0335_01.Holds := by
  refine holds_law hd.said fun said => holds_open (q := hd.view_39) (loose := []) (Xt := fun s => xlAt hd.view_39 [] s && recOk (RowW.records Challenge.rw_pf0335_01.row.toRowW) s) (XP := XL hd.view_39 []) (Yf := (kHook hd.heap_39 hd.at_39 hd.at_eq).obs) (Ya := (kHook hd.heap_39 hd.at_39 hd.at_eq).val) (YP := (kHook hd.heap_39 hd.at_39 hd.at_eq).says) (N := 3530) hd.left (kHook hd.heap_39 hd.at_39 hd.at_eq).of (kHook hd.heap_39 hd.at_39 hd.at_eq).keeps (fun s e => xl_of s (Bool.and_eq_true_iff.mp e).1) XL.keeps (by rfl) (by rfl) (by rfl) (fun s e => recFacts_of (Bool.and_eq_true_iff.mp e).2) (by rfl) said (by decide +kernel) ⟨rfl, rfl, rfl, rfl, rfl, by decide +kernel⟩ hd.promised ?_
  clear said
  w_strict (k_go0; (all_goals try k_fold); (
    (try dsimp only)
    (rename World => w)
    (rename Fr _ _ _ _ => F0)
    (rename Heap.IsList _ _ _ => hSc)
    obtain ⟨sc, hsc⟩ := list_at hSc
    have hSc' := hSc
    rw [← hsc] at hSc'
    with_reducible refine seq_cut3 F0 (fun m nw => m (Str.ofString "script") = some (.ref sc) ∧ ∃ x : LW, x.Is w m nw 3) ?_ ?_
    · intro Q1 K1; (repeat' (first | ((with_reducible show wpAny _ _ (compareOp CmpOp.Eq (Value.ref _) (Value.ref _)) _ _ _); refine stop ?_) | (k_here; (with_reducible show wpAny _ _ (subscriptTail _ (PySem.Expr.Name _ _) (Value.ref _) (Value.int _ _)) _ _ _); k_dflt (refine name3_at (by k_asm) (by k_mem) (by omega) (by omega) ?_); intro tnm9Q) | ((with_reducible show wpAny _ _ (setAttr (Value.ref _) (Str.ofString "status") (Value.int _ _)) _ _ _); (fail_if_success (with_reducible show wpAny _ _ (setAttr _ _ (Value.int 0 _)) _ _ _)); refine stop ?_) | ((with_reducible show wpAny _ _ (setItem (Value.ref _) (Value.str _ _) _) _ _ _); refine stop ?_) | ((with_reducible show wpAny _ _ (setItem (Value.ref _) (Value.int _ _) _) _ _ _); refine stop ?_) | ((fail_if_success (with_reducible refine Stop.go ?_)); (first | (k_unfold; (try dsimp only)) | (k_end; wrow_close) | walk1 | (dsimp only; walk1) | (leave1; walk_say "STEP leave1"; try dsimp only) | fail "no step"))))
      (rename Fr _ _ _ _ => F2)
      refine Stop.go (For_RG F2 rfl rfl ?_)
      (repeat' (first | ((with_reducible show wpAny _ _ (compareOp CmpOp.Eq (Value.ref _) (Value.ref _)) _ _ _); refine stop ?_) | (k_here; (with_reducible show wpAny _ _ (subscriptTail _ (PySem.Expr.Name _ _) (Value.ref _) (Value.int _ _)) _ _ _); k_dflt (refine name3_at (by k_asm) (by k_mem) (by omega) (by omega) ?_); intro tnm9Q) | ((with_reducible show wpAny _ _ (setAttr (Value.ref _) (Str.ofString "status") (Value.int _ _)) _ _ _); (fail_if_success (with_reducible show wpAny _ _ (setAttr _ _ (Value.int 0 _)) _ _ _)); refine stop ?_) | ((with_reducible show wpAny _ _ (setItem (Value.ref _) (Value.str _ _) _) _ _ _); refine stop ?_) | ((with_reducible show wpAny _ _ (setItem (Value.ref _) (Value.int _ _) _) _ _ _); refine stop ?_) | ((fail_if_success (with_reducible refine Stop.go ?_)); (first | (k_unfold; (try dsimp only)) | (k_end; wrow_close) | walk1 | (dsimp only; walk1) | (leave1; walk_say "STEP leave1"; try dsimp only) | fail "no step"))))
      (rename IsRange _ _ _ _ _ _ _ _ => R3); (rename Fr _ _ _ _ => F3); (rename News _ _ _ _ => N3)
      refine ⟨_, _, _, _, _, _, 3, _, _, fun i m nw => m (Str.ofString "script") = some (.ref sc) ∧ ∃ x : LW, x.Is w m nw i,
        rfl, rfl, F3, N3, R3, by decide, by decide, ⟨by rw [hsc]; rfl, LW.first rfl rfl (by k_mem) (by assumption) (by k_mem) (by assumption) (by assumption) (by k_mem) (by assumption) (by assumption) (by k_mem) (by assumption) (by assumption) (by k_mem) (by assumption) (by assumption) (nodup5 (by k_ne) (by k_ne) (by k_ne) (by k_ne) (by k_ne) (by k_ne) (by k_ne) (by k_ne) (by k_ne) (by k_ne))⟩, ?_, ?_⟩
      · rintro i t m₁ news₁ h tk I oI hi hc ⟨j1, ⟨Wd, TK, NM, SD, MD, oW, oS, P⟩, j2, j3, hP⟩ off F₁ N₁
        (try dsimp only)
        dsimp only at j2 j3
        have hP : Pre w news₁ Wd TK NM SD MD oW oS i P := hP
        have nd5 := (List.nodup_append.mp (List.nodup_append.mp hP.nd).1).1
        simp only [List.nodup_cons, List.mem_cons, List.not_mem_nil, or_false, not_or, List.nodup_nil, and_true, not_false_eq_true] at nd5
        obtain ⟨⟨ne1, ne2, ne3, ne4⟩, ⟨ne5, ne6, ne7⟩, ⟨ne8, ne9⟩, ne10⟩ := nd5
        have hW := hP.hW
        have dW := hP.dW
        have hTK := hP.hTK
        have hNM := hP.hNM
        have hMD := hP.hMD
        have NP : FnL news₁ := (FnL.of N₁).tail
        have hn : ([4, 9, 7] : List Int).getD (0 + (i : Int)).toNat 0 = num i := by simp
        have hnm : ([Str.ofString "sip", Str.ofString "ftp", Str.ofString "pptp"] : List Str).getD (0 + (i : Int)).toNat (Str.ofString "") = nam i := by simp
        have TKI := off _ hTK
        have NMI := off _ hNM
        have MDI := off _ hMD
        have i0 : (0 : Int) ≤ 0 + (i : Int) := by omega
        have i3 : 0 + (i : Int) < 3 := by omega
        (repeat' (first | ((with_reducible show wpAny _ _ (compareOp CmpOp.Eq (Value.ref _) (Value.ref _)) _ _ _); refine stop ?_) | (k_here; (with_reducible show wpAny _ _ (subscriptTail _ (PySem.Expr.Name _ _) (Value.ref _) (Value.int _ _)) _ _ _); k_dflt (refine name3_at (by k_asm) (by k_mem) (by omega) (by omega) ?_); intro tnm9Q) | ((with_reducible show wpAny _ _ (setAttr (Value.ref _) (Str.ofString "status") (Value.int _ _)) _ _ _); (fail_if_success (with_reducible show wpAny _ _ (setAttr _ _ (Value.int 0 _)) _ _ _)); refine stop ?_) | ((with_reducible show wpAny _ _ (setItem (Value.ref _) (Value.str _ _) _) _ _ _); refine stop ?_) | ((with_reducible show wpAny _ _ (setItem (Value.ref _) (Value.int _ _) _) _ _ _); refine stop ?_) | ((fail_if_success (with_reducible refine Stop.go ?_)); (first | (k_unfold; (try dsimp only)) | (k_end; wrow_close) | walk1 | (dsimp only; walk1) | (leave1; walk_say "STEP leave1"; try dsimp only) | fail "no step"))))
        refine Stop.go ?_
        (try k_fold)
        k_dflt refine (Spec.use (by k_asm) (by k_asm) (by k_asm) (by k_asm) (by k_asm) (by first | exact rfl | assumption) (draw_spec (by assumption) (by assumption) (by omega) (by omega) (by omega)) (by ktr_room) (by ktr_units) ?_)
        rintro v h' tk nwx ⟨rfl, dr, tdr, rfl, hdr⟩ F8 N8
        (try dsimp only at F8 N8 ⊢)
        (try k_fold)
        (repeat' (first | ((with_reducible show wpAny _ _ (compareOp CmpOp.Eq (Value.ref _) (Value.ref _)) _ _ _); refine stop ?_) | (k_here; (with_reducible show wpAny _ _ (subscriptTail _ (PySem.Expr.Name _ _) (Value.ref _) (Value.int _ _)) _ _ _); k_dflt (refine name3_at (by k_asm) (by k_mem) (by omega) (by omega) ?_); intro tnm9Q) | ((with_reducible show wpAny _ _ (setAttr (Value.ref _) (Str.ofString "status") (Value.int _ _)) _ _ _); (fail_if_success (with_reducible show wpAny _ _ (setAttr _ _ (Value.int 0 _)) _ _ _)); refine stop ?_) | ((with_reducible show wpAny _ _ (setItem (Value.ref _) (Value.str _ _) _) _ _ _); refine stop ?_) | ((with_reducible show wpAny _ _ (setItem (Value.ref _) (Value.int _ _) _) _ _ _); refine stop ?_) | ((fail_if_success (with_reducible refine Stop.go ?_)); (first | (k_unfold; (try dsimp only)) | (k_end; wrow_close) | walk1 | (dsimp only; walk1) | (leave1; walk_say "STEP leave1"; try dsimp only) | fail "no step"))))
        refine Stop.go ?_
        (try k_fold)
        k_dflt refine (Spec.use (by k_asm) (by k_asm) (by k_asm) (by k_asm) (by k_asm) (by first | exact rfl | assumption) (talk_spec hdr) (by ktr_room) (by ktr_units) ?_)
        rintro v h' tk nwx ⟨T, oT, Ed, Th, Ba, z, tz, st, ts, th, ba, rfl, dT, rfl, lT, hst, ⟨a0, a1, a2, a3, a4, a5, s0, s1, s2, s3, s4, s5, rfl, ha2, -⟩, ⟨b0, b1, b2, b3, b4, b5, r0, r1, r2, r3, r4, r5, rfl, hb2, -⟩, x1, x2, x3, x4⟩ F8 N8
        (try dsimp only at F8 N8 ⊢)
        (try k_fold)
        have lt1 : ∀ p ∈ news₁, @LT.lt Nat _ p.1 Th := fun p hp => x1 p (by (repeat (first | exact hp | refine List.Mem.tail _ ?_)); done)
        have ltI : @LT.lt Nat _ I Th := x1 (I, oI) (by k_mem)
        have TTK := lt1 _ hTK
        clear x1
        (repeat' (first | ((with_reducible show wpAny _ _ (compareOp CmpOp.Eq (Value.ref _) (Value.ref _)) _ _ _); refine stop ?_) | (k_here; (with_reducible show wpAny _ _ (subscriptTail _ (PySem.Expr.Name _ _) (Value.ref _) (Value.int _ _)) _ _ _); k_dflt (refine name3_at (by k_asm) (by k_mem) (by omega) (by omega) ?_); intro tnm9Q) | ((with_reducible show wpAny _ _ (setAttr (Value.ref _) (Str.ofString "status") (Value.int _ _)) _ _ _); (fail_if_success (with_reducible show wpAny _ _ (setAttr _ _ (Value.int 0 _)) _ _ _)); refine stop ?_) | ((with_reducible show wpAny _ _ (setItem (Value.ref _) (Value.str _ _) _) _ _ _); refine stop ?_) | ((with_reducible show wpAny _ _ (setItem (Value.ref _) (Value.int _ _) _) _ _ _); refine stop ?_) | ((fail_if_success (with_reducible refine Stop.go ?_)); (first | (k_unfold; (try dsimp only)) | (k_end; wrow_close) | walk1 | (dsimp only; walk1) | (leave1; walk_say "STEP leave1"; try dsimp only) | fail "no step"))))
        refine Stop.go ?_
        (rename News _ _ _ _ => N5)
        k_dflt refine dict_set (knd := PySem.intKind _ _) (by k_asm) N5 (by k_mem) hP.dTK (intKind_is _ _ _ _) (by rw [sizeLine_eq]; simp; omega) ?_
        intro h' oTK' F' N' dTK'
        obtain ⟨nwA, eA⟩ := led_of N'
        have N6 := led_as eA N'
        have subA : ∀ p ∈ news₁, p.1 ≠ TK → p ∈ nwA := fun p hp hh => mem_sets eA (by (repeat (first | exact hp | refine List.Mem.tail _ ?_)); done) hh
        have iA : (I, oI) ∈ nwA := mem_sets eA (by k_mem) (Ne.symm TKI)
        have tA : (T, oT) ∈ nwA := mem_sets eA (by k_mem) (by (show @Ne Nat T TK); have := TTK; (try dsimp only at this); first | exact Nat.ne_of_lt this | exact Nat.ne_of_gt this | omega)
        have edA := mem_sets (p := (Ed, tupO [.ref Th, .ref Ba])) eA (by k_mem) (by (show @Ne Nat Ed TK); have := TTK; (try dsimp only at this); first | exact Nat.ne_of_lt this | exact Nat.ne_of_gt this | omega)
        have thA := mem_sets (p := (Th, tupO [.int a0 s0, .int a1 s1, .int a2 s2, .int a3 s3, .int a4 s4, .int a5 s5])) eA (by k_mem) (by (show @Ne Nat Th TK); have := TTK; (try dsimp only at this); first | exact Nat.ne_of_lt this | exact Nat.ne_of_gt this | omega)
        have baA := mem_sets (p := (Ba, tupO [.int b0 r0, .int b1 r1, .int b2 r2, .int b3 r3, .int b4 r4, .int b5 r5])) eA (by k_mem) (by (show @Ne Nat Ba TK); have := TTK; (try dsimp only at this); first | exact Nat.ne_of_lt this | exact Nat.ne_of_gt this | omega)
        have mdA := subA _ hMD (by intro e; exact ne7 e.symm)
        have tkA := mem_sets_self eA (o' := oTK') (o := P.oTK) (by k_mem)
        clear eA N5 N'
        (repeat' (first | ((with_reducible show wpAny _ _ (compareOp CmpOp.Eq (Value.ref _) (Value.ref _)) _ _ _); refine stop ?_) | (k_here; (with_reducible show wpAny _ _ (subscriptTail _ (PySem.Expr.Name _ _) (Value.ref _) (Value.int _ _)) _ _ _); k_dflt (refine name3_at (by k_asm) (by k_mem) (by omega) (by omega) ?_); intro tnm9Q) | ((with_reducible show wpAny _ _ (setAttr (Value.ref _) (Str.ofString "status") (Value.int _ _)) _ _ _); (fail_if_success (with_reducible show wpAny _ _ (setAttr _ _ (Value.int 0 _)) _ _ _)); refine stop ?_) | ((with_reducible show wpAny _ _ (setItem (Value.ref _) (Value.str _ _) _) _ _ _); refine stop ?_) | ((with_reducible show wpAny _ _ (setItem (Value.ref _) (Value.int _ _) _) _ _ _); refine stop ?_) | ((fail_if_success (with_reducible refine Stop.go ?_)); (first | (k_unfold; (try dsimp only)) | (k_end; wrow_close) | walk1 | (dsimp only; walk1) | (leave1; walk_say "STEP leave1"; try dsimp only) | fail "no step"))))
        refine Stop.go ?_
        (rename News _ _ _ _ => N7)
        (rename Fr _ _ _ _ => F7)
        (try dsimp only at N7 F7)
        obtain ⟨M, e1⟩ := head_of N7
        subst e1
        obtain ⟨dM, e1⟩ := head2_of N7
        subst e1
        have frA : ∀ p ∈ nwA, @LT.lt Nat _ p.1 dM := tail_lt (by assumption) (fun p hp => hp)
        have dMM : @LT.lt Nat _ dM M := by first | assumption | exact head_lt (by assumption)
        have dMMD := frA _ mdA
        k_dflt refine dict_set (knd := PySem.intKind _ _) F7 N7 (by k_mem) hP.dMD (intKind_is _ _ _ _) (by rw [sizeLine_eq]; simp; omega) ?_
        intro h' oMD' F' N' dMD'
        obtain ⟨nwB, eB⟩ := led_of N'
        have N8 := led_as eB N'
        have subB : ∀ p ∈ nwA, p.1 ≠ MD → p ∈ nwB := fun p hp hh => mem_sets eB (by (repeat (first | exact hp | refine List.Mem.tail _ ?_)); done) hh
        have mB := mem_sets (p := (M, instObj 31 dM)) eB (by k_mem) (by (show @Ne Nat M MD); have := dMMD; (try dsimp only at this); first | exact Nat.ne_of_lt this | exact Nat.ne_of_gt this | omega)
        have dB := mem_sets eB (List.Mem.tail _ (List.Mem.head _)) (by (show @Ne Nat dM MD); have := dMMD; (try dsimp only at this); first | exact Nat.ne_of_lt this | exact Nat.ne_of_gt this | omega)
        have mdB := mem_sets_self eB (o' := oMD') (o := P.oMD) (by k_mem)
        have tB := subB _ tA (by (show @Ne Nat T MD); have := lt1 _ hMD; (try dsimp only at this); first | exact Nat.ne_of_lt this | exact Nat.ne_of_gt this | omega)
        clear eB N7 N' F7
        have vM := valueAt_snoc (v := Value.ref M) (by rw [hn]; exact hP.keys hi fun n => .ref (P.y n).M : [4, 9, 7].getD (0 + (i : Int)).toNat 0 ∉ ((Mine.N3.take i).map fun n => (n, Value.ref (P.y n).M)).map (·.1))
        (repeat' (first | ((with_reducible show wpAny _ _ (compareOp CmpOp.Eq (Value.ref _) (Value.ref _)) _ _ _); refine stop ?_) | (k_here; (with_reducible show wpAny _ _ (subscriptTail _ (PySem.Expr.Name _ _) (Value.ref _) (Value.int _ _)) _ _ _); k_dflt (refine name3_at (by k_asm) (by k_mem) (by omega) (by omega) ?_); intro tnm9Q) | ((with_reducible show wpAny _ _ (setAttr (Value.ref _) (Str.ofString "status") (Value.int _ _)) _ _ _); (fail_if_success (with_reducible show wpAny _ _ (setAttr _ _ (Value.int 0 _)) _ _ _)); refine stop ?_) | ((with_reducible show wpAny _ _ (setItem (Value.ref _) (Value.str _ _) _) _ _ _); refine stop ?_) | ((with_reducible show wpAny _ _ (setItem (Value.ref _) (Value.int _ _) _) _ _ _); refine stop ?_) | ((fail_if_success (with_reducible refine Stop.go ?_)); (first | (k_unfold; (try dsimp only)) | (k_end; wrow_close) | walk1 | (dsimp only; walk1) | (leave1; walk_say "STEP leave1"; try dsimp only) | fail "no step"))))
        refine Stop.go ?_
        k_dflt (refine' set_led ?k1 ?k2 ?k3 ?k4 ?k5 ?k6 ?k7 ?k8 ?k9 ?k10 ?k11 ?k12 ?k13 ?_; (case k1 => k_asm); (case k2 => k_asm); (case k3 => k_asm); (case k4 => k_inst); (case k5 => exact rfl); (case k6 => k_is); (case k7 => k_is); (case k8 => k_is); (case k9 => k_is); (case k10 => k_get); (case k11 => k_put); (case k12 => k_mem); (case k13 => exact Nat.le_of_ble_eq_true rfl); k_whole; intro h' F' N'; (try k_sweep))
        (rename News _ _ _ _ => N9)
        obtain ⟨nwC, eC⟩ := led_of N9
        have N10 := led_as eC N9
        have subC : ∀ p ∈ nwB, p.1 ≠ dM → p ∈ nwC := fun p hp hh => mem_sets eC hp hh
        have dC := mem_sets_self eC dB
        have iC := subC _ (subB _ iA (Ne.symm MDI)) (Nat.ne_of_lt (frA _ iA))
        have nmC := subC _ (subB _ (subA _ hNM (by intro e; exact ne5 e.symm)) ne9) (Nat.ne_of_lt (frA _ (subA _ hNM (by intro e; exact ne5 e.symm))))
        have wC := subC _ (subB _ (subA _ hW ne1) ne4) (Nat.ne_of_lt (frA _ (subA _ hW ne1)))
        clear eC N9
        (repeat' (first | ((with_reducible show wpAny _ _ (compareOp CmpOp.Eq (Value.ref _) (Value.ref _)) _ _ _); refine stop ?_) | (k_here; (with_reducible show wpAny _ _ (subscriptTail _ (PySem.Expr.Name _ _) (Value.ref _) (Value.int _ _)) _ _ _); k_dflt (refine name3_at (by k_asm) (by k_mem) (by omega) (by omega) ?_); intro tnm9Q) | ((with_reducible show wpAny _ _ (setAttr (Value.ref _) (Str.ofString "status") (Value.int _ _)) _ _ _); (fail_if_success (with_reducible show wpAny _ _ (setAttr _ _ (Value.int 0 _)) _ _ _)); refine stop ?_) | ((with_reducible show wpAny _ _ (setItem (Value.ref _) (Value.str _ _) _) _ _ _); refine stop ?_) | ((with_reducible show wpAny _ _ (setItem (Value.ref _) (Value.int _ _) _) _ _ _); refine stop ?_) | ((fail_if_success (with_reducible refine Stop.go ?_)); (first | (k_unfold; (try dsimp only)) | (k_end; wrow_close) | walk1 | (dsimp only; walk1) | (leave1; walk_say "STEP leave1"; try dsimp only) | fail "no step"))))
        refine Stop.go ?_
        (try k_fold)
        k_dflt refine (Spec.use (by k_asm) (by k_asm) (by k_asm) (by k_asm) (by k_asm) (by first | exact rfl | assumption) (draw_spec (by assumption) (by assumption) (by omega) (by omega) (by omega)) (by ktr_room) (by ktr_units) ?_)
        rintro v h' tk nwx ⟨rfl, dr2, tdr2, rfl, hdr2⟩ F8 N8
        (try dsimp only at F8 N8 ⊢)
        (try k_fold)
        (repeat' (first | ((with_reducible show wpAny _ _ (compareOp CmpOp.Eq (Value.ref _) (Value.ref _)) _ _ _); refine stop ?_) | (k_here; (with_reducible show wpAny _ _ (subscriptTail _ (PySem.Expr.Name _ _) (Value.ref _) (Value.int _ _)) _ _ _); k_dflt (refine name3_at (by k_asm) (by k_mem) (by omega) (by omega) ?_); intro tnm9Q) | ((with_reducible show wpAny _ _ (setAttr (Value.ref _) (Str.ofString "status") (Value.int _ _)) _ _ _); (fail_if_success (with_reducible show wpAny _ _ (setAttr _ _ (Value.int 0 _)) _ _ _)); refine stop ?_) | ((with_reducible show wpAny _ _ (setItem (Value.ref _) (Value.str _ _) _) _ _ _); refine stop ?_) | ((with_reducible show wpAny _ _ (setItem (Value.ref _) (Value.int _ _) _) _ _ _); refine stop ?_) | ((fail_if_success (with_reducible refine Stop.go ?_)); (first | (k_unfold; (try dsimp only)) | (k_end; wrow_close) | walk1 | (dsimp only; walk1) | (leave1; walk_say "STEP leave1"; try dsimp only) | fail "no step"))))
        refine Stop.go ?_
        (try k_fold)
        k_dflt refine (Spec.use (by k_asm) (by k_asm) (by k_asm) (by k_asm) (by k_asm) (by first | exact rfl | assumption) (spec_spec hdr2) (by ktr_room) (by ktr_units) ?_)
        rintro v h' tk nwx ⟨S, vs5, rfl, rfl, ⟨q1, q2, q3, q4, q5, y1, y2, y3, y4, y5, rfl⟩, x5⟩ F8 N8
        (try dsimp only at F8 N8 ⊢)
        (try k_fold)
        (repeat' (first | ((with_reducible show wpAny _ _ (compareOp CmpOp.Eq (Value.ref _) (Value.ref _)) _ _ _); refine stop ?_) | (k_here; (with_reducible show wpAny _ _ (subscriptTail _ (PySem.Expr.Name _ _) (Value.ref _) (Value.int _ _)) _ _ _); k_dflt (refine name3_at (by k_asm) (by k_mem) (by omega) (by omega) ?_); intro tnm9Q) | ((with_reducible show wpAny _ _ (setAttr (Value.ref _) (Str.ofString "status") (Value.int _ _)) _ _ _); (fail_if_success (with_reducible show wpAny _ _ (setAttr _ _ (Value.int 0 _)) _ _ _)); refine stop ?_) | ((with_reducible show wpAny _ _ (setItem (Value.ref _) (Value.str _ _) _) _ _ _); refine stop ?_) | ((with_reducible show wpAny _ _ (setItem (Value.ref _) (Value.int _ _) _) _ _ _); refine stop ?_) | ((fail_if_success (with_reducible refine Stop.go ?_)); (first | (k_unfold; (try dsimp only)) | (k_end; wrow_close) | walk1 | (dsimp only; walk1) | (leave1; walk_say "STEP leave1"; try dsimp only) | fail "no step"))))
        refine Stop.go ?_
        have hnl : P.nml.length ≤ 3 := by have := congrArg List.length hP.nn; simp at this; omega
        k_dflt refine dict_set (knd := PySem.strKind _ _) (by k_asm) (by k_asm) (by k_mem) hP.dNM (strKind_is _ _ _ _) (by rw [sizeLine_eq]; omega) ?_
        intro h' oNM' F' N' dNM'
        obtain ⟨nwD, eD⟩ := led_of N'
        have N11 := led_as eD N'
        have subD : ∀ p ∈ nwx, p.1 ≠ NM → p ∈ nwD := fun p hp hh => mem_sets eD (by (repeat (first | exact hp | refine List.Mem.tail _ ?_)); done) hh
        have sD := mem_sets (p := (S, tupO [.int q1 y1, .int q2 y2, .int q3 y3, .int q4 y4, .int q5 y5])) eD (by k_mem) (by (show @Ne Nat S NM); have : @LT.lt Nat _ NM S := x5 _ nmC; (first | assumption | exact Nat.le_refl _ | (apply Nat.le_of_lt; assumption) | (apply Nat.ne_of_lt; assumption) | (apply Nat.ne_of_gt; assumption) | (apply Nat.ne_of_lt; apply Nat.lt_trans; assumption; assumption) | (apply Nat.ne_of_gt; apply Nat.lt_trans; assumption; assumption) | (apply Nat.ne_of_lt; apply Nat.lt_trans; rotate_left; assumption; assumption) | (apply Nat.ne_of_gt; apply Nat.lt_trans; rotate_left; assumption; assumption) | (apply Nat.ne_of_gt; apply Nat.lt_of_lt_of_le; assumption; assumption) | (apply Nat.ne_of_lt; apply Nat.lt_of_lt_of_le; assumption; assumption) | omega))
        have nmD := mem_sets_self eD (o' := oNM') (o := P.oNM) (by k_mem)
        clear eD N'
        have toD : ∀ p ∈ nwA, p.1 ≠ MD → p.1 ≠ NM → p.1 ≠ I → p ∈ offOf I nwD := fun p hp h1 h2 h3 => mem_offOf (subD _ (subC _ (subB _ hp h1) (Nat.ne_of_lt (frA _ hp))) h2) h3
        have newD : ∀ p ∈ nwA, @LE.le Nat _ Th p.1 → p ∈ offOf I nwD := fun p hp hl => toD p hp (by (show @Ne Nat p.1 MD); have := lt1 _ hMD; (try dsimp only at this); first | exact Nat.ne_of_lt this | exact Nat.ne_of_gt this | omega) (by (show @Ne Nat p.1 NM); have := lt1 _ hNM; (try dsimp only at this); first | exact Nat.ne_of_lt this | exact Nat.ne_of_gt this | omega) (by (show @Ne Nat p.1 I); (first | assumption | exact Nat.le_refl _ | (apply Nat.le_of_lt; assumption) | (apply Nat.ne_of_lt; assumption) | (apply Nat.ne_of_gt; assumption) | (apply Nat.ne_of_lt; apply Nat.lt_trans; assumption; assumption) | (apply Nat.ne_of_gt; apply Nat.lt_trans; assumption; assumption) | (apply Nat.ne_of_lt; apply Nat.lt_trans; rotate_left; assumption; assumption) | (apply Nat.ne_of_gt; apply Nat.lt_trans; rotate_left; assumption; assumption) | (apply Nat.ne_of_gt; apply Nat.lt_of_lt_of_le; assumption; assumption) | (apply Nat.ne_of_lt; apply Nat.lt_of_lt_of_le; assumption; assumption) | omega))
        have frI := frA _ iA
        have frNM := frA _ (subA _ hNM (by intro e; exact ne5 e.symm))
        have hy : ∃ y : TL, y.At w (offOf I nwD) ∧ y.n = [4, 9, 7].getD (0 + (i : Int)).toNat 0 ∧ y.T = T ∧ y.M = M ∧ y.dM = dM :=
          ⟨⟨_, z, st, T, Ed, Th, Ba, M, dM, oT, a0, a1, a2, a3, a4, a5, b0, b1, b2, b3, b4, b5, s0, s1, s2, s3, s4, s5, r0, r1, r2, r3, r4, r5, _, _, _, _, _, _, _, _, _, _, _, _, _, _, _, _, _, _, _, _, _⟩,
            ⟨newD _ tA (by (show @LE.le Nat _ Th T); (first | assumption | exact Nat.le_refl _ | (apply Nat.le_of_lt; assumption) | (apply Nat.ne_of_lt; assumption) | (apply Nat.ne_of_gt; assumption) | (apply Nat.ne_of_lt; apply Nat.lt_trans; assumption; assumption) | (apply Nat.ne_of_gt; apply Nat.lt_trans; assumption; assumption) | (apply Nat.ne_of_lt; apply Nat.lt_trans; rotate_left; assumption; assumption) | (apply Nat.ne_of_gt; apply Nat.lt_trans; rotate_left; assumption; assumption) | (apply Nat.ne_of_gt; apply Nat.lt_of_lt_of_le; assumption; assumption) | (apply Nat.ne_of_lt; apply Nat.lt_of_lt_of_le; assumption; assumption) | omega)), dT, newD _ edA (by (show @LE.le Nat _ Th Ed); (first | assumption | exact Nat.le_refl _ | (apply Nat.le_of_lt; assumption) | (apply Nat.ne_of_lt; assumption) | (apply Nat.ne_of_gt; assumption) | (apply Nat.ne_of_lt; apply Nat.lt_trans; assumption; assumption) | (apply Nat.ne_of_gt; apply Nat.lt_trans; assumption; assumption) | (apply Nat.ne_of_lt; apply Nat.lt_trans; rotate_left; assumption; assumption) | (apply Nat.ne_of_gt; apply Nat.lt_trans; rotate_left; assumption; assumption) | (apply Nat.ne_of_gt; apply Nat.lt_of_lt_of_le; assumption; assumption) | (apply Nat.ne_of_lt; apply Nat.lt_of_lt_of_le; assumption; assumption) | omega)), newD _ thA (by (show @LE.le Nat _ Th Th); (first | assumption | exact Nat.le_refl _ | (apply Nat.le_of_lt; assumption) | (apply Nat.ne_of_lt; assumption) | (apply Nat.ne_of_gt; assumption) | (apply Nat.ne_of_lt; apply Nat.lt_trans; assumption; assumption) | (apply Nat.ne_of_gt; apply Nat.lt_trans; assumption; assumption) | (apply Nat.ne_of_lt; apply Nat.lt_trans; rotate_left; assumption; assumption) | (apply Nat.ne_of_gt; apply Nat.lt_trans; rotate_left; assumption; assumption) | (apply Nat.ne_of_gt; apply Nat.lt_of_lt_of_le; assumption; assumption) | (apply Nat.ne_of_lt; apply Nat.lt_of_lt_of_le; assumption; assumption) | omega)), newD _ baA (by (show @LE.le Nat _ Th Ba); (first | assumption | exact Nat.le_refl _ | (apply Nat.le_of_lt; assumption) | (apply Nat.ne_of_lt; assumption) | (apply Nat.ne_of_gt; assumption) | (apply Nat.ne_of_lt; apply Nat.lt_trans; assumption; assumption) | (apply Nat.ne_of_gt; apply Nat.lt_trans; assumption; assumption) | (apply Nat.ne_of_lt; apply Nat.lt_trans; rotate_left; assumption; assumption) | (apply Nat.ne_of_gt; apply Nat.lt_trans; rotate_left; assumption; assumption) | (apply Nat.ne_of_gt; apply Nat.lt_of_lt_of_le; assumption; assumption) | (apply Nat.ne_of_lt; apply Nat.lt_of_lt_of_le; assumption; assumption) | omega)),
             mem_offOf (subD _ (subC _ mB (by (show @Ne Nat M dM); (first | assumption | exact Nat.le_refl _ | (apply Nat.le_of_lt; assumption) | (apply Nat.ne_of_lt; assumption) | (apply Nat.ne_of_gt; assumption) | (apply Nat.ne_of_lt; apply Nat.lt_trans; assumption; assumption) | (apply Nat.ne_of_gt; apply Nat.lt_trans; assumption; assumption) | (apply Nat.ne_of_lt; apply Nat.lt_trans; rotate_left; assumption; assumption) | (apply Nat.ne_of_gt; apply Nat.lt_trans; rotate_left; assumption; assumption) | (apply Nat.ne_of_gt; apply Nat.lt_of_lt_of_le; assumption; assumption) | (apply Nat.ne_of_lt; apply Nat.lt_of_lt_of_le; assumption; assumption) | omega))) (by (show @Ne Nat M NM); (try dsimp only at frNM); (first | assumption | exact Nat.le_refl _ | (apply Nat.le_of_lt; assumption) | (apply Nat.ne_of_lt; assumption) | (apply Nat.ne_of_gt; assumption) | (apply Nat.ne_of_lt; apply Nat.lt_trans; assumption; assumption) | (apply Nat.ne_of_gt; apply Nat.lt_trans; assumption; assumption) | (apply Nat.ne_of_lt; apply Nat.lt_trans; rotate_left; assumption; assumption) | (apply Nat.ne_of_gt; apply Nat.lt_trans; rotate_left; assumption; assumption) | (apply Nat.ne_of_gt; apply Nat.lt_of_lt_of_le; assumption; assumption) | (apply Nat.ne_of_lt; apply Nat.lt_of_lt_of_le; assumption; assumption) | omega))) (by (show @Ne Nat M I); (try dsimp only at frI); (first | assumption | exact Nat.le_refl _ | (apply Nat.le_of_lt; assumption) | (apply Nat.ne_of_lt; assumption) | (apply Nat.ne_of_gt; assumption) | (apply Nat.ne_of_lt; apply Nat.lt_trans; assumption; assumption) | (apply Nat.ne_of_gt; apply Nat.lt_trans; assumption; assumption) | (apply Nat.ne_of_lt; apply Nat.lt_trans; rotate_left; assumption; assumption) | (apply Nat.ne_of_gt; apply Nat.lt_trans; rotate_left; assumption; assumption) | (apply Nat.ne_of_gt; apply Nat.lt_of_lt_of_le; assumption; assumption) | (apply Nat.ne_of_lt; apply Nat.lt_of_lt_of_le; assumption; assumption) | omega)),
             mem_offOf (subD _ dC (by (show @Ne Nat dM NM); (try dsimp only at frNM); (first | assumption | exact Nat.le_refl _ | (apply Nat.le_of_lt; assumption) | (apply Nat.ne_of_lt; assumption) | (apply Nat.ne_of_gt; assumption) | (apply Nat.ne_of_lt; apply Nat.lt_trans; assumption; assumption) | (apply Nat.ne_of_gt; apply Nat.lt_trans; assumption; assumption) | (apply Nat.ne_of_lt; apply Nat.lt_trans; rotate_left; assumption; assumption) | (apply Nat.ne_of_gt; apply Nat.lt_trans; rotate_left; assumption; assumption) | (apply Nat.ne_of_gt; apply Nat.lt_of_lt_of_le; assumption; assumption) | (apply Nat.ne_of_lt; apply Nat.lt_of_lt_of_le; assumption; assumption) | omega))) (by (show @Ne Nat dM I); (try dsimp only at frI); (first | assumption | exact Nat.le_refl _ | (apply Nat.le_of_lt; assumption) | (apply Nat.ne_of_lt; assumption) | (apply Nat.ne_of_gt; assumption) | (apply Nat.ne_of_lt; apply Nat.lt_trans; assumption; assumption) | (apply Nat.ne_of_gt; apply Nat.lt_trans; assumption; assumption) | (apply Nat.ne_of_lt; apply Nat.lt_trans; rotate_left; assumption; assumption) | (apply Nat.ne_of_gt; apply Nat.lt_trans; rotate_left; assumption; assumption) | (apply Nat.ne_of_gt; apply Nat.lt_of_lt_of_le; assumption; assumption) | (apply Nat.ne_of_lt; apply Nat.lt_of_lt_of_le; assumption; assumption) | omega)), lT, hst.1, hst.2, ha2, hb2⟩, rfl, rfl, rfl, rfl⟩
        obtain ⟨y, hy, ey, eT, eM, edM⟩ := hy
        have iD := subD _ iC (by (show @Ne Nat I NM); exact Ne.symm NMI)
        (repeat' (first | ((with_reducible show wpAny _ _ (compareOp CmpOp.Eq (Value.ref _) (Value.ref _)) _ _ _); refine stop ?_) | (k_here; (with_reducible show wpAny _ _ (subscriptTail _ (PySem.Expr.Name _ _) (Value.ref _) (Value.int _ _)) _ _ _); k_dflt (refine name3_at (by k_asm) (by k_mem) (by omega) (by omega) ?_); intro tnm9Q) | ((with_reducible show wpAny _ _ (setAttr (Value.ref _) (Str.ofString "status") (Value.int _ _)) _ _ _); (fail_if_success (with_reducible show wpAny _ _ (setAttr _ _ (Value.int 0 _)) _ _ _)); refine stop ?_) | ((with_reducible show wpAny _ _ (setItem (Value.ref _) (Value.str _ _) _) _ _ _); refine stop ?_) | ((with_reducible show wpAny _ _ (setItem (Value.ref _) (Value.int _ _) _) _ _ _); refine stop ?_) | ((fail_if_success (with_reducible refine Stop.go ?_)); (first | (k_unfold; (try dsimp only)) | (k_end; wrow_close) | walk1 | (dsimp only; walk1) | (leave1; walk_say "STEP leave1"; try dsimp only) | fail "no step"))))
        (rename Fr _ _ _ _ => F9); (rename News _ _ _ _ => N9)
        obtain ⟨P', hP'⟩ := pre_step hP hi NP (fun p hp h1 h2 h3 => toD p (subA p hp h1) h3 h2 (off p hp)) hn hnm
          (toD _ tkA ne7 ne5 TKI) (by rw [eT]; exact dTK') (mem_offOf (subD _ (subC _ mdB (by (show @Ne Nat MD dM); (try dsimp only at dMMD); (first | assumption | exact Nat.le_refl _ | (apply Nat.le_of_lt; assumption) | (apply Nat.ne_of_lt; assumption) | (apply Nat.ne_of_gt; assumption) | (apply Nat.ne_of_lt; apply Nat.lt_trans; assumption; assumption) | (apply Nat.ne_of_gt; apply Nat.lt_trans; assumption; assumption) | (apply Nat.ne_of_lt; apply Nat.lt_trans; rotate_left; assumption; assumption) | (apply Nat.ne_of_gt; apply Nat.lt_trans; rotate_left; assumption; assumption) | (apply Nat.ne_of_gt; apply Nat.lt_of_lt_of_le; assumption; assumption) | (apply Nat.ne_of_lt; apply Nat.lt_of_lt_of_le; assumption; assumption) | omega))) (Ne.symm ne9)) MDI) (by rw [eM]; exact dMD') (mem_offOf nmD NMI) dNM' (mem_offOf sD (by (show @Ne Nat S I); have : @LT.lt Nat _ I S := x5 _ iC; (first | assumption | exact Nat.le_refl _ | (apply Nat.le_of_lt; assumption) | (apply Nat.ne_of_lt; assumption) | (apply Nat.ne_of_gt; assumption) | (apply Nat.ne_of_lt; apply Nat.lt_trans; assumption; assumption) | (apply Nat.ne_of_gt; apply Nat.lt_trans; assumption; assumption) | (apply Nat.ne_of_lt; apply Nat.lt_trans; rotate_left; assumption; assumption) | (apply Nat.ne_of_gt; apply Nat.lt_trans; rotate_left; assumption; assumption) | (apply Nat.ne_of_gt; apply Nat.lt_of_lt_of_le; assumption; assumption) | (apply Nat.ne_of_lt; apply Nat.lt_of_lt_of_le; assumption; assumption) | omega))) hy ey
          (fun p hp => by rw [eT]; (show @Ne Nat p.1 T); have := lt1 p hp; (first | assumption | exact Nat.le_refl _ | (apply Nat.le_of_lt; assumption) | (apply Nat.ne_of_lt; assumption) | (apply Nat.ne_of_gt; assumption) | (apply Nat.ne_of_lt; apply Nat.lt_trans; assumption; assumption) | (apply Nat.ne_of_gt; apply Nat.lt_trans; assumption; assumption) | (apply Nat.ne_of_lt; apply Nat.lt_trans; rotate_left; assumption; assumption) | (apply Nat.ne_of_gt; apply Nat.lt_trans; rotate_left; assumption; assumption) | (apply Nat.ne_of_gt; apply Nat.lt_of_lt_of_le; assumption; assumption) | (apply Nat.ne_of_lt; apply Nat.lt_of_lt_of_le; assumption; assumption) | omega)) (fun p hp => by rw [edM]; (show @Ne Nat p.1 dM); have := lt1 p hp; have := frA _ tA; (try dsimp only at this); first | exact Nat.ne_of_lt this | exact Nat.ne_of_gt this | omega) (by rw [eT, edM]; (show @Ne Nat T dM); have := frA _ tA; (try dsimp only at this); first | exact Nat.ne_of_lt this | exact Nat.ne_of_gt this | omega)
        refine TurnV.next (news' := offOf I nwD) F9 (led_rot N9 iD) led_off ⟨⟨by with_unfolding_all exact j1, ⟨_, _, _, _, _, _, _, P'⟩, by with_unfolding_all exact j2, by with_unfolding_all exact j3, hP'⟩, trivial⟩
      rintro h tk m' news' F' N' ⟨j1, x, hx⟩
      (try dsimp only)
      (repeat' (first | ((with_reducible show wpAny _ _ (compareOp CmpOp.Eq (Value.ref _) (Value.ref _)) _ _ _); refine stop ?_) | (k_here; (with_reducible show wpAny _ _ (subscriptTail _ (PySem.Expr.Name _ _) (Value.ref _) (Value.int _ _)) _ _ _); k_dflt (refine name3_at (by k_asm) (by k_mem) (by omega) (by omega) ?_); intro tnm9Q) | ((with_reducible show wpAny _ _ (setAttr (Value.ref _) (Str.ofString "status") (Value.int _ _)) _ _ _); (fail_if_success (with_reducible show wpAny _ _ (setAttr _ _ (Value.int 0 _)) _ _ _)); refine stop ?_) | ((with_reducible show wpAny _ _ (setItem (Value.ref _) (Value.str _ _) _) _ _ _); refine stop ?_) | ((with_reducible show wpAny _ _ (setItem (Value.ref _) (Value.int _ _) _) _ _ _); refine stop ?_) | ((fail_if_success (with_reducible refine Stop.go ?_)); (first | (k_unfold; (try dsimp only)) | (k_end; wrow_close) | walk1 | (dsimp only; walk1) | (leave1; walk_say "STEP leave1"; try dsimp only) | fail "no step"))))
      (rename Fr _ _ _ _ => F3); (rename News _ _ _ _ => N3)
      exact SeqV.next K1 F3 N3 ⟨j1, x, hx⟩
    rintro h2 tk2 m2 nw2 F2 N2 ⟨j1, x, j2, j3, hP⟩
    (try dsimp only)
    (try k_fold)
    refine seq_cut (b1 := [_, _]) F2 (fun m nw => m (Str.ofString "script") = some (.ref sc) ∧ ∃ y : SX, y.Is w m nw 0) ?_ ?_
    · intro Q1 K1; have hNM := hP.hNM
      have hW := hP.hW
      have dW := hP.dW
      have hnl : x.P.nml.length ≤ 100 := by have := congrArg List.length hP.nn; simp at this; omega
      (repeat' (first | ((with_reducible show wpAny _ _ (compareOp CmpOp.Eq (Value.ref _) (Value.ref _)) _ _ _); refine stop ?_) | (k_here; (with_reducible show wpAny _ _ (subscriptTail _ (PySem.Expr.Name _ _) (Value.ref _) (Value.int _ _)) _ _ _); k_dflt (refine name3_at (by k_asm) (by k_mem) (by omega) (by omega) ?_); intro tnm9Q) | ((with_reducible show wpAny _ _ (setAttr (Value.ref _) (Str.ofString "status") (Value.int _ _)) _ _ _); (fail_if_success (with_reducible show wpAny _ _ (setAttr _ _ (Value.int 0 _)) _ _ _)); refine stop ?_) | ((with_reducible show wpAny _ _ (setItem (Value.ref _) (Value.str _ _) _) _ _ _); refine stop ?_) | ((with_reducible show wpAny _ _ (setItem (Value.ref _) (Value.int _ _) _) _ _ _); refine stop ?_) | ((fail_if_success (with_reducible refine Stop.go ?_)); (first | (k_unfold; (try dsimp only)) | (k_end; wrow_close) | walk1 | (dsimp only; walk1) | (leave1; walk_say "STEP leave1"; try dsimp only) | fail "no step"))))
      (rename News _ _ _ _ => N4)
      (rename Fr _ _ _ _ => F4)
      (try dsimp only at N4 F4)
      obtain ⟨nwA, eA⟩ := led_of N4
      obtain ⟨m4, em4⟩ := map_of F4
      have hbk : ∃ bk : BL, BookAt w nwA nw2 bk ∧ m4 (Str.ofString "book") = some (.ref bk.B) := by
        rw [eA, em4]
        refine ⟨⟨_, _, _, _, _, _, _, _, _, _, _, _, _, _, _, _, _, _, _, _, _, _⟩, { hB := by k_mem, hdB := by k_mem, htb := ⟨_, by k_mem, by assumption⟩, htk := ⟨_, by k_mem, by assumption⟩, hfl := ⟨_, by k_mem, by assumption⟩, ltb := by assumption, ltk := by assumption, lfl := by assumption, x1 := by k_ne, x2 := by k_ne, x3 := by k_ne, hEL := by k_mem, fdB := ?_, ftb := ?_, ftk := ?_, ffl := ?_, sub := ?_ }, rfl⟩
        · exact tail_lt (by assumption) (by intro p hp; (repeat (first | exact hp | refine List.Mem.tail _ ?_)); done)
        · exact tail_lt (by assumption) (by intro p hp; (repeat (first | exact hp | refine List.Mem.tail _ ?_)); done)
        · exact tail_lt (by assumption) (by intro p hp; (repeat (first | exact hp | refine List.Mem.tail _ ?_)); done)
        · exact tail_lt (by assumption) (by intro p hp; (repeat (first | exact hp | refine List.Mem.tail _ ?_)); done)
        · intro p hp; (repeat (first | exact hp | refine List.Mem.tail _ ?_)); done
      obtain ⟨bk, hbk, hbB⟩ := hbk
      rw [em4] at hbB
      have N5 := led_as eA N4
      have hNM5 := hbk.sub _ hNM
      clear N4 eA
      refine Stop.go ?_
      (try k_fold)
      k_dflt refine (Spec.use (by k_asm) F4 (by k_asm) N5 (by k_asm) (by first | exact rfl | assumption) (objects_spec hNM5 hP.dNM hP.lNM hnl) (by ktr_room) (by ktr_units) ?_)
      k_dflt (intro v9 h9 tk9 nw8 p9 F8 N8)
      (try dsimp only at F8 N8 ⊢)
      obtain ⟨y, ev, eW, eMD, eB, S, D⟩ := start2 hP hbk (FnL.of N8) p9
      subst ev
      (repeat' (first | ((with_reducible show wpAny _ _ (compareOp CmpOp.Eq (Value.ref _) (Value.ref _)) _ _ _); refine stop ?_) | (k_here; (with_reducible show wpAny _ _ (subscriptTail _ (PySem.Expr.Name _ _) (Value.ref _) (Value.int _ _)) _ _ _); k_dflt (refine name3_at (by k_asm) (by k_mem) (by omega) (by omega) ?_); intro tnm9Q) | ((with_reducible show wpAny _ _ (setAttr (Value.ref _) (Str.ofString "status") (Value.int _ _)) _ _ _); (fail_if_success (with_reducible show wpAny _ _ (setAttr _ _ (Value.int 0 _)) _ _ _)); refine stop ?_) | ((with_reducible show wpAny _ _ (setItem (Value.ref _) (Value.str _ _) _) _ _ _); refine stop ?_) | ((with_reducible show wpAny _ _ (setItem (Value.ref _) (Value.int _ _) _) _ _ _); refine stop ?_) | ((fail_if_success (with_reducible refine Stop.go ?_)); (first | (k_unfold; (try dsimp only)) | (k_end; wrow_close) | walk1 | (dsimp only; walk1) | (leave1; walk_say "STEP leave1"; try dsimp only) | fail "no step"))))
      (rename Fr _ _ _ _ => F5); (rename News _ _ _ _ => N9)
      exact SeqV.next K1 F5 N9 ⟨by with_unfolding_all exact j1, y, { mworld := by rw [eW]; with_unfolding_all exact j2, mmade := by rw [eMD]; with_unfolding_all exact j3, mbook := by rw [eB]; with_unfolding_all exact hbB, mobjects := by with_unfolding_all rfl, S := S, D := D }⟩
    rintro h3 tk3 m3 nw3 F3 N3 ⟨j1, ⟨fx, G, σ0⟩, j2, j3, j4, j5, S, D⟩
    dsimp only at j2 j3 j4 j5 S D
    (try dsimp only)
    (try k_fold)
    (repeat' (first | ((with_reducible show wpAny _ _ (compareOp CmpOp.Eq (Value.ref _) (Value.ref _)) _ _ _); refine stop ?_) | (k_here; (with_reducible show wpAny _ _ (subscriptTail _ (PySem.Expr.Name _ _) (Value.ref _) (Value.int _ _)) _ _ _); k_dflt (refine name3_at (by k_asm) (by k_mem) (by omega) (by omega) ?_); intro tnm9Q) | ((with_reducible show wpAny _ _ (setAttr (Value.ref _) (Str.ofString "status") (Value.int _ _)) _ _ _); (fail_if_success (with_reducible show wpAny _ _ (setAttr _ _ (Value.int 0 _)) _ _ _)); refine stop ?_) | ((with_reducible show wpAny _ _ (setItem (Value.ref _) (Value.str _ _) _) _ _ _); refine stop ?_) | ((with_reducible show wpAny _ _ (setItem (Value.ref _) (Value.int _ _) _) _ _ _); refine stop ?_) | ((fail_if_success (with_reducible refine Stop.go ?_)); (first | (k_unfold; (try dsimp only)) | (k_end; wrow_close) | walk1 | (dsimp only; walk1) | (leave1; walk_say "STEP leave1"; try dsimp only) | fail "no step"))))
    (rename Fr _ _ _ _ => F5)
    refine Stop.go (For_RG F5 rfl rfl ?_)
    (repeat' (first | ((with_reducible show wpAny _ _ (compareOp CmpOp.Eq (Value.ref _) (Value.ref _)) _ _ _); refine stop ?_) | (k_here; (with_reducible show wpAny _ _ (subscriptTail _ (PySem.Expr.Name _ _) (Value.ref _) (Value.int _ _)) _ _ _); k_dflt (refine name3_at (by k_asm) (by k_mem) (by omega) (by omega) ?_); intro tnm9Q) | ((with_reducible show wpAny _ _ (setAttr (Value.ref _) (Str.ofString "status") (Value.int _ _)) _ _ _); (fail_if_success (with_reducible show wpAny _ _ (setAttr _ _ (Value.int 0 _)) _ _ _)); refine stop ?_) | ((with_reducible show wpAny _ _ (setItem (Value.ref _) (Value.str _ _) _) _ _ _); refine stop ?_) | ((with_reducible show wpAny _ _ (setItem (Value.ref _) (Value.int _ _) _) _ _ _); refine stop ?_) | ((fail_if_success (with_reducible refine Stop.go ?_)); (first | (k_unfold; (try dsimp only)) | (k_end; wrow_close) | walk1 | (dsimp only; walk1) | (leave1; walk_say "STEP leave1"; try dsimp only) | fail "no step"))))
    (rename IsRange _ _ _ _ _ _ _ _ => R6); (rename Fr _ _ _ _ => F6); (rename News _ _ _ _ => N6)
    (rename IntsAre _ _ => hI)
    obtain ⟨vs, ns, ev, en⟩ := ints_at hI
    obtain ⟨b, eb⟩ := range_at R6
    rw [← eb] at R6
    have hb : 0 ≤ b ∧ b ≤ 34 := by
      have := Int.fdiv_nonneg (show (0 : Int) ≤ (ns.length : Int) by omega) (show (0 : Int) ≤ 5 by decide)
      rw [eb, ← en]; split <;> omega
    obtain ⟨nb, hnb⟩ : ∃ n : Nat, b = n := ⟨b.toNat, by omega⟩
    subst hnb
    clear eb ev en
    refine ⟨_, _, _, _, _, _, nb, _, _, fun i m nw => m (Str.ofString "script") = some (.ref sc) ∧ m (Str.ofString "world") = some (.ref G.W) ∧ m (Str.ofString "made") = some (.ref G.MD) ∧ m (Str.ofString "book") = some (.ref G.b.B) ∧ m (Str.ofString "objects") = some (.ref G.OD) ∧ (∃ x t, m (Str.ofString "now") = some (.int x t)) ∧ ∃ σ, Dyn w fx nw G σ i,
      rfl, rfl, F6, N6, R6, small_one (by decide) (by decide) (by omega) (by omega), by rw [rangeSize_nat]; simp, ⟨by with_unfolding_all exact j1, by with_unfolding_all exact j2, by with_unfolding_all exact j3, by with_unfolding_all exact j4, by with_unfolding_all exact j5, ⟨_, _, by with_unfolding_all rfl⟩, _, D⟩, ?_, ?_⟩
    · rintro i t m₁ news₁ h tk I oI hi hc hJ9 off F₁ N₁
      refine and7 hJ9 fun j1 j2 j3 j4 j5 q59 q69 => ?_
      obtain ⟨x, tx, j6⟩ := q59
      obtain ⟨σ, D⟩ := q69
      (try dsimp only)
      (try dsimp only)
      refine seq_cut (b1 := [_, _, _]) F₁ (fun m nw => m (Str.ofString "script") = m₁ (Str.ofString "script") ∧ m (Str.ofString "world") = some (.ref G.W) ∧ m (Str.ofString "made") = some (.ref G.MD) ∧ m (Str.ofString "book") = some (.ref G.b.B) ∧ m (Str.ofString "objects") = some (.ref G.OD) ∧ (∃ x t, m (Str.ofString "now") = some (.int x t)) ∧ ∃ σ, Dyn w ((I, oI) :: fx) nw G σ (0 + (i : Int) + 1)) ?_ ?_
      · intro Q1 K1; (repeat' (first | ((with_reducible show wpAny _ _ (compareOp CmpOp.Eq (Value.ref _) (Value.ref _)) _ _ _); refine stop ?_) | (k_here; (with_reducible show wpAny _ _ (subscriptTail _ (PySem.Expr.Name _ _) (Value.ref _) (Value.int _ _)) _ _ _); k_dflt (refine name3_at (by k_asm) (by k_mem) (by omega) (by omega) ?_); intro tnm9Q) | ((with_reducible show wpAny _ _ (setAttr (Value.ref _) (Str.ofString "status") (Value.int _ _)) _ _ _); (fail_if_success (with_reducible show wpAny _ _ (setAttr _ _ (Value.int 0 _)) _ _ _)); refine stop ?_) | ((with_reducible show wpAny _ _ (setItem (Value.ref _) (Value.str _ _) _) _ _ _); refine stop ?_) | ((with_reducible show wpAny _ _ (setItem (Value.ref _) (Value.int _ _) _) _ _ _); refine stop ?_) | ((fail_if_success (with_reducible refine Stop.go ?_)); (first | (k_unfold; (try dsimp only)) | (k_end; wrow_close) | walk1 | (dsimp only; walk1) | (leave1; walk_say "STEP leave1"; try dsimp only) | fail "no step"))))
        refine Stop.go ?_
        (try k_fold)
        k_dflt refine (Spec.use (by k_asm) (by k_asm) (by k_asm) (by k_asm) (by k_asm) (by first | exact rfl | assumption) (draw_spec (by assumption) (by assumption) (by omega) (by omega) (by omega)) (by ktr_room) (by ktr_units) ?_)
        rintro v h' tk nwx ⟨rfl, dr, tdr, rfl, hdr⟩ F8 N8
        (try dsimp only at F8 N8 ⊢)
        (try k_fold)
        (repeat' (first | ((with_reducible show wpAny _ _ (compareOp CmpOp.Eq (Value.ref _) (Value.ref _)) _ _ _); refine stop ?_) | (k_here; (with_reducible show wpAny _ _ (subscriptTail _ (PySem.Expr.Name _ _) (Value.ref _) (Value.int _ _)) _ _ _); k_dflt (refine name3_at (by k_asm) (by k_mem) (by omega) (by omega) ?_); intro tnm9Q) | ((with_reducible show wpAny _ _ (setAttr (Value.ref _) (Str.ofString "status") (Value.int _ _)) _ _ _); (fail_if_success (with_reducible show wpAny _ _ (setAttr _ _ (Value.int 0 _)) _ _ _)); refine stop ?_) | ((with_reducible show wpAny _ _ (setItem (Value.ref _) (Value.str _ _) _) _ _ _); refine stop ?_) | ((with_reducible show wpAny _ _ (setItem (Value.ref _) (Value.int _ _) _) _ _ _); refine stop ?_) | ((fail_if_success (with_reducible refine Stop.go ?_)); (first | (k_unfold; (try dsimp only)) | (k_end; wrow_close) | walk1 | (dsimp only; walk1) | (leave1; walk_say "STEP leave1"; try dsimp only) | fail "no step"))))
        refine Stop.go ?_
        (try k_fold)
        k_dflt refine (Spec.use (by k_asm) (by k_asm) (by k_asm) (by k_asm) (by k_asm) (by first | exact rfl | assumption) (digits_spec (bs := [12, 8, 1099511627776]) (by k_mem) (by (repeat (first | exact IntsAre.nil | refine IntsAre.cons _ _ ?_))) (by decide) (by decide) hdr) (by ktr_room) (by ktr_units) ?_)
        rintro v h' tk nwx ⟨l9, ys, rfl, rfl, hys, hl9⟩ F8 N8
        refine digsE3 hys (by decide) (by decide) (by decide) hdr fun what wait rest t1 t2 t3 l1 u1 l2 u2 l3 u3 ey => ?_
        subst ey
        have t9 : Halt 0 := trivial
        clear hys
        (try dsimp only at F8 N8 ⊢)
        (try k_fold)
        (repeat' (first | ((with_reducible show wpAny _ _ (compareOp CmpOp.Eq (Value.ref _) (Value.ref _)) _ _ _); refine stop ?_) | (k_here; (with_reducible show wpAny _ _ (subscriptTail _ (PySem.Expr.Name _ _) (Value.ref _) (Value.int _ _)) _ _ _); k_dflt (refine name3_at (by k_asm) (by k_mem) (by omega) (by omega) ?_); intro tnm9Q) | ((with_reducible show wpAny _ _ (setAttr (Value.ref _) (Str.ofString "status") (Value.int _ _)) _ _ _); (fail_if_success (with_reducible show wpAny _ _ (setAttr _ _ (Value.int 0 _)) _ _ _)); refine stop ?_) | ((with_reducible show wpAny _ _ (setItem (Value.ref _) (Value.str _ _) _) _ _ _); refine stop ?_) | ((with_reducible show wpAny _ _ (setItem (Value.ref _) (Value.int _ _) _) _ _ _); refine stop ?_) | ((fail_if_success (with_reducible refine Stop.go ?_)); (first | (k_unfold; (try dsimp only)) | (k_end; wrow_close) | walk1 | (dsimp only; walk1) | (leave1; walk_say "STEP leave1"; try dsimp only) | fail "no step"))))
        · (rename News _ _ _ _ => N7)
          (rename Fr _ _ _ _ => F7)
          obtain ⟨nwA, eA⟩ := led_of N7
          have subA : ∀ p ∈ (I, oI) :: news₁, p ∈ nwA := by rw [eA]; intro p hp; (repeat (first | exact hp | refine List.Mem.tail _ ?_)); done
          have N7a := led_as eA N7
          clear N7 eA
          have S' := S.cons (I := I) (oI := oI) hc
          have D' : Dyn w ((I, oI) :: fx) nwA G σ (0 + (i : Int)) := by rw [Int.zero_add]; exact D.cons off subA
          refine Stop.go ?_
          (try k_fold)
          k_dflt refine (Spec.use (by k_asm) F7 (by k_asm) N7a (by k_asm) (by first | exact rfl | assumption) (ask_spec S' D' (by omega) l3) (by ktr_room) (by ktr_units) ?_)
          k_dflt (intro v9 h9 tk9 nw8 p9 F8 N8)
          (try dsimp only at F8 N8 ⊢)
          obtain ⟨rfl, σ', D8⟩ := p9
          (try k_fold)
          (repeat' (first | ((with_reducible show wpAny _ _ (compareOp CmpOp.Eq (Value.ref _) (Value.ref _)) _ _ _); refine stop ?_) | (k_here; (with_reducible show wpAny _ _ (subscriptTail _ (PySem.Expr.Name _ _) (Value.ref _) (Value.int _ _)) _ _ _); k_dflt (refine name3_at (by k_asm) (by k_mem) (by omega) (by omega) ?_); intro tnm9Q) | ((with_reducible show wpAny _ _ (setAttr (Value.ref _) (Str.ofString "status") (Value.int _ _)) _ _ _); (fail_if_success (with_reducible show wpAny _ _ (setAttr _ _ (Value.int 0 _)) _ _ _)); refine stop ?_) | ((with_reducible show wpAny _ _ (setItem (Value.ref _) (Value.str _ _) _) _ _ _); refine stop ?_) | ((with_reducible show wpAny _ _ (setItem (Value.ref _) (Value.int _ _) _) _ _ _); refine stop ?_) | ((fail_if_success (with_reducible refine Stop.go ?_)); (first | (k_unfold; (try dsimp only)) | (k_end; wrow_close) | walk1 | (dsimp only; walk1) | (leave1; walk_say "STEP leave1"; try dsimp only) | fail "no step"))))
          (rename Fr _ _ _ _ => F9); (rename News _ _ _ _ => N9)
          refine SeqV.next K1 F9 N9 ⟨by with_unfolding_all rfl, by with_unfolding_all exact j2, by with_unfolding_all exact j3, by with_unfolding_all exact j4, by with_unfolding_all exact j5, ⟨_, _, by with_unfolding_all rfl⟩, σ', D8.mono (Int.le_refl _) (by intro p hp; (repeat (first | exact hp | refine List.Mem.tail _ ?_)); done)⟩
        · (rename News _ _ _ _ => N7)
          (rename Fr _ _ _ _ => F7)
          obtain ⟨nwA, eA⟩ := led_of N7
          have subA : ∀ p ∈ (I, oI) :: news₁, p ∈ nwA := by rw [eA]; intro p hp; (repeat (first | exact hp | refine List.Mem.tail _ ?_)); done
          have N7a := led_as eA N7
          clear N7 eA
          have S' := S.cons (I := I) (oI := oI) hc
          have D' : Dyn w ((I, oI) :: fx) nwA G σ (0 + (i : Int)) := by rw [Int.zero_add]; exact D.cons off subA
          refine Stop.go ?_
          (try k_fold)
          k_dflt refine (Spec.use (by k_asm) F7 (by k_asm) N7a (by k_asm) (by first | exact rfl | assumption) (took_spec S' D' (by omega) l3) (by ktr_room) (by ktr_units) ?_)
          k_dflt (intro v9 h9 tk9 nw8 p9 F8 N8)
          (try dsimp only at F8 N8 ⊢)
          obtain ⟨rfl, σ', D8⟩ := p9
          (try k_fold)
          (repeat' (first | ((with_reducible show wpAny _ _ (compareOp CmpOp.Eq (Value.ref _) (Value.ref _)) _ _ _); refine stop ?_) | (k_here; (with_reducible show wpAny _ _ (subscriptTail _ (PySem.Expr.Name _ _) (Value.ref _) (Value.int _ _)) _ _ _); k_dflt (refine name3_at (by k_asm) (by k_mem) (by omega) (by omega) ?_); intro tnm9Q) | ((with_reducible show wpAny _ _ (setAttr (Value.ref _) (Str.ofString "status") (Value.int _ _)) _ _ _); (fail_if_success (with_reducible show wpAny _ _ (setAttr _ _ (Value.int 0 _)) _ _ _)); refine stop ?_) | ((with_reducible show wpAny _ _ (setItem (Value.ref _) (Value.str _ _) _) _ _ _); refine stop ?_) | ((with_reducible show wpAny _ _ (setItem (Value.ref _) (Value.int _ _) _) _ _ _); refine stop ?_) | ((fail_if_success (with_reducible refine Stop.go ?_)); (first | (k_unfold; (try dsimp only)) | (k_end; wrow_close) | walk1 | (dsimp only; walk1) | (leave1; walk_say "STEP leave1"; try dsimp only) | fail "no step"))))
          (rename Fr _ _ _ _ => F9); (rename News _ _ _ _ => N9)
          refine SeqV.next K1 F9 N9 ⟨by with_unfolding_all rfl, by with_unfolding_all exact j2, by with_unfolding_all exact j3, by with_unfolding_all exact j4, by with_unfolding_all exact j5, ⟨_, _, by with_unfolding_all rfl⟩, σ', D8.mono (Int.le_refl _) (by intro p hp; (repeat (first | exact hp | refine List.Mem.tail _ ?_)); done)⟩
        · (rename News _ _ _ _ => N7)
          (rename Fr _ _ _ _ => F7)
          obtain ⟨nwA, eA⟩ := led_of N7
          have subA : ∀ p ∈ (I, oI) :: news₁, p ∈ nwA := by rw [eA]; intro p hp; (repeat (first | exact hp | refine List.Mem.tail _ ?_)); done
          have N7a := led_as eA N7
          clear N7 eA
          have S' := S.cons (I := I) (oI := oI) hc
          have D' : Dyn w ((I, oI) :: fx) nwA G σ (0 + (i : Int)) := by rw [Int.zero_add]; exact D.cons off subA
          have hwh : what = 9 ∨ what = 10 ∨ what = 11 := by omega
          rcases hwh with rfl | rfl | rfl
          · refine Stop.go ?_
            (try k_fold)
            k_dflt refine (Spec.use (by k_asm) F7 (by k_asm) N7a (by k_asm) (by first | exact rfl | assumption) (turn9_spec S' D' (by omega) (by omega) l3) (by ktr_room) (by ktr_units) ?_)
            k_dflt (intro v9 h9 tk9 nw8 p9 F8 N8)
            (try dsimp only at F8 N8 ⊢)
            obtain ⟨rfl, σ', D8⟩ := p9
            (try k_fold)
            (repeat' (first | ((with_reducible show wpAny _ _ (compareOp CmpOp.Eq (Value.ref _) (Value.ref _)) _ _ _); refine stop ?_) | (k_here; (with_reducible show wpAny _ _ (subscriptTail _ (PySem.Expr.Name _ _) (Value.ref _) (Value.int _ _)) _ _ _); k_dflt (refine name3_at (by k_asm) (by k_mem) (by omega) (by omega) ?_); intro tnm9Q) | ((with_reducible show wpAny _ _ (setAttr (Value.ref _) (Str.ofString "status") (Value.int _ _)) _ _ _); (fail_if_success (with_reducible show wpAny _ _ (setAttr _ _ (Value.int 0 _)) _ _ _)); refine stop ?_) | ((with_reducible show wpAny _ _ (setItem (Value.ref _) (Value.str _ _) _) _ _ _); refine stop ?_) | ((with_reducible show wpAny _ _ (setItem (Value.ref _) (Value.int _ _) _) _ _ _); refine stop ?_) | ((fail_if_success (with_reducible refine Stop.go ?_)); (first | (k_unfold; (try dsimp only)) | (k_end; wrow_close) | walk1 | (dsimp only; walk1) | (leave1; walk_say "STEP leave1"; try dsimp only) | fail "no step"))))
            (rename Fr _ _ _ _ => F9); (rename News _ _ _ _ => N9)
            refine SeqV.next K1 F9 N9 ⟨by with_unfolding_all rfl, by with_unfolding_all exact j2, by with_unfolding_all exact j3, by with_unfolding_all exact j4, by with_unfolding_all exact j5, ⟨_, _, by with_unfolding_all rfl⟩, σ', D8.mono (Int.le_refl _) (by intro p hp; (repeat (first | exact hp | refine List.Mem.tail _ ?_)); done)⟩
          · refine Stop.go ?_
            (try k_fold)
            k_dflt refine (Spec.use (by k_asm) F7 (by k_asm) N7a (by k_asm) (by first | exact rfl | assumption) (turn10_spec S' D' (by omega) (by omega) l3) (by ktr_room) (by ktr_units) ?_)
            k_dflt (intro v9 h9 tk9 nw8 p9 F8 N8)
            (try dsimp only at F8 N8 ⊢)
            obtain ⟨rfl, σ', D8⟩ := p9
            (try k_fold)
            (repeat' (first | ((with_reducible show wpAny _ _ (compareOp CmpOp.Eq (Value.ref _) (Value.ref _)) _ _ _); refine stop ?_) | (k_here; (with_reducible show wpAny _ _ (subscriptTail _ (PySem.Expr.Name _ _) (Value.ref _) (Value.int _ _)) _ _ _); k_dflt (refine name3_at (by k_asm) (by k_mem) (by omega) (by omega) ?_); intro tnm9Q) | ((with_reducible show wpAny _ _ (setAttr (Value.ref _) (Str.ofString "status") (Value.int _ _)) _ _ _); (fail_if_success (with_reducible show wpAny _ _ (setAttr _ _ (Value.int 0 _)) _ _ _)); refine stop ?_) | ((with_reducible show wpAny _ _ (setItem (Value.ref _) (Value.str _ _) _) _ _ _); refine stop ?_) | ((with_reducible show wpAny _ _ (setItem (Value.ref _) (Value.int _ _) _) _ _ _); refine stop ?_) | ((fail_if_success (with_reducible refine Stop.go ?_)); (first | (k_unfold; (try dsimp only)) | (k_end; wrow_close) | walk1 | (dsimp only; walk1) | (leave1; walk_say "STEP leave1"; try dsimp only) | fail "no step"))))
            (rename Fr _ _ _ _ => F9); (rename News _ _ _ _ => N9)
            refine SeqV.next K1 F9 N9 ⟨by with_unfolding_all rfl, by with_unfolding_all exact j2, by with_unfolding_all exact j3, by with_unfolding_all exact j4, by with_unfolding_all exact j5, ⟨_, _, by with_unfolding_all rfl⟩, σ', D8.mono (Int.le_refl _) (by intro p hp; (repeat (first | exact hp | refine List.Mem.tail _ ?_)); done)⟩
          · refine Stop.go ?_
            (try k_fold)
            k_dflt refine (Spec.use (by k_asm) F7 (by k_asm) N7a (by k_asm) (by first | exact rfl | assumption) (turn11_spec S' D' (by omega) (by omega) l3) (by ktr_room) (by ktr_units) ?_)
            k_dflt (intro v9 h9 tk9 nw8 p9 F8 N8)
            (try dsimp only at F8 N8 ⊢)
            obtain ⟨rfl, σ', D8⟩ := p9
            (try k_fold)
            (repeat' (first | ((with_reducible show wpAny _ _ (compareOp CmpOp.Eq (Value.ref _) (Value.ref _)) _ _ _); refine stop ?_) | (k_here; (with_reducible show wpAny _ _ (subscriptTail _ (PySem.Expr.Name _ _) (Value.ref _) (Value.int _ _)) _ _ _); k_dflt (refine name3_at (by k_asm) (by k_mem) (by omega) (by omega) ?_); intro tnm9Q) | ((with_reducible show wpAny _ _ (setAttr (Value.ref _) (Str.ofString "status") (Value.int _ _)) _ _ _); (fail_if_success (with_reducible show wpAny _ _ (setAttr _ _ (Value.int 0 _)) _ _ _)); refine stop ?_) | ((with_reducible show wpAny _ _ (setItem (Value.ref _) (Value.str _ _) _) _ _ _); refine stop ?_) | ((with_reducible show wpAny _ _ (setItem (Value.ref _) (Value.int _ _) _) _ _ _); refine stop ?_) | ((fail_if_success (with_reducible refine Stop.go ?_)); (first | (k_unfold; (try dsimp only)) | (k_end; wrow_close) | walk1 | (dsimp only; walk1) | (leave1; walk_say "STEP leave1"; try dsimp only) | fail "no step"))))
            (rename Fr _ _ _ _ => F9); (rename News _ _ _ _ => N9)
            refine SeqV.next K1 F9 N9 ⟨by with_unfolding_all rfl, by with_unfolding_all exact j2, by with_unfolding_all exact j3, by with_unfolding_all exact j4, by with_unfolding_all exact j5, ⟨_, _, by with_unfolding_all rfl⟩, σ', D8.mono (Int.le_refl _) (by intro p hp; (repeat (first | exact hp | refine List.Mem.tail _ ?_)); done)⟩
      · rintro h8 tk8 m8 nw8 F8 N8 ⟨j0, j2, j3, j4, j5, ⟨x, tx, j6⟩, σ', D8⟩
        rw [j1] at j0
        have S' := S.cons (I := I) (oI := oI) hc
        have len8 := D8.len
        (try dsimp only)
        (try k_fold)
        (repeat' (first | ((with_reducible show wpAny _ _ (compareOp CmpOp.Eq (Value.ref _) (Value.ref _)) _ _ _); refine stop ?_) | (k_here; (with_reducible show wpAny _ _ (subscriptTail _ (PySem.Expr.Name _ _) (Value.ref _) (Value.int _ _)) _ _ _); k_dflt (refine name3_at (by k_asm) (by k_mem) (by omega) (by omega) ?_); intro tnm9Q) | ((with_reducible show wpAny _ _ (setAttr (Value.ref _) (Str.ofString "status") (Value.int _ _)) _ _ _); (fail_if_success (with_reducible show wpAny _ _ (setAttr _ _ (Value.int 0 _)) _ _ _)); refine stop ?_) | ((with_reducible show wpAny _ _ (setItem (Value.ref _) (Value.str _ _) _) _ _ _); refine stop ?_) | ((with_reducible show wpAny _ _ (setItem (Value.ref _) (Value.int _ _) _) _ _ _); refine stop ?_) | ((fail_if_success (with_reducible refine Stop.go ?_)); (first | (k_unfold; (try dsimp only)) | (k_end; wrow_close) | walk1 | (dsimp only; walk1) | (leave1; walk_say "STEP leave1"; try dsimp only) | fail "no step"))))
        refine Stop.go ?_
        (try k_fold)
        k_dflt refine (Spec.use (by k_asm) (by k_asm) (by k_asm) (by k_asm) (by k_asm) (by first | exact rfl | assumption) (is_list_spec (bk := G.bk σ') (D8.fxs _ S'.hW) S'.dW (D8.fxs _ S'.hTK) S'.dTK (D8.hz S') D8.hSD S'.lSD D8.hS D8.hat (by omega) (D8.bk S') D8.hEL D8.hes D8.cor.length (fun j e x => D8.cor.get j e x)) (by ktr_room) (by ktr_units) ?_)
        k_dflt (intro v9 h9 tk9 nw9 p9 F9 N9)
        obtain ⟨rfl, sub9⟩ := p9
        (try dsimp only at F9 N9 ⊢)
        (try k_fold)
        have D9 := D8.mono (Int.le_refl _) sub9
        have N9f := FnL.of N9
        have D10 := D9.offI N9f hc (fun p hp => off _ (D.fxs p hp))
        have hI := D9.fxs _ (List.Mem.head _)
        have e10 : 0 + (i : Int) + 1 = ((i + 1 : Nat) : Int) := by omega
        rw [e10] at D10
        (repeat' (first | ((with_reducible show wpAny _ _ (compareOp CmpOp.Eq (Value.ref _) (Value.ref _)) _ _ _); refine stop ?_) | (k_here; (with_reducible show wpAny _ _ (subscriptTail _ (PySem.Expr.Name _ _) (Value.ref _) (Value.int _ _)) _ _ _); k_dflt (refine name3_at (by k_asm) (by k_mem) (by omega) (by omega) ?_); intro tnm9Q) | ((with_reducible show wpAny _ _ (setAttr (Value.ref _) (Str.ofString "status") (Value.int _ _)) _ _ _); (fail_if_success (with_reducible show wpAny _ _ (setAttr _ _ (Value.int 0 _)) _ _ _)); refine stop ?_) | ((with_reducible show wpAny _ _ (setItem (Value.ref _) (Value.str _ _) _) _ _ _); refine stop ?_) | ((with_reducible show wpAny _ _ (setItem (Value.ref _) (Value.int _ _) _) _ _ _); refine stop ?_) | ((fail_if_success (with_reducible refine Stop.go ?_)); (first | (k_unfold; (try dsimp only)) | (k_end; wrow_close) | walk1 | (dsimp only; walk1) | (leave1; walk_say "STEP leave1"; try dsimp only) | fail "no step"))))
        (rename Fr _ _ _ _ => F9b); (rename News _ _ _ _ => N9b)
        refine TurnV.next (news' := offOf I nw9) F9b (led_rot N9b hI) led_off ⟨⟨by with_unfolding_all exact j0, by with_unfolding_all exact j2, by with_unfolding_all exact j3, by with_unfolding_all exact j4, by with_unfolding_all exact j5, ⟨_, _, by with_unfolding_all exact j6⟩, _, D10⟩, trivial⟩
    rintro h tk m' news' F' N' hJ9
    refine and7 hJ9 fun j1 j2 j3 j4 j5 q59 q69 => ?_
    obtain ⟨x, tx, j6⟩ := q59
    obtain ⟨σ, D⟩ := q69
    (try dsimp only)
    have hW := D.fxs _ S.hW
    have hNM := D.fxs _ S.hNM
    have dWG := S.dW
    have hnl2 : G.nml.length ≤ 100 := by have := congrArg List.length S.nn; simp at this; omega
    (repeat' (first | ((with_reducible show wpAny _ _ (compareOp CmpOp.Eq (Value.ref _) (Value.ref _)) _ _ _); refine stop ?_) | (k_here; (with_reducible show wpAny _ _ (subscriptTail _ (PySem.Expr.Name _ _) (Value.ref _) (Value.int _ _)) _ _ _); k_dflt (refine name3_at (by k_asm) (by k_mem) (by omega) (by omega) ?_); intro tnm9Q) | ((with_reducible show wpAny _ _ (setAttr (Value.ref _) (Str.ofString "status") (Value.int _ _)) _ _ _); (fail_if_success (with_reducible show wpAny _ _ (setAttr _ _ (Value.int 0 _)) _ _ _)); refine stop ?_) | ((with_reducible show wpAny _ _ (setItem (Value.ref _) (Value.str _ _) _) _ _ _); refine stop ?_) | ((with_reducible show wpAny _ _ (setItem (Value.ref _) (Value.int _ _) _) _ _ _); refine stop ?_) | ((fail_if_success (with_reducible refine Stop.go ?_)); (first | (k_unfold; (try dsimp only)) | (k_end; wrow_close) | walk1 | (dsimp only; walk1) | (leave1; walk_say "STEP leave1"; try dsimp only) | fail "no step"))))
    (rename News _ _ _ _ => N7)
    (rename Fr _ _ _ _ => F7)
    refine Stop.go ?_
    (try k_fold)
    k_dflt refine (Spec.use (by k_asm) F7 (by k_asm) N7 (by k_asm) (by first | exact rfl | assumption) (objects_spec (D.fxs _ S.hNM) S.dNM S.lNM hnl2) (by ktr_room) (by ktr_units) ?_)
    k_dflt (intro v9 h9 tk9 nw8 p9 F8 N8)
    obtain ⟨OD2, oO2, ol2, z2, rfl, lOD2, hOD2, hO2, hoat2, hom2, zk2, zv2, sub2, fD2⟩ := p9
    (try dsimp only at F8 N8 ⊢)
    (try k_fold)
    have D2 := D.mono (Int.le_refl _) sub2
    (repeat' (first | ((with_reducible show wpAny _ _ (compareOp CmpOp.Eq (Value.ref _) (Value.ref _)) _ _ _); refine stop ?_) | (k_here; (with_reducible show wpAny _ _ (subscriptTail _ (PySem.Expr.Name _ _) (Value.ref _) (Value.int _ _)) _ _ _); k_dflt (refine name3_at (by k_asm) (by k_mem) (by omega) (by omega) ?_); intro tnm9Q) | ((with_reducible show wpAny _ _ (setAttr (Value.ref _) (Str.ofString "status") (Value.int _ _)) _ _ _); (fail_if_success (with_reducible show wpAny _ _ (setAttr _ _ (Value.int 0 _)) _ _ _)); refine stop ?_) | ((with_reducible show wpAny _ _ (setItem (Value.ref _) (Value.str _ _) _) _ _ _); refine stop ?_) | ((with_reducible show wpAny _ _ (setItem (Value.ref _) (Value.int _ _) _) _ _ _); refine stop ?_) | ((fail_if_success (with_reducible refine Stop.go ?_)); (first | (k_unfold; (try dsimp only)) | (k_end; wrow_close) | walk1 | (dsimp only; walk1) | (leave1; walk_say "STEP leave1"; try dsimp only) | fail "no step"))))
    refine Stop.go ?_
    (rename News _ _ _ _ => N9)
    refine objs_eq N9 (D2.fxs _ S.hOD) hOD2 S.hO hO2 (fun x hx => OL.At.up S.hoat hx D2.fxs) hoat2 S.lOD lOD2 (.snoc ((S.hom.mono fun p hp _ => D2.fxs p hp).same hom2) (S.zk.trans zk2.symm) (.inr ⟨_, _, (let ⟨c, t0, t1, t2, t3, t4, e, h⟩ := S.zv; ⟨c, t0, t1, t2, t3, t4, e, D2.fxs _ h⟩), zv2⟩)) (by ktr_units) ?_
    intro tk9
    (repeat' (first | ((with_reducible show wpAny _ _ (compareOp CmpOp.Eq (Value.ref _) (Value.ref _)) _ _ _); refine stop ?_) | (k_here; (with_reducible show wpAny _ _ (subscriptTail _ (PySem.Expr.Name _ _) (Value.ref _) (Value.int _ _)) _ _ _); k_dflt (refine name3_at (by k_asm) (by k_mem) (by omega) (by omega) ?_); intro tnm9Q) | ((with_reducible show wpAny _ _ (setAttr (Value.ref _) (Str.ofString "status") (Value.int _ _)) _ _ _); (fail_if_success (with_reducible show wpAny _ _ (setAttr _ _ (Value.int 0 _)) _ _ _)); refine stop ?_) | ((with_reducible show wpAny _ _ (setItem (Value.ref _) (Value.str _ _) _) _ _ _); refine stop ?_) | ((with_reducible show wpAny _ _ (setItem (Value.ref _) (Value.int _ _) _) _ _ _); refine stop ?_) | ((fail_if_success (with_reducible refine Stop.go ?_)); (first | (k_unfold; (try dsimp only)) | (k_end; wrow_close) | walk1 | (dsimp only; walk1) | (leave1; walk_say "STEP leave1"; try dsimp only) | fail "no step"))))
    (rename News _ _ _ _ => N10)
    (rename Fr _ _ _ _ => F10)
    obtain ⟨nwZ, eZ⟩ := led_of N10
    have DZ := D2.mono (Int.le_refl _) (show ∀ p ∈ nw8, p ∈ nwZ by rw [eZ]; intro p hp; (repeat (first | exact hp | refine List.Mem.tail _ ?_)); done)
    have N11 := led_as eZ N10
    have hts : ∀ x ∈ Mine.N3.map (G.x σ), ∃ n ∈ Mine.N3, x = G.x σ n ∧ x.n = n := fun x hx => by
      obtain ⟨n, hn, rfl⟩ := List.mem_map.mp hx
      exact ⟨n, hn, rfl, S.tn n hn⟩
    refine Stop.go ?_
    (try k_fold)
    k_dflt refine (Spec.use (by k_asm) F10 (by k_asm) N11 (by k_asm) (by first | exact rfl | assumption) (are_same_spec (ts := Mine.N3.map (G.x σ)) (bk := G.bk σ) (DZ.fxs _ S.hW) S.dW (DZ.fxs _ S.hTK) S.dTK (DZ.fxs _ S.hMD) S.dMD S.lMD (same_mdl S) (fun x hx => by obtain ⟨n, hn, rfl, e⟩ := hts x hx; rw [e]; exact ⟨S.vT hn, S.vM hn⟩) (fun x hx => by obtain ⟨n, hn, rfl, e⟩ := hts x hx; exact DZ.tl S hn) (DZ.bk S) (by rw [List.length_map]; decide)) (by ktr_room) (by ktr_units) ?_)
    k_dflt (intro v9 h9 tk9 nw9 p9 F9 N9)
    subst p9
    (try dsimp only at F9 N9 ⊢)
    repeat (k_unfold; (try dsimp only))
    kc_bool
    refine goodW_bool (by with_reducible assumption) (by with_reducible assumption) (raisesW_false ?_) ?_
    · wrow_none_raised
    · refine postW_of (by wrow_shape) (w_eq_bool (w_res rfl) w_lit) ?_
      rfl
    ))
end Mine

theorem PySem.Challenge.cw_pf0335_01_holds : PySem.Challenge.rw_pf0335_01.Holds :=
  Mine.law_try
