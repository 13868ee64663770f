import PyProof.Rows.All
import Wide.All
import OpenK.AllK
import Wide.FinOn
import PySem.Challenge.RW_on0117_01
open PySem PySem.W PyProof.Rows
set_option Elab.async false
set_option rowWalk.seconds 1600
set_option compiler.extract_closed false
set_option linter.all false
namespace Mine
set_option maxRecDepth 100000
set_option maxHeartbeats 8000000
noncomputable def inTop (i : Nat) : Option Stmt := PySem.Challenge.pw_on0117_01.main.body[i]?
noncomputable def inCls (i j : Nat) : Option Stmt := match PySem.Challenge.pw_on0117_01.main.body[i]? with
  | some (.ClassDef _ _ _ body ..) => body[j]?
  | _ => none
noncomputable abbrev fnObj (o : Option Stmt) {n : Str} {a : Arguments} {b : List Stmt} {c d e s f g i} (_ : o = some (.FunctionDef n a b c d e s f g i)) (F : Arguments → List Stmt → Scope → FuncData) : Obj := { cls := Value.type "function", data := Data.func (F a b s) }
noncomputable def hd.heap_39 : Params → Frag := fun P =>
  (nat_lit 2, { cls := Value.none, data := Data.dict #[{ hash := PyData.keyHash P (Str.ofString "type.__subclasses__.Exception.0"), key := Value.str (Str.ofString "type.__subclasses__.Exception.0") 221, val := Value.int 32 0 }, { hash := PyData.keyHash P (Str.ofString "type.__subclasses__.Exception.n"), key := Value.str (Str.ofString "type.__subclasses__.Exception.n") 222, val := Value.int 1 0 }] 2 }) ::
  (nat_lit 3, { cls := Value.type "dict", data := Data.dict #[{ hash := PyData.keyHash P (Str.ofString "__name__"), key := Value.str (Str.ofString "__name__") 165, val := Value.str (Str.ofString "law_on0117_01") 678 }, { hash := PyData.keyHash P (Str.ofString "__doc__"), key := Value.str (Str.ofString "__doc__") 166, val := Value.none }, { hash := PyData.keyHash P (Str.ofString "__package__"), key := Value.str (Str.ofString "__package__") 167, val := Value.none }, { hash := PyData.keyHash P (Str.ofString "__loader__"), key := Value.str (Str.ofString "__loader__") 168, val := Value.builtin "__main__.__loader__#opaque" }, { hash := PyData.keyHash P (Str.ofString "__spec__"), key := Value.str (Str.ofString "__spec__") 169, val := Value.none }, { hash := PyData.keyHash P (Str.ofString "__annotations__"), key := Value.str (Str.ofString "__annotations__") 170, val := Value.ref 6 }, { hash := PyData.keyHash P (Str.ofString "__builtins__"), key := Value.str (Str.ofString "__builtins__") 171, val := Value.ref 4 }, { hash := PyData.keyHash P (Str.ofString "__file__"), key := Value.str (Str.ofString "__file__") 173, val := Value.str (Str.ofString "/claim/cut.py") 172 }, { hash := PyData.keyHash P (Str.ofString "__cached__"), key := Value.str (Str.ofString "__cached__") 174, val := Value.none }, { hash := PyData.keyHash P (Str.ofString "GateloomError"), key := Value.str (Str.ofString "GateloomError") 224, val := Value.ref 32 }, { hash := PyData.keyHash P (Str.ofString "DesignError"), key := Value.str (Str.ofString "DesignError") 240, val := Value.ref 45 }, { hash := PyData.keyHash P (Str.ofString "mask"), key := Value.str (Str.ofString "mask") 249, val := Value.ref 54 }, { hash := PyData.keyHash P (Str.ofString "zeros"), key := Value.str (Str.ofString "zeros") 256, val := Value.ref 61 }, { hash := PyData.keyHash P (Str.ofString "all_x"), key := Value.str (Str.ofString "all_x") 264, val := Value.ref 68 }, { hash := PyData.keyHash P (Str.ofString "from_int"), key := Value.str (Str.ofString "from_int") 272, val := Value.ref 75 }, { hash := PyData.keyHash P (Str.ofString "is_known"), key := Value.str (Str.ofString "is_known") 279, val := Value.ref 82 }, { hash := PyData.keyHash P (Str.ofString "to_int"), key := Value.str (Str.ofString "to_int") 290, val := Value.ref 89 }, { hash := PyData.keyHash P (Str.ofString "code"), key := Value.str (Str.ofString "code") 298, val := Value.ref 96 }, { hash := PyData.keyHash P (Str.ofString "z_to_x"), key := Value.str (Str.ofString "z_to_x") 305, val := Value.ref 103 }, { hash := PyData.keyHash P (Str.ofString "truth"), key := Value.str (Str.ofString "truth") 312, val := Value.ref 110 }, { hash := PyData.keyHash P (Str.ofString "add"), key := Value.str (Str.ofString "add") 322, val := Value.ref 117 }, { hash := PyData.keyHash P (Str.ofString "sub"), key := Value.str (Str.ofString "sub") 330, val := Value.ref 124 }, { hash := PyData.keyHash P (Str.ofString "mul"), key := Value.str (Str.ofString "mul") 338, val := Value.ref 131 }, { hash := PyData.keyHash P (Str.ofString "neg"), key := Value.str (Str.ofString "neg") 345, val := Value.ref 138 }, { hash := PyData.keyHash P (Str.ofString "quotient"), key := Value.str (Str.ofString "quotient") 354, val := Value.ref 145 }, { hash := PyData.keyHash P (Str.ofString "div"), key := Value.str (Str.ofString "div") 365, val := Value.ref 152 }, { hash := PyData.keyHash P (Str.ofString "mod"), key := Value.str (Str.ofString "mod") 376, val := Value.ref 159 }, { hash := PyData.keyHash P (Str.ofString "shift_left"), key := Value.str (Str.ofString "shift_left") 386, val := Value.ref 166 }, { hash := PyData.keyHash P (Str.ofString "shift_right"), key := Value.str (Str.ofString "shift_right") 395, val := Value.ref 173 }, { hash := PyData.keyHash P (Str.ofString "shift_arith"), key := Value.str (Str.ofString "shift_arith") 410, val := Value.ref 180 }, { hash := PyData.keyHash P (Str.ofString "ordered"), key := Value.str (Str.ofString "ordered") 421, val := Value.ref 187 }, { hash := PyData.keyHash P (Str.ofString "less"), key := Value.str (Str.ofString "less") 431, val := Value.ref 194 }, { hash := PyData.keyHash P (Str.ofString "less_equal"), key := Value.str (Str.ofString "less_equal") 441, val := Value.ref 201 }, { hash := PyData.keyHash P (Str.ofString "greater"), key := Value.str (Str.ofString "greater") 450, val := Value.ref 208 }, { hash := PyData.keyHash P (Str.ofString "greater_equal"), key := Value.str (Str.ofString "greater_equal") 459, val := Value.ref 215 }, { hash := PyData.keyHash P (Str.ofString "one_bit"), key := Value.str (Str.ofString "one_bit") 468, val := Value.ref 222 }, { hash := PyData.keyHash P (Str.ofString "bit_not"), key := Value.str (Str.ofString "bit_not") 478, val := Value.ref 229 }, { hash := PyData.keyHash P (Str.ofString "bit_and"), key := Value.str (Str.ofString "bit_and") 492, val := Value.ref 236 }, { hash := PyData.keyHash P (Str.ofString "bit_or"), key := Value.str (Str.ofString "bit_or") 507, val := Value.ref 243 }, { hash := PyData.keyHash P (Str.ofString "bit_xor"), key := Value.str (Str.ofString "bit_xor") 516, val := Value.ref 250 }, { hash := PyData.keyHash P (Str.ofString "bit_xnor"), key := Value.str (Str.ofString "bit_xnor") 524, val := Value.ref 257 }, { hash := PyData.keyHash P (Str.ofString "reduce_and"), key := Value.str (Str.ofString "reduce_and") 534, val := Value.ref 264 }, { hash := PyData.keyHash P (Str.ofString "reduce_nand"), key := Value.str (Str.ofString "reduce_nand") 541, val := Value.ref 271 }, { hash := PyData.keyHash P (Str.ofString "reduce_or"), key := Value.str (Str.ofString "reduce_or") 548, val := Value.ref 278 }, { hash := PyData.keyHash P (Str.ofString "reduce_nor"), key := Value.str (Str.ofString "reduce_nor") 555, val := Value.ref 285 }, { hash := PyData.keyHash P (Str.ofString "reduce_xor"), key := Value.str (Str.ofString "reduce_xor") 564, val := Value.ref 292 }, { hash := PyData.keyHash P (Str.ofString "reduce_xnor"), key := Value.str (Str.ofString "reduce_xnor") 571, val := Value.ref 299 }, { hash := PyData.keyHash P (Str.ofString "logic_not"), key := Value.str (Str.ofString "logic_not") 578, val := Value.ref 306 }, { hash := PyData.keyHash P (Str.ofString "logic_and"), key := Value.str (Str.ofString "logic_and") 586, val := Value.ref 313 }, { hash := PyData.keyHash P (Str.ofString "logic_or"), key := Value.str (Str.ofString "logic_or") 594, val := Value.ref 320 }, { hash := PyData.keyHash P (Str.ofString "equal"), key := Value.str (Str.ofString "equal") 603, val := Value.ref 327 }, { hash := PyData.keyHash P (Str.ofString "not_equal"), key := Value.str (Str.ofString "not_equal") 611, val := Value.ref 334 }, { hash := PyData.keyHash P (Str.ofString "case_equal"), key := Value.str (Str.ofString "case_equal") 619, val := Value.ref 341 }, { hash := PyData.keyHash P (Str.ofString "case_not_equal"), key := Value.str (Str.ofString "case_not_equal") 627, val := Value.ref 348 }, { hash := PyData.keyHash P (Str.ofString "unary"), key := Value.str (Str.ofString "unary") 637, val := Value.ref 355 }, { hash := PyData.keyHash P (Str.ofString "arithmetic"), key := Value.str (Str.ofString "arithmetic") 647, val := Value.ref 362 }, { hash := PyData.keyHash P (Str.ofString "comparison"), key := Value.str (Str.ofString "comparison") 657, val := Value.ref 369 }, { hash := PyData.keyHash P (Str.ofString "bitwise"), key := Value.str (Str.ofString "bitwise") 666, val := Value.ref 376 }, { hash := PyData.keyHash P (Str.ofString "binary"), key := Value.str (Str.ofString "binary") 677, val := Value.ref 383 }, { hash := PyData.keyHash P (Str.ofString "_law_take"), key := Value.str (Str.ofString "_law_take") 689, val := Value.ref 390 }, { hash := PyData.keyHash P (Str.ofString "_law_vector"), key := Value.str (Str.ofString "_law_vector") 699, val := Value.ref 397 }, { hash := PyData.keyHash P (Str.ofString "_law_code"), key := Value.str (Str.ofString "_law_code") 707, val := Value.ref 404 }, { hash := PyData.keyHash P (Str.ofString "_law_whole"), key := Value.str (Str.ofString "_law_whole") 717, val := Value.ref 411 }, { hash := PyData.keyHash P (Str.ofString "_law_two"), key := Value.str (Str.ofString "_law_two") 733, val := Value.ref 418 }, { hash := PyData.keyHash P (Str.ofString "_law_one"), key := Value.str (Str.ofString "_law_one") 744, val := Value.ref 425 }, { hash := PyData.keyHash P (Str.ofString "_law_fillings"), key := Value.str (Str.ofString "_law_fillings") 756, val := Value.ref 432 }, { hash := PyData.keyHash P (Str.ofString "law"), key := Value.str (Str.ofString "law") 781, val := Value.ref 439 }] 67 }) ::
  (nat_lit 15, { cls := Value.type "tuple", data := Data.seq #[Value.type "Exception"] }) ::
  (nat_lit 22, { cls := Value.type "tuple", data := Data.seq #[Value.int (-1) 202, Value.str (Str.ofString "") 203] }) ::
  (nat_lit 23, { cls := Value.type "tuple", data := Data.seq #[] }) ::
  (nat_lit 25, { cls := Value.type "tuple", data := Data.seq #[Value.str (Str.ofString "self") 207, Value.str (Str.ofString "kind") 208, Value.str (Str.ofString "at") 209, Value.str (Str.ofString "detail") 210] }) ::
  (nat_lit 26, { cls := Value.type "tuple", data := Data.seq #[] }) ::
  (nat_lit 28, { cls := Value.type "code", data := Data.fields #[Value.str (Str.ofString "__init__") 204, Value.str (Str.ofString "GateloomError.__init__") 205, Value.str (Str.ofString "/claim/cut.py") 206, Value.int 4 0, Value.int 4 0, Value.int 0 0, Value.int 0 0, Value.int 3 0, Value.ref 23, Value.bool true, Value.int 181 0, Value.ref 24, Value.none, Value.ref 25, Value.ref 26, Value.ref 27, Value.int 211 0, Value.int 4 0, Value.str (Str.ofString "/claim/cut.py") 212] }) ::
  (nat_lit 29, fnObj (inCls 1 0) rfl (fun a b s => { name := Str.ofString "__init__", qualname := Str.ofString "GateloomError.__init__", params := a, body := .stmts b, scope := s, globals := 3, closure := [], defaults := Value.ref 22, kwdefaults := Value.none, pyModule := Value.str (Str.ofString "gateloom.errors") 187, code := Value.ref 28 })) ::
  (nat_lit 30, { cls := Value.type "tuple", data := Data.seq #[Value.str (Str.ofString "at") 214, Value.str (Str.ofString "detail") 215, Value.str (Str.ofString "kind") 216] }) ::
  (nat_lit 31, { cls := Value.type "dict", data := Data.dict #[{ hash := PyData.keyHash P (Str.ofString "__module__"), key := Value.str (Str.ofString "__module__") 196, val := Value.str (Str.ofString "gateloom.errors") 187 }, { hash := PyData.keyHash P (Str.ofString "__firstlineno__"), key := Value.str (Str.ofString "__firstlineno__") 200, val := Value.int 2 199 }, { hash := PyData.keyHash P (Str.ofString "__init__"), key := Value.str (Str.ofString "__init__") 213, val := Value.ref 29 }, { hash := PyData.keyHash P (Str.ofString "__static_attributes__"), key := Value.str (Str.ofString "__static_attributes__") 217, val := Value.ref 30 }, { hash := PyData.keyHash P (Str.ofString "__weakref__"), key := Value.str (Str.ofString "__weakref__") 219, val := Value.ref 33 }, { hash := PyData.keyHash P (Str.ofString "__doc__"), key := Value.str (Str.ofString "__doc__") 220, val := Value.none }] 3 }) ::
  (nat_lit 32, { cls := Value.type "type", data := Data.cls { name := Str.ofString "GateloomError", bases := [Value.type "Exception"], mro := [Value.ref 32, Value.type "Exception", Value.type "BaseException", Value.type "object"], ns := 31, qualname := Str.ofString "GateloomError", subclasses := [Value.ref 45] }, slots := #[some (Value.ref 15), none, some (Value.str (Str.ofString "GateloomError") 189), some (Value.str (Str.ofString "GateloomError") 197), some (Value.builtin "Exception.__new__"), some (Value.bool true)] }) ::
  (nat_lit 33, { cls := Value.type "getset_descriptor", data := Data.fields #[Value.str (Str.ofString "__weakref__") 218, Value.ref 32, Value.builtin "ExceptionGroup.__weakref__", Value.none] }) ::
  (nat_lit 36, { cls := Value.type "tuple", data := Data.seq #[Value.ref 32] }) ::
  (nat_lit 43, { cls := Value.type "tuple", data := Data.seq #[] }) ::
  (nat_lit 44, { cls := Value.type "dict", data := Data.dict #[{ hash := PyData.keyHash P (Str.ofString "__module__"), key := Value.str (Str.ofString "__module__") 232, val := Value.str (Str.ofString "gateloom.errors") 187 }, { hash := PyData.keyHash P (Str.ofString "__firstlineno__"), key := Value.str (Str.ofString "__firstlineno__") 236, val := Value.int 8 235 }, { hash := PyData.keyHash P (Str.ofString "__static_attributes__"), key := Value.str (Str.ofString "__static_attributes__") 237, val := Value.ref 43 }, { hash := PyData.keyHash P (Str.ofString "__doc__"), key := Value.str (Str.ofString "__doc__") 238, val := Value.none }] 2 }) ::
  (nat_lit 45, { cls := Value.type "type", data := Data.cls { name := Str.ofString "DesignError", bases := [Value.ref 32], mro := [Value.ref 45, Value.ref 32, Value.type "Exception", Value.type "BaseException", Value.type "object"], ns := 44, qualname := Str.ofString "DesignError" }, slots := #[some (Value.ref 36), none, some (Value.str (Str.ofString "DesignError") 225), some (Value.str (Str.ofString "DesignError") 233), some (Value.builtin "Exception.__new__"), some (Value.bool true)] }) ::
  (nat_lit 48, { cls := Value.type "tuple", data := Data.seq #[] }) ::
  (nat_lit 50, { cls := Value.type "tuple", data := Data.seq #[Value.str (Str.ofString "w") 246] }) ::
  (nat_lit 51, { cls := Value.type "tuple", data := Data.seq #[] }) ::
  (nat_lit 53, { cls := Value.type "code", data := Data.fields #[Value.str (Str.ofString "mask") 243, Value.str (Str.ofString "mask") 244, Value.str (Str.ofString "/claim/cut.py") 245, Value.int 11 0, Value.int 1 0, Value.int 0 0, Value.int 0 0, Value.int 3 0, Value.ref 48, Value.bool true, Value.int 181 0, Value.ref 49, Value.none, Value.ref 50, Value.ref 51, Value.ref 52, Value.int 247 0, Value.int 11 0, Value.str (Str.ofString "/claim/cut.py") 248] }) ::
  (nat_lit 54, fnObj (inTop 4) rfl (fun a b s => { name := Str.ofString "mask", qualname := Str.ofString "mask", params := a, body := .stmts b, scope := s, globals := 3, closure := [], defaults := Value.none, kwdefaults := Value.none, pyModule := Value.str (Str.ofString "gateloom.vec") 241, code := Value.ref 53 })) ::
  (nat_lit 55, { cls := Value.type "tuple", data := Data.seq #[] }) ::
  (nat_lit 57, { cls := Value.type "tuple", data := Data.seq #[Value.str (Str.ofString "w") 253] }) ::
  (nat_lit 58, { cls := Value.type "tuple", data := Data.seq #[] }) ::
  (nat_lit 60, { cls := Value.type "code", data := Data.fields #[Value.str (Str.ofString "zeros") 250, Value.str (Str.ofString "zeros") 251, Value.str (Str.ofString "/claim/cut.py") 252, Value.int 13 0, Value.int 1 0, Value.int 0 0, Value.int 0 0, Value.int 3 0, Value.ref 55, Value.bool true, Value.int 181 0, Value.ref 56, Value.none, Value.ref 57, Value.ref 58, Value.ref 59, Value.int 254 0, Value.int 13 0, Value.str (Str.ofString "/claim/cut.py") 255] }) ::
  (nat_lit 61, fnObj (inTop 5) rfl (fun a b s => { name := Str.ofString "zeros", qualname := Str.ofString "zeros", params := a, body := .stmts b, scope := s, globals := 3, closure := [], defaults := Value.none, kwdefaults := Value.none, pyModule := Value.str (Str.ofString "gateloom.vec") 241, code := Value.ref 60 })) ::
  (nat_lit 62, { cls := Value.type "tuple", data := Data.seq #[] }) ::
  (nat_lit 64, { cls := Value.type "tuple", data := Data.seq #[Value.str (Str.ofString "w") 260, Value.str (Str.ofString "full") 261] }) ::
  (nat_lit 65, { cls := Value.type "tuple", data := Data.seq #[] }) ::
  (nat_lit 67, { cls := Value.type "code", data := Data.fields #[Value.str (Str.ofString "all_x") 257, Value.str (Str.ofString "all_x") 258, Value.str (Str.ofString "/claim/cut.py") 259, Value.int 15 0, Value.int 1 0, Value.int 0 0, Value.int 0 0, Value.int 3 0, Value.ref 62, Value.bool true, Value.int 181 0, Value.ref 63, Value.none, Value.ref 64, Value.ref 65, Value.ref 66, Value.int 262 0, Value.int 15 0, Value.str (Str.ofString "/claim/cut.py") 263] }) ::
  (nat_lit 68, fnObj (inTop 6) rfl (fun a b s => { name := Str.ofString "all_x", qualname := Str.ofString "all_x", params := a, body := .stmts b, scope := s, globals := 3, closure := [], defaults := Value.none, kwdefaults := Value.none, pyModule := Value.str (Str.ofString "gateloom.vec") 241, code := Value.ref 67 })) ::
  (nat_lit 69, { cls := Value.type "tuple", data := Data.seq #[] }) ::
  (nat_lit 71, { cls := Value.type "tuple", data := Data.seq #[Value.str (Str.ofString "w") 268, Value.str (Str.ofString "n") 269] }) ::
  (nat_lit 72, { cls := Value.type "tuple", data := Data.seq #[] }) ::
  (nat_lit 74, { cls := Value.type "code", data := Data.fields #[Value.str (Str.ofString "from_int") 265, Value.str (Str.ofString "from_int") 266, Value.str (Str.ofString "/claim/cut.py") 267, Value.int 18 0, Value.int 2 0, Value.int 0 0, Value.int 0 0, Value.int 3 0, Value.ref 69, Value.bool true, Value.int 181 0, Value.ref 70, Value.none, Value.ref 71, Value.ref 72, Value.ref 73, Value.int 270 0, Value.int 18 0, Value.str (Str.ofString "/claim/cut.py") 271] }) ::
  (nat_lit 75, fnObj (inTop 7) rfl (fun a b s => { name := Str.ofString "from_int", qualname := Str.ofString "from_int", params := a, body := .stmts b, scope := s, globals := 3, closure := [], defaults := Value.none, kwdefaults := Value.none, pyModule := Value.str (Str.ofString "gateloom.vec") 241, code := Value.ref 74 })) ::
  (nat_lit 76, { cls := Value.type "tuple", data := Data.seq #[] }) ::
  (nat_lit 78, { cls := Value.type "tuple", data := Data.seq #[Value.str (Str.ofString "v") 276] }) ::
  (nat_lit 79, { cls := Value.type "tuple", data := Data.seq #[] }) ::
  (nat_lit 81, { cls := Value.type "code", data := Data.fields #[Value.str (Str.ofString "is_known") 273, Value.str (Str.ofString "is_known") 274, Value.str (Str.ofString "/claim/cut.py") 275, Value.int 20 0, Value.int 1 0, Value.int 0 0, Value.int 0 0, Value.int 3 0, Value.ref 76, Value.bool true, Value.int 181 0, Value.ref 77, Value.none, Value.ref 78, Value.ref 79, Value.ref 80, Value.int 277 0, Value.int 20 0, Value.str (Str.ofString "/claim/cut.py") 278] }) ::
  (nat_lit 82, fnObj (inTop 8) rfl (fun a b s => { name := Str.ofString "is_known", qualname := Str.ofString "is_known", params := a, body := .stmts b, scope := s, globals := 3, closure := [], defaults := Value.none, kwdefaults := Value.none, pyModule := Value.str (Str.ofString "gateloom.vec") 241, code := Value.ref 81 })) ::
  (nat_lit 83, { cls := Value.type "tuple", data := Data.seq #[] }) ::
  (nat_lit 85, { cls := Value.type "tuple", data := Data.seq #[Value.str (Str.ofString "v") 283, Value.str (Str.ofString "signed") 284, Value.str (Str.ofString "w") 285, Value.str (Str.ofString "a") 286, Value.str (Str.ofString "b") 287] }) ::
  (nat_lit 86, { cls := Value.type "tuple", data := Data.seq #[] }) ::
  (nat_lit 88, { cls := Value.type "code", data := Data.fields #[Value.str (Str.ofString "to_int") 280, Value.str (Str.ofString "to_int") 281, Value.str (Str.ofString "/claim/cut.py") 282, Value.int 22 0, Value.int 2 0, Value.int 0 0, Value.int 0 0, Value.int 3 0, Value.ref 83, Value.bool true, Value.int 181 0, Value.ref 84, Value.none, Value.ref 85, Value.ref 86, Value.ref 87, Value.int 288 0, Value.int 22 0, Value.str (Str.ofString "/claim/cut.py") 289] }) ::
  (nat_lit 89, fnObj (inTop 9) rfl (fun a b s => { name := Str.ofString "to_int", qualname := Str.ofString "to_int", params := a, body := .stmts b, scope := s, globals := 3, closure := [], defaults := Value.none, kwdefaults := Value.none, pyModule := Value.str (Str.ofString "gateloom.vec") 241, code := Value.ref 88 })) ::
  (nat_lit 90, { cls := Value.type "tuple", data := Data.seq #[] }) ::
  (nat_lit 92, { cls := Value.type "tuple", data := Data.seq #[Value.str (Str.ofString "v") 294, Value.str (Str.ofString "i") 295] }) ::
  (nat_lit 93, { cls := Value.type "tuple", data := Data.seq #[] }) ::
  (nat_lit 95, { cls := Value.type "code", data := Data.fields #[Value.str (Str.ofString "code") 291, Value.str (Str.ofString "code") 292, Value.str (Str.ofString "/claim/cut.py") 293, Value.int 29 0, Value.int 2 0, Value.int 0 0, Value.int 0 0, Value.int 3 0, Value.ref 90, Value.bool true, Value.int 181 0, Value.ref 91, Value.none, Value.ref 92, Value.ref 93, Value.ref 94, Value.int 296 0, Value.int 29 0, Value.str (Str.ofString "/claim/cut.py") 297] }) ::
  (nat_lit 96, fnObj (inTop 10) rfl (fun a b s => { name := Str.ofString "code", qualname := Str.ofString "code", params := a, body := .stmts b, scope := s, globals := 3, closure := [], defaults := Value.none, kwdefaults := Value.none, pyModule := Value.str (Str.ofString "gateloom.vec") 241, code := Value.ref 95 })) ::
  (nat_lit 97, { cls := Value.type "tuple", data := Data.seq #[] }) ::
  (nat_lit 99, { cls := Value.type "tuple", data := Data.seq #[Value.str (Str.ofString "v") 302] }) ::
  (nat_lit 100, { cls := Value.type "tuple", data := Data.seq #[] }) ::
  (nat_lit 102, { cls := Value.type "code", data := Data.fields #[Value.str (Str.ofString "z_to_x") 299, Value.str (Str.ofString "z_to_x") 300, Value.str (Str.ofString "/claim/cut.py") 301, Value.int 31 0, Value.int 1 0, Value.int 0 0, Value.int 0 0, Value.int 3 0, Value.ref 97, Value.bool true, Value.int 181 0, Value.ref 98, Value.none, Value.ref 99, Value.ref 100, Value.ref 101, Value.int 303 0, Value.int 31 0, Value.str (Str.ofString "/claim/cut.py") 304] }) ::
  (nat_lit 103, fnObj (inTop 11) rfl (fun a b s => { name := Str.ofString "z_to_x", qualname := Str.ofString "z_to_x", params := a, body := .stmts b, scope := s, globals := 3, closure := [], defaults := Value.none, kwdefaults := Value.none, pyModule := Value.str (Str.ofString "gateloom.vec") 241, code := Value.ref 102 })) ::
  (nat_lit 104, { cls := Value.type "tuple", data := Data.seq #[] }) ::
  (nat_lit 106, { cls := Value.type "tuple", data := Data.seq #[Value.str (Str.ofString "v") 309] }) ::
  (nat_lit 107, { cls := Value.type "tuple", data := Data.seq #[] }) ::
  (nat_lit 109, { cls := Value.type "code", data := Data.fields #[Value.str (Str.ofString "truth") 306, Value.str (Str.ofString "truth") 307, Value.str (Str.ofString "/claim/cut.py") 308, Value.int 33 0, Value.int 1 0, Value.int 0 0, Value.int 0 0, Value.int 3 0, Value.ref 104, Value.bool true, Value.int 181 0, Value.ref 105, Value.none, Value.ref 106, Value.ref 107, Value.ref 108, Value.int 310 0, Value.int 33 0, Value.str (Str.ofString "/claim/cut.py") 311] }) ::
  (nat_lit 110, fnObj (inTop 12) rfl (fun a b s => { name := Str.ofString "truth", qualname := Str.ofString "truth", params := a, body := .stmts b, scope := s, globals := 3, closure := [], defaults := Value.none, kwdefaults := Value.none, pyModule := Value.str (Str.ofString "gateloom.vec") 241, code := Value.ref 109 })) ::
  (nat_lit 111, { cls := Value.type "tuple", data := Data.seq #[] }) ::
  (nat_lit 113, { cls := Value.type "tuple", data := Data.seq #[Value.str (Str.ofString "u") 318, Value.str (Str.ofString "v") 319] }) ::
  (nat_lit 114, { cls := Value.type "tuple", data := Data.seq #[] }) ::
  (nat_lit 116, { cls := Value.type "code", data := Data.fields #[Value.str (Str.ofString "add") 315, Value.str (Str.ofString "add") 316, Value.str (Str.ofString "/claim/cut.py") 317, Value.int 40 0, Value.int 2 0, Value.int 0 0, Value.int 0 0, Value.int 3 0, Value.ref 111, Value.bool true, Value.int 181 0, Value.ref 112, Value.none, Value.ref 113, Value.ref 114, Value.ref 115, Value.int 320 0, Value.int 40 0, Value.str (Str.ofString "/claim/cut.py") 321] }) ::
  (nat_lit 117, fnObj (inTop 14) rfl (fun a b s => { name := Str.ofString "add", qualname := Str.ofString "add", params := a, body := .stmts b, scope := s, globals := 3, closure := [], defaults := Value.none, kwdefaults := Value.none, pyModule := Value.str (Str.ofString "gateloom.vecarith") 313, code := Value.ref 116 })) ::
  (nat_lit 118, { cls := Value.type "tuple", data := Data.seq #[] }) ::
  (nat_lit 120, { cls := Value.type "tuple", data := Data.seq #[Value.str (Str.ofString "u") 326, Value.str (Str.ofString "v") 327] }) ::
  (nat_lit 121, { cls := Value.type "tuple", data := Data.seq #[] }) ::
  (nat_lit 123, { cls := Value.type "code", data := Data.fields #[Value.str (Str.ofString "sub") 323, Value.str (Str.ofString "sub") 324, Value.str (Str.ofString "/claim/cut.py") 325, Value.int 44 0, Value.int 2 0, Value.int 0 0, Value.int 0 0, Value.int 3 0, Value.ref 118, Value.bool true, Value.int 181 0, Value.ref 119, Value.none, Value.ref 120, Value.ref 121, Value.ref 122, Value.int 328 0, Value.int 44 0, Value.str (Str.ofString "/claim/cut.py") 329] }) ::
  (nat_lit 124, fnObj (inTop 15) rfl (fun a b s => { name := Str.ofString "sub", qualname := Str.ofString "sub", params := a, body := .stmts b, scope := s, globals := 3, closure := [], defaults := Value.none, kwdefaults := Value.none, pyModule := Value.str (Str.ofString "gateloom.vecarith") 313, code := Value.ref 123 })) ::
  (nat_lit 125, { cls := Value.type "tuple", data := Data.seq #[] }) ::
  (nat_lit 127, { cls := Value.type "tuple", data := Data.seq #[Value.str (Str.ofString "u") 334, Value.str (Str.ofString "v") 335] }) ::
  (nat_lit 128, { cls := Value.type "tuple", data := Data.seq #[] }) ::
  (nat_lit 130, { cls := Value.type "code", data := Data.fields #[Value.str (Str.ofString "mul") 331, Value.str (Str.ofString "mul") 332, Value.str (Str.ofString "/claim/cut.py") 333, Value.int 48 0, Value.int 2 0, Value.int 0 0, Value.int 0 0, Value.int 3 0, Value.ref 125, Value.bool true, Value.int 181 0, Value.ref 126, Value.none, Value.ref 127, Value.ref 128, Value.ref 129, Value.int 336 0, Value.int 48 0, Value.str (Str.ofString "/claim/cut.py") 337] }) ::
  (nat_lit 131, fnObj (inTop 16) rfl (fun a b s => { name := Str.ofString "mul", qualname := Str.ofString "mul", params := a, body := .stmts b, scope := s, globals := 3, closure := [], defaults := Value.none, kwdefaults := Value.none, pyModule := Value.str (Str.ofString "gateloom.vecarith") 313, code := Value.ref 130 })) ::
  (nat_lit 132, { cls := Value.type "tuple", data := Data.seq #[] }) ::
  (nat_lit 134, { cls := Value.type "tuple", data := Data.seq #[Value.str (Str.ofString "v") 342] }) ::
  (nat_lit 135, { cls := Value.type "tuple", data := Data.seq #[] }) ::
  (nat_lit 137, { cls := Value.type "code", data := Data.fields #[Value.str (Str.ofString "neg") 339, Value.str (Str.ofString "neg") 340, Value.str (Str.ofString "/claim/cut.py") 341, Value.int 52 0, Value.int 1 0, Value.int 0 0, Value.int 0 0, Value.int 3 0, Value.ref 132, Value.bool true, Value.int 181 0, Value.ref 133, Value.none, Value.ref 134, Value.ref 135, Value.ref 136, Value.int 343 0, Value.int 52 0, Value.str (Str.ofString "/claim/cut.py") 344] }) ::
  (nat_lit 138, fnObj (inTop 17) rfl (fun a b s => { name := Str.ofString "neg", qualname := Str.ofString "neg", params := a, body := .stmts b, scope := s, globals := 3, closure := [], defaults := Value.none, kwdefaults := Value.none, pyModule := Value.str (Str.ofString "gateloom.vecarith") 313, code := Value.ref 137 })) ::
  (nat_lit 139, { cls := Value.type "tuple", data := Data.seq #[] }) ::
  (nat_lit 141, { cls := Value.type "tuple", data := Data.seq #[Value.str (Str.ofString "m") 349, Value.str (Str.ofString "n") 350, Value.str (Str.ofString "found") 351] }) ::
  (nat_lit 142, { cls := Value.type "tuple", data := Data.seq #[] }) ::
  (nat_lit 144, { cls := Value.type "code", data := Data.fields #[Value.str (Str.ofString "quotient") 346, Value.str (Str.ofString "quotient") 347, Value.str (Str.ofString "/claim/cut.py") 348, Value.int 56 0, Value.int 2 0, Value.int 0 0, Value.int 0 0, Value.int 3 0, Value.ref 139, Value.bool true, Value.int 181 0, Value.ref 140, Value.none, Value.ref 141, Value.ref 142, Value.ref 143, Value.int 352 0, Value.int 56 0, Value.str (Str.ofString "/claim/cut.py") 353] }) ::
  (nat_lit 145, fnObj (inTop 18) rfl (fun a b s => { name := Str.ofString "quotient", qualname := Str.ofString "quotient", params := a, body := .stmts b, scope := s, globals := 3, closure := [], defaults := Value.none, kwdefaults := Value.none, pyModule := Value.str (Str.ofString "gateloom.vecarith") 313, code := Value.ref 144 })) ::
  (nat_lit 146, { cls := Value.type "tuple", data := Data.seq #[] }) ::
  (nat_lit 148, { cls := Value.type "tuple", data := Data.seq #[Value.str (Str.ofString "u") 358, Value.str (Str.ofString "v") 359, Value.str (Str.ofString "signed") 360, Value.str (Str.ofString "m") 361, Value.str (Str.ofString "n") 362] }) ::
  (nat_lit 149, { cls := Value.type "tuple", data := Data.seq #[] }) ::
  (nat_lit 151, { cls := Value.type "code", data := Data.fields #[Value.str (Str.ofString "div") 355, Value.str (Str.ofString "div") 356, Value.str (Str.ofString "/claim/cut.py") 357, Value.int 61 0, Value.int 3 0, Value.int 0 0, Value.int 0 0, Value.int 3 0, Value.ref 146, Value.bool true, Value.int 181 0, Value.ref 147, Value.none, Value.ref 148, Value.ref 149, Value.ref 150, Value.int 363 0, Value.int 61 0, Value.str (Str.ofString "/claim/cut.py") 364] }) ::
  (nat_lit 152, fnObj (inTop 19) rfl (fun a b s => { name := Str.ofString "div", qualname := Str.ofString "div", params := a, body := .stmts b, scope := s, globals := 3, closure := [], defaults := Value.none, kwdefaults := Value.none, pyModule := Value.str (Str.ofString "gateloom.vecarith") 313, code := Value.ref 151 })) ::
  (nat_lit 153, { cls := Value.type "tuple", data := Data.seq #[] }) ::
  (nat_lit 155, { cls := Value.type "tuple", data := Data.seq #[Value.str (Str.ofString "u") 369, Value.str (Str.ofString "v") 370, Value.str (Str.ofString "signed") 371, Value.str (Str.ofString "m") 372, Value.str (Str.ofString "n") 373] }) ::
  (nat_lit 156, { cls := Value.type "tuple", data := Data.seq #[] }) ::
  (nat_lit 158, { cls := Value.type "code", data := Data.fields #[Value.str (Str.ofString "mod") 366, Value.str (Str.ofString "mod") 367, Value.str (Str.ofString "/claim/cut.py") 368, Value.int 67 0, Value.int 3 0, Value.int 0 0, Value.int 0 0, Value.int 3 0, Value.ref 153, Value.bool true, Value.int 181 0, Value.ref 154, Value.none, Value.ref 155, Value.ref 156, Value.ref 157, Value.int 374 0, Value.int 67 0, Value.str (Str.ofString "/claim/cut.py") 375] }) ::
  (nat_lit 159, fnObj (inTop 20) rfl (fun a b s => { name := Str.ofString "mod", qualname := Str.ofString "mod", params := a, body := .stmts b, scope := s, globals := 3, closure := [], defaults := Value.none, kwdefaults := Value.none, pyModule := Value.str (Str.ofString "gateloom.vecarith") 313, code := Value.ref 158 })) ::
  (nat_lit 160, { cls := Value.type "tuple", data := Data.seq #[] }) ::
  (nat_lit 162, { cls := Value.type "tuple", data := Data.seq #[Value.str (Str.ofString "u") 380, Value.str (Str.ofString "n") 381, Value.str (Str.ofString "w") 382, Value.str (Str.ofString "full") 383] }) ::
  (nat_lit 163, { cls := Value.type "tuple", data := Data.seq #[] }) ::
  (nat_lit 165, { cls := Value.type "code", data := Data.fields #[Value.str (Str.ofString "shift_left") 377, Value.str (Str.ofString "shift_left") 378, Value.str (Str.ofString "/claim/cut.py") 379, Value.int 73 0, Value.int 2 0, Value.int 0 0, Value.int 0 0, Value.int 3 0, Value.ref 160, Value.bool true, Value.int 181 0, Value.ref 161, Value.none, Value.ref 162, Value.ref 163, Value.ref 164, Value.int 384 0, Value.int 73 0, Value.str (Str.ofString "/claim/cut.py") 385] }) ::
  (nat_lit 166, fnObj (inTop 21) rfl (fun a b s => { name := Str.ofString "shift_left", qualname := Str.ofString "shift_left", params := a, body := .stmts b, scope := s, globals := 3, closure := [], defaults := Value.none, kwdefaults := Value.none, pyModule := Value.str (Str.ofString "gateloom.vecarith") 313, code := Value.ref 165 })) ::
  (nat_lit 167, { cls := Value.type "tuple", data := Data.seq #[] }) ::
  (nat_lit 169, { cls := Value.type "tuple", data := Data.seq #[Value.str (Str.ofString "u") 390, Value.str (Str.ofString "n") 391, Value.str (Str.ofString "w") 392] }) ::
  (nat_lit 170, { cls := Value.type "tuple", data := Data.seq #[] }) ::
  (nat_lit 172, { cls := Value.type "code", data := Data.fields #[Value.str (Str.ofString "shift_right") 387, Value.str (Str.ofString "shift_right") 388, Value.str (Str.ofString "/claim/cut.py") 389, Value.int 81 0, Value.int 2 0, Value.int 0 0, Value.int 0 0, Value.int 3 0, Value.ref 167, Value.bool true, Value.int 181 0, Value.ref 168, Value.none, Value.ref 169, Value.ref 170, Value.ref 171, Value.int 393 0, Value.int 81 0, Value.str (Str.ofString "/claim/cut.py") 394] }) ::
  (nat_lit 173, fnObj (inTop 22) rfl (fun a b s => { name := Str.ofString "shift_right", qualname := Str.ofString "shift_right", params := a, body := .stmts b, scope := s, globals := 3, closure := [], defaults := Value.none, kwdefaults := Value.none, pyModule := Value.str (Str.ofString "gateloom.vecarith") 313, code := Value.ref 172 })) ::
  (nat_lit 174, { cls := Value.type "tuple", data := Data.seq #[] }) ::
  (nat_lit 176, { cls := Value.type "tuple", data := Data.seq #[Value.str (Str.ofString "u") 399, Value.str (Str.ofString "n") 400, Value.str (Str.ofString "signed") 401, Value.str (Str.ofString "w") 402, Value.str (Str.ofString "count") 403, Value.str (Str.ofString "fill") 404, Value.str (Str.ofString "top") 405, Value.str (Str.ofString "a") 406, Value.str (Str.ofString "b") 407] }) ::
  (nat_lit 177, { cls := Value.type "tuple", data := Data.seq #[] }) ::
  (nat_lit 179, { cls := Value.type "code", data := Data.fields #[Value.str (Str.ofString "shift_arith") 396, Value.str (Str.ofString "shift_arith") 397, Value.str (Str.ofString "/claim/cut.py") 398, Value.int 88 0, Value.int 3 0, Value.int 0 0, Value.int 0 0, Value.int 3 0, Value.ref 174, Value.bool true, Value.int 181 0, Value.ref 175, Value.none, Value.ref 176, Value.ref 177, Value.ref 178, Value.int 408 0, Value.int 88 0, Value.str (Str.ofString "/claim/cut.py") 409] }) ::
  (nat_lit 180, fnObj (inTop 23) rfl (fun a b s => { name := Str.ofString "shift_arith", qualname := Str.ofString "shift_arith", params := a, body := .stmts b, scope := s, globals := 3, closure := [], defaults := Value.none, kwdefaults := Value.none, pyModule := Value.str (Str.ofString "gateloom.vecarith") 313, code := Value.ref 179 })) ::
  (nat_lit 181, { cls := Value.type "tuple", data := Data.seq #[] }) ::
  (nat_lit 183, { cls := Value.type "tuple", data := Data.seq #[Value.str (Str.ofString "u") 414, Value.str (Str.ofString "v") 415, Value.str (Str.ofString "signed") 416, Value.str (Str.ofString "m") 417, Value.str (Str.ofString "n") 418] }) ::
  (nat_lit 184, { cls := Value.type "tuple", data := Data.seq #[] }) ::
  (nat_lit 186, { cls := Value.type "code", data := Data.fields #[Value.str (Str.ofString "ordered") 411, Value.str (Str.ofString "ordered") 412, Value.str (Str.ofString "/claim/cut.py") 413, Value.int 98 0, Value.int 3 0, Value.int 0 0, Value.int 0 0, Value.int 3 0, Value.ref 181, Value.bool true, Value.int 181 0, Value.ref 182, Value.none, Value.ref 183, Value.ref 184, Value.ref 185, Value.int 419 0, Value.int 98 0, Value.str (Str.ofString "/claim/cut.py") 420] }) ::
  (nat_lit 187, fnObj (inTop 24) rfl (fun a b s => { name := Str.ofString "ordered", qualname := Str.ofString "ordered", params := a, body := .stmts b, scope := s, globals := 3, closure := [], defaults := Value.none, kwdefaults := Value.none, pyModule := Value.str (Str.ofString "gateloom.vecarith") 313, code := Value.ref 186 })) ::
  (nat_lit 188, { cls := Value.type "tuple", data := Data.seq #[] }) ::
  (nat_lit 190, { cls := Value.type "tuple", data := Data.seq #[Value.str (Str.ofString "u") 425, Value.str (Str.ofString "v") 426, Value.str (Str.ofString "signed") 427, Value.str (Str.ofString "sign") 428] }) ::
  (nat_lit 191, { cls := Value.type "tuple", data := Data.seq #[] }) ::
  (nat_lit 193, { cls := Value.type "code", data := Data.fields #[Value.str (Str.ofString "less") 422, Value.str (Str.ofString "less") 423, Value.str (Str.ofString "/claim/cut.py") 424, Value.int 106 0, Value.int 3 0, Value.int 0 0, Value.int 0 0, Value.int 3 0, Value.ref 188, Value.bool true, Value.int 181 0, Value.ref 189, Value.none, Value.ref 190, Value.ref 191, Value.ref 192, Value.int 429 0, Value.int 106 0, Value.str (Str.ofString "/claim/cut.py") 430] }) ::
  (nat_lit 194, fnObj (inTop 25) rfl (fun a b s => { name := Str.ofString "less", qualname := Str.ofString "less", params := a, body := .stmts b, scope := s, globals := 3, closure := [], defaults := Value.none, kwdefaults := Value.none, pyModule := Value.str (Str.ofString "gateloom.vecarith") 313, code := Value.ref 193 })) ::
  (nat_lit 195, { cls := Value.type "tuple", data := Data.seq #[] }) ::
  (nat_lit 197, { cls := Value.type "tuple", data := Data.seq #[Value.str (Str.ofString "u") 435, Value.str (Str.ofString "v") 436, Value.str (Str.ofString "signed") 437, Value.str (Str.ofString "sign") 438] }) ::
  (nat_lit 198, { cls := Value.type "tuple", data := Data.seq #[] }) ::
  (nat_lit 200, { cls := Value.type "code", data := Data.fields #[Value.str (Str.ofString "less_equal") 432, Value.str (Str.ofString "less_equal") 433, Value.str (Str.ofString "/claim/cut.py") 434, Value.int 111 0, Value.int 3 0, Value.int 0 0, Value.int 0 0, Value.int 3 0, Value.ref 195, Value.bool true, Value.int 181 0, Value.ref 196, Value.none, Value.ref 197, Value.ref 198, Value.ref 199, Value.int 439 0, Value.int 111 0, Value.str (Str.ofString "/claim/cut.py") 440] }) ::
  (nat_lit 201, fnObj (inTop 26) rfl (fun a b s => { name := Str.ofString "less_equal", qualname := Str.ofString "less_equal", params := a, body := .stmts b, scope := s, globals := 3, closure := [], defaults := Value.none, kwdefaults := Value.none, pyModule := Value.str (Str.ofString "gateloom.vecarith") 313, code := Value.ref 200 })) ::
  (nat_lit 202, { cls := Value.type "tuple", data := Data.seq #[] }) ::
  (nat_lit 204, { cls := Value.type "tuple", data := Data.seq #[Value.str (Str.ofString "u") 445, Value.str (Str.ofString "v") 446, Value.str (Str.ofString "signed") 447] }) ::
  (nat_lit 205, { cls := Value.type "tuple", data := Data.seq #[] }) ::
  (nat_lit 207, { cls := Value.type "code", data := Data.fields #[Value.str (Str.ofString "greater") 442, Value.str (Str.ofString "greater") 443, Value.str (Str.ofString "/claim/cut.py") 444, Value.int 116 0, Value.int 3 0, Value.int 0 0, Value.int 0 0, Value.int 3 0, Value.ref 202, Value.bool true, Value.int 181 0, Value.ref 203, Value.none, Value.ref 204, Value.ref 205, Value.ref 206, Value.int 448 0, Value.int 116 0, Value.str (Str.ofString "/claim/cut.py") 449] }) ::
  (nat_lit 208, fnObj (inTop 27) rfl (fun a b s => { name := Str.ofString "greater", qualname := Str.ofString "greater", params := a, body := .stmts b, scope := s, globals := 3, closure := [], defaults := Value.none, kwdefaults := Value.none, pyModule := Value.str (Str.ofString "gateloom.vecarith") 313, code := Value.ref 207 })) ::
  (nat_lit 209, { cls := Value.type "tuple", data := Data.seq #[] }) ::
  (nat_lit 211, { cls := Value.type "tuple", data := Data.seq #[Value.str (Str.ofString "u") 454, Value.str (Str.ofString "v") 455, Value.str (Str.ofString "signed") 456] }) ::
  (nat_lit 212, { cls := Value.type "tuple", data := Data.seq #[] }) ::
  (nat_lit 214, { cls := Value.type "code", data := Data.fields #[Value.str (Str.ofString "greater_equal") 451, Value.str (Str.ofString "greater_equal") 452, Value.str (Str.ofString "/claim/cut.py") 453, Value.int 118 0, Value.int 3 0, Value.int 0 0, Value.int 0 0, Value.int 3 0, Value.ref 209, Value.bool true, Value.int 181 0, Value.ref 210, Value.none, Value.ref 211, Value.ref 212, Value.ref 213, Value.int 457 0, Value.int 118 0, Value.str (Str.ofString "/claim/cut.py") 458] }) ::
  (nat_lit 215, fnObj (inTop 28) rfl (fun a b s => { name := Str.ofString "greater_equal", qualname := Str.ofString "greater_equal", params := a, body := .stmts b, scope := s, globals := 3, closure := [], defaults := Value.none, kwdefaults := Value.none, pyModule := Value.str (Str.ofString "gateloom.vecarith") 313, code := Value.ref 214 })) ::
  (nat_lit 216, { cls := Value.type "tuple", data := Data.seq #[] }) ::
  (nat_lit 218, { cls := Value.type "tuple", data := Data.seq #[Value.str (Str.ofString "c") 465] }) ::
  (nat_lit 219, { cls := Value.type "tuple", data := Data.seq #[] }) ::
  (nat_lit 221, { cls := Value.type "code", data := Data.fields #[Value.str (Str.ofString "one_bit") 462, Value.str (Str.ofString "one_bit") 463, Value.str (Str.ofString "/claim/cut.py") 464, Value.int 121 0, Value.int 1 0, Value.int 0 0, Value.int 0 0, Value.int 3 0, Value.ref 216, Value.bool true, Value.int 181 0, Value.ref 217, Value.none, Value.ref 218, Value.ref 219, Value.ref 220, Value.int 466 0, Value.int 121 0, Value.str (Str.ofString "/claim/cut.py") 467] }) ::
  (nat_lit 222, fnObj (inTop 30) rfl (fun a b s => { name := Str.ofString "one_bit", qualname := Str.ofString "one_bit", params := a, body := .stmts b, scope := s, globals := 3, closure := [], defaults := Value.none, kwdefaults := Value.none, pyModule := Value.str (Str.ofString "gateloom.vecops") 460, code := Value.ref 221 })) ::
  (nat_lit 223, { cls := Value.type "tuple", data := Data.seq #[] }) ::
  (nat_lit 225, { cls := Value.type "tuple", data := Data.seq #[Value.str (Str.ofString "v") 472, Value.str (Str.ofString "w") 473, Value.str (Str.ofString "a") 474, Value.str (Str.ofString "b") 475] }) ::
  (nat_lit 226, { cls := Value.type "tuple", data := Data.seq #[] }) ::
  (nat_lit 228, { cls := Value.type "code", data := Data.fields #[Value.str (Str.ofString "bit_not") 469, Value.str (Str.ofString "bit_not") 470, Value.str (Str.ofString "/claim/cut.py") 471, Value.int 123 0, Value.int 1 0, Value.int 0 0, Value.int 0 0, Value.int 3 0, Value.ref 223, Value.bool true, Value.int 181 0, Value.ref 224, Value.none, Value.ref 225, Value.ref 226, Value.ref 227, Value.int 476 0, Value.int 123 0, Value.str (Str.ofString "/claim/cut.py") 477] }) ::
  (nat_lit 229, fnObj (inTop 31) rfl (fun a b s => { name := Str.ofString "bit_not", qualname := Str.ofString "bit_not", params := a, body := .stmts b, scope := s, globals := 3, closure := [], defaults := Value.none, kwdefaults := Value.none, pyModule := Value.str (Str.ofString "gateloom.vecops") 460, code := Value.ref 228 })) ::
  (nat_lit 230, { cls := Value.type "tuple", data := Data.seq #[] }) ::
  (nat_lit 232, { cls := Value.type "tuple", data := Data.seq #[Value.str (Str.ofString "u") 482, Value.str (Str.ofString "v") 483, Value.str (Str.ofString "w") 484, Value.str (Str.ofString "a") 485, Value.str (Str.ofString "b") 486, Value.str (Str.ofString "c") 487, Value.str (Str.ofString "d") 488, Value.str (Str.ofString "both") 489] }) ::
  (nat_lit 233, { cls := Value.type "tuple", data := Data.seq #[] }) ::
  (nat_lit 235, { cls := Value.type "code", data := Data.fields #[Value.str (Str.ofString "bit_and") 479, Value.str (Str.ofString "bit_and") 480, Value.str (Str.ofString "/claim/cut.py") 481, Value.int 126 0, Value.int 2 0, Value.int 0 0, Value.int 0 0, Value.int 3 0, Value.ref 230, Value.bool true, Value.int 181 0, Value.ref 231, Value.none, Value.ref 232, Value.ref 233, Value.ref 234, Value.int 490 0, Value.int 126 0, Value.str (Str.ofString "/claim/cut.py") 491] }) ::
  (nat_lit 236, fnObj (inTop 32) rfl (fun a b s => { name := Str.ofString "bit_and", qualname := Str.ofString "bit_and", params := a, body := .stmts b, scope := s, globals := 3, closure := [], defaults := Value.none, kwdefaults := Value.none, pyModule := Value.str (Str.ofString "gateloom.vecops") 460, code := Value.ref 235 })) ::
  (nat_lit 237, { cls := Value.type "tuple", data := Data.seq #[] }) ::
  (nat_lit 239, { cls := Value.type "tuple", data := Data.seq #[Value.str (Str.ofString "u") 496, Value.str (Str.ofString "v") 497, Value.str (Str.ofString "w") 498, Value.str (Str.ofString "a") 499, Value.str (Str.ofString "b") 500, Value.str (Str.ofString "c") 501, Value.str (Str.ofString "d") 502, Value.str (Str.ofString "either") 503, Value.str (Str.ofString "sure") 504] }) ::
  (nat_lit 240, { cls := Value.type "tuple", data := Data.seq #[] }) ::
  (nat_lit 242, { cls := Value.type "code", data := Data.fields #[Value.str (Str.ofString "bit_or") 493, Value.str (Str.ofString "bit_or") 494, Value.str (Str.ofString "/claim/cut.py") 495, Value.int 131 0, Value.int 2 0, Value.int 0 0, Value.int 0 0, Value.int 3 0, Value.ref 237, Value.bool true, Value.int 181 0, Value.ref 238, Value.none, Value.ref 239, Value.ref 240, Value.ref 241, Value.int 505 0, Value.int 131 0, Value.str (Str.ofString "/claim/cut.py") 506] }) ::
  (nat_lit 243, fnObj (inTop 33) rfl (fun a b s => { name := Str.ofString "bit_or", qualname := Str.ofString "bit_or", params := a, body := .stmts b, scope := s, globals := 3, closure := [], defaults := Value.none, kwdefaults := Value.none, pyModule := Value.str (Str.ofString "gateloom.vecops") 460, code := Value.ref 242 })) ::
  (nat_lit 244, { cls := Value.type "tuple", data := Data.seq #[] }) ::
  (nat_lit 246, { cls := Value.type "tuple", data := Data.seq #[Value.str (Str.ofString "u") 511, Value.str (Str.ofString "v") 512, Value.str (Str.ofString "b") 513] }) ::
  (nat_lit 247, { cls := Value.type "tuple", data := Data.seq #[] }) ::
  (nat_lit 249, { cls := Value.type "code", data := Data.fields #[Value.str (Str.ofString "bit_xor") 508, Value.str (Str.ofString "bit_xor") 509, Value.str (Str.ofString "/claim/cut.py") 510, Value.int 137 0, Value.int 2 0, Value.int 0 0, Value.int 0 0, Value.int 3 0, Value.ref 244, Value.bool true, Value.int 181 0, Value.ref 245, Value.none, Value.ref 246, Value.ref 247, Value.ref 248, Value.int 514 0, Value.int 137 0, Value.str (Str.ofString "/claim/cut.py") 515] }) ::
  (nat_lit 250, fnObj (inTop 34) rfl (fun a b s => { name := Str.ofString "bit_xor", qualname := Str.ofString "bit_xor", params := a, body := .stmts b, scope := s, globals := 3, closure := [], defaults := Value.none, kwdefaults := Value.none, pyModule := Value.str (Str.ofString "gateloom.vecops") 460, code := Value.ref 249 })) ::
  (nat_lit 251, { cls := Value.type "tuple", data := Data.seq #[] }) ::
  (nat_lit 253, { cls := Value.type "tuple", data := Data.seq #[Value.str (Str.ofString "u") 520, Value.str (Str.ofString "v") 521] }) ::
  (nat_lit 254, { cls := Value.type "tuple", data := Data.seq #[] }) ::
  (nat_lit 256, { cls := Value.type "code", data := Data.fields #[Value.str (Str.ofString "bit_xnor") 517, Value.str (Str.ofString "bit_xnor") 518, Value.str (Str.ofString "/claim/cut.py") 519, Value.int 140 0, Value.int 2 0, Value.int 0 0, Value.int 0 0, Value.int 3 0, Value.ref 251, Value.bool true, Value.int 181 0, Value.ref 252, Value.none, Value.ref 253, Value.ref 254, Value.ref 255, Value.int 522 0, Value.int 140 0, Value.str (Str.ofString "/claim/cut.py") 523] }) ::
  (nat_lit 257, fnObj (inTop 35) rfl (fun a b s => { name := Str.ofString "bit_xnor", qualname := Str.ofString "bit_xnor", params := a, body := .stmts b, scope := s, globals := 3, closure := [], defaults := Value.none, kwdefaults := Value.none, pyModule := Value.str (Str.ofString "gateloom.vecops") 460, code := Value.ref 256 })) ::
  (nat_lit 258, { cls := Value.type "tuple", data := Data.seq #[] }) ::
  (nat_lit 260, { cls := Value.type "tuple", data := Data.seq #[Value.str (Str.ofString "v") 528, Value.str (Str.ofString "w") 529, Value.str (Str.ofString "a") 530, Value.str (Str.ofString "b") 531] }) ::
  (nat_lit 261, { cls := Value.type "tuple", data := Data.seq #[] }) ::
  (nat_lit 263, { cls := Value.type "code", data := Data.fields #[Value.str (Str.ofString "reduce_and") 525, Value.str (Str.ofString "reduce_and") 526, Value.str (Str.ofString "/claim/cut.py") 527, Value.int 142 0, Value.int 1 0, Value.int 0 0, Value.int 0 0, Value.int 3 0, Value.ref 258, Value.bool true, Value.int 181 0, Value.ref 259, Value.none, Value.ref 260, Value.ref 261, Value.ref 262, Value.int 532 0, Value.int 142 0, Value.str (Str.ofString "/claim/cut.py") 533] }) ::
  (nat_lit 264, fnObj (inTop 36) rfl (fun a b s => { name := Str.ofString "reduce_and", qualname := Str.ofString "reduce_and", params := a, body := .stmts b, scope := s, globals := 3, closure := [], defaults := Value.none, kwdefaults := Value.none, pyModule := Value.str (Str.ofString "gateloom.vecops") 460, code := Value.ref 263 })) ::
  (nat_lit 265, { cls := Value.type "tuple", data := Data.seq #[] }) ::
  (nat_lit 267, { cls := Value.type "tuple", data := Data.seq #[Value.str (Str.ofString "v") 538] }) ::
  (nat_lit 268, { cls := Value.type "tuple", data := Data.seq #[] }) ::
  (nat_lit 270, { cls := Value.type "code", data := Data.fields #[Value.str (Str.ofString "reduce_nand") 535, Value.str (Str.ofString "reduce_nand") 536, Value.str (Str.ofString "/claim/cut.py") 537, Value.int 147 0, Value.int 1 0, Value.int 0 0, Value.int 0 0, Value.int 3 0, Value.ref 265, Value.bool true, Value.int 181 0, Value.ref 266, Value.none, Value.ref 267, Value.ref 268, Value.ref 269, Value.int 539 0, Value.int 147 0, Value.str (Str.ofString "/claim/cut.py") 540] }) ::
  (nat_lit 271, fnObj (inTop 37) rfl (fun a b s => { name := Str.ofString "reduce_nand", qualname := Str.ofString "reduce_nand", params := a, body := .stmts b, scope := s, globals := 3, closure := [], defaults := Value.none, kwdefaults := Value.none, pyModule := Value.str (Str.ofString "gateloom.vecops") 460, code := Value.ref 270 })) ::
  (nat_lit 272, { cls := Value.type "tuple", data := Data.seq #[] }) ::
  (nat_lit 274, { cls := Value.type "tuple", data := Data.seq #[Value.str (Str.ofString "v") 545] }) ::
  (nat_lit 275, { cls := Value.type "tuple", data := Data.seq #[] }) ::
  (nat_lit 277, { cls := Value.type "code", data := Data.fields #[Value.str (Str.ofString "reduce_or") 542, Value.str (Str.ofString "reduce_or") 543, Value.str (Str.ofString "/claim/cut.py") 544, Value.int 149 0, Value.int 1 0, Value.int 0 0, Value.int 0 0, Value.int 3 0, Value.ref 272, Value.bool true, Value.int 181 0, Value.ref 273, Value.none, Value.ref 274, Value.ref 275, Value.ref 276, Value.int 546 0, Value.int 149 0, Value.str (Str.ofString "/claim/cut.py") 547] }) ::
  (nat_lit 278, fnObj (inTop 38) rfl (fun a b s => { name := Str.ofString "reduce_or", qualname := Str.ofString "reduce_or", params := a, body := .stmts b, scope := s, globals := 3, closure := [], defaults := Value.none, kwdefaults := Value.none, pyModule := Value.str (Str.ofString "gateloom.vecops") 460, code := Value.ref 277 })) ::
  (nat_lit 279, { cls := Value.type "tuple", data := Data.seq #[] }) ::
  (nat_lit 281, { cls := Value.type "tuple", data := Data.seq #[Value.str (Str.ofString "v") 552] }) ::
  (nat_lit 282, { cls := Value.type "tuple", data := Data.seq #[] }) ::
  (nat_lit 284, { cls := Value.type "code", data := Data.fields #[Value.str (Str.ofString "reduce_nor") 549, Value.str (Str.ofString "reduce_nor") 550, Value.str (Str.ofString "/claim/cut.py") 551, Value.int 151 0, Value.int 1 0, Value.int 0 0, Value.int 0 0, Value.int 3 0, Value.ref 279, Value.bool true, Value.int 181 0, Value.ref 280, Value.none, Value.ref 281, Value.ref 282, Value.ref 283, Value.int 553 0, Value.int 151 0, Value.str (Str.ofString "/claim/cut.py") 554] }) ::
  (nat_lit 285, fnObj (inTop 39) rfl (fun a b s => { name := Str.ofString "reduce_nor", qualname := Str.ofString "reduce_nor", params := a, body := .stmts b, scope := s, globals := 3, closure := [], defaults := Value.none, kwdefaults := Value.none, pyModule := Value.str (Str.ofString "gateloom.vecops") 460, code := Value.ref 284 })) ::
  (nat_lit 286, { cls := Value.type "tuple", data := Data.seq #[] }) ::
  (nat_lit 288, { cls := Value.type "tuple", data := Data.seq #[Value.str (Str.ofString "v") 559, Value.str (Str.ofString "parity") 560, Value.str (Str.ofString "rest") 561] }) ::
  (nat_lit 289, { cls := Value.type "tuple", data := Data.seq #[] }) ::
  (nat_lit 291, { cls := Value.type "code", data := Data.fields #[Value.str (Str.ofString "reduce_xor") 556, Value.str (Str.ofString "reduce_xor") 557, Value.str (Str.ofString "/claim/cut.py") 558, Value.int 153 0, Value.int 1 0, Value.int 0 0, Value.int 0 0, Value.int 3 0, Value.ref 286, Value.bool true, Value.int 181 0, Value.ref 287, Value.none, Value.ref 288, Value.ref 289, Value.ref 290, Value.int 562 0, Value.int 153 0, Value.str (Str.ofString "/claim/cut.py") 563] }) ::
  (nat_lit 292, fnObj (inTop 40) rfl (fun a b s => { name := Str.ofString "reduce_xor", qualname := Str.ofString "reduce_xor", params := a, body := .stmts b, scope := s, globals := 3, closure := [], defaults := Value.none, kwdefaults := Value.none, pyModule := Value.str (Str.ofString "gateloom.vecops") 460, code := Value.ref 291 })) ::
  (nat_lit 293, { cls := Value.type "tuple", data := Data.seq #[] }) ::
  (nat_lit 295, { cls := Value.type "tuple", data := Data.seq #[Value.str (Str.ofString "v") 568] }) ::
  (nat_lit 296, { cls := Value.type "tuple", data := Data.seq #[] }) ::
  (nat_lit 298, { cls := Value.type "code", data := Data.fields #[Value.str (Str.ofString "reduce_xnor") 565, Value.str (Str.ofString "reduce_xnor") 566, Value.str (Str.ofString "/claim/cut.py") 567, Value.int 162 0, Value.int 1 0, Value.int 0 0, Value.int 0 0, Value.int 3 0, Value.ref 293, Value.bool true, Value.int 181 0, Value.ref 294, Value.none, Value.ref 295, Value.ref 296, Value.ref 297, Value.int 569 0, Value.int 162 0, Value.str (Str.ofString "/claim/cut.py") 570] }) ::
  (nat_lit 299, fnObj (inTop 41) rfl (fun a b s => { name := Str.ofString "reduce_xnor", qualname := Str.ofString "reduce_xnor", params := a, body := .stmts b, scope := s, globals := 3, closure := [], defaults := Value.none, kwdefaults := Value.none, pyModule := Value.str (Str.ofString "gateloom.vecops") 460, code := Value.ref 298 })) ::
  (nat_lit 300, { cls := Value.type "tuple", data := Data.seq #[] }) ::
  (nat_lit 302, { cls := Value.type "tuple", data := Data.seq #[Value.str (Str.ofString "v") 575] }) ::
  (nat_lit 303, { cls := Value.type "tuple", data := Data.seq #[] }) ::
  (nat_lit 305, { cls := Value.type "code", data := Data.fields #[Value.str (Str.ofString "logic_not") 572, Value.str (Str.ofString "logic_not") 573, Value.str (Str.ofString "/claim/cut.py") 574, Value.int 164 0, Value.int 1 0, Value.int 0 0, Value.int 0 0, Value.int 3 0, Value.ref 300, Value.bool true, Value.int 181 0, Value.ref 301, Value.none, Value.ref 302, Value.ref 303, Value.ref 304, Value.int 576 0, Value.int 164 0, Value.str (Str.ofString "/claim/cut.py") 577] }) ::
  (nat_lit 306, fnObj (inTop 42) rfl (fun a b s => { name := Str.ofString "logic_not", qualname := Str.ofString "logic_not", params := a, body := .stmts b, scope := s, globals := 3, closure := [], defaults := Value.none, kwdefaults := Value.none, pyModule := Value.str (Str.ofString "gateloom.vecops") 460, code := Value.ref 305 })) ::
  (nat_lit 307, { cls := Value.type "tuple", data := Data.seq #[] }) ::
  (nat_lit 309, { cls := Value.type "tuple", data := Data.seq #[Value.str (Str.ofString "u") 582, Value.str (Str.ofString "v") 583] }) ::
  (nat_lit 310, { cls := Value.type "tuple", data := Data.seq #[] }) ::
  (nat_lit 312, { cls := Value.type "code", data := Data.fields #[Value.str (Str.ofString "logic_and") 579, Value.str (Str.ofString "logic_and") 580, Value.str (Str.ofString "/claim/cut.py") 581, Value.int 166 0, Value.int 2 0, Value.int 0 0, Value.int 0 0, Value.int 3 0, Value.ref 307, Value.bool true, Value.int 181 0, Value.ref 308, Value.none, Value.ref 309, Value.ref 310, Value.ref 311, Value.int 584 0, Value.int 166 0, Value.str (Str.ofString "/claim/cut.py") 585] }) ::
  (nat_lit 313, fnObj (inTop 43) rfl (fun a b s => { name := Str.ofString "logic_and", qualname := Str.ofString "logic_and", params := a, body := .stmts b, scope := s, globals := 3, closure := [], defaults := Value.none, kwdefaults := Value.none, pyModule := Value.str (Str.ofString "gateloom.vecops") 460, code := Value.ref 312 })) ::
  (nat_lit 314, { cls := Value.type "tuple", data := Data.seq #[] }) ::
  (nat_lit 316, { cls := Value.type "tuple", data := Data.seq #[Value.str (Str.ofString "u") 590, Value.str (Str.ofString "v") 591] }) ::
  (nat_lit 317, { cls := Value.type "tuple", data := Data.seq #[] }) ::
  (nat_lit 319, { cls := Value.type "code", data := Data.fields #[Value.str (Str.ofString "logic_or") 587, Value.str (Str.ofString "logic_or") 588, Value.str (Str.ofString "/claim/cut.py") 589, Value.int 168 0, Value.int 2 0, Value.int 0 0, Value.int 0 0, Value.int 3 0, Value.ref 314, Value.bool true, Value.int 181 0, Value.ref 315, Value.none, Value.ref 316, Value.ref 317, Value.ref 318, Value.int 592 0, Value.int 168 0, Value.str (Str.ofString "/claim/cut.py") 593] }) ::
  (nat_lit 320, fnObj (inTop 44) rfl (fun a b s => { name := Str.ofString "logic_or", qualname := Str.ofString "logic_or", params := a, body := .stmts b, scope := s, globals := 3, closure := [], defaults := Value.none, kwdefaults := Value.none, pyModule := Value.str (Str.ofString "gateloom.vecops") 460, code := Value.ref 319 })) ::
  (nat_lit 321, { cls := Value.type "tuple", data := Data.seq #[] }) ::
  (nat_lit 323, { cls := Value.type "tuple", data := Data.seq #[Value.str (Str.ofString "u") 598, Value.str (Str.ofString "v") 599, Value.str (Str.ofString "unknown") 600] }) ::
  (nat_lit 324, { cls := Value.type "tuple", data := Data.seq #[] }) ::
  (nat_lit 326, { cls := Value.type "code", data := Data.fields #[Value.str (Str.ofString "equal") 595, Value.str (Str.ofString "equal") 596, Value.str (Str.ofString "/claim/cut.py") 597, Value.int 170 0, Value.int 2 0, Value.int 0 0, Value.int 0 0, Value.int 3 0, Value.ref 321, Value.bool true, Value.int 181 0, Value.ref 322, Value.none, Value.ref 323, Value.ref 324, Value.ref 325, Value.int 601 0, Value.int 170 0, Value.str (Str.ofString "/claim/cut.py") 602] }) ::
  (nat_lit 327, fnObj (inTop 45) rfl (fun a b s => { name := Str.ofString "equal", qualname := Str.ofString "equal", params := a, body := .stmts b, scope := s, globals := 3, closure := [], defaults := Value.none, kwdefaults := Value.none, pyModule := Value.str (Str.ofString "gateloom.vecops") 460, code := Value.ref 326 })) ::
  (nat_lit 328, { cls := Value.type "tuple", data := Data.seq #[] }) ::
  (nat_lit 330, { cls := Value.type "tuple", data := Data.seq #[Value.str (Str.ofString "u") 607, Value.str (Str.ofString "v") 608] }) ::
  (nat_lit 331, { cls := Value.type "tuple", data := Data.seq #[] }) ::
  (nat_lit 333, { cls := Value.type "code", data := Data.fields #[Value.str (Str.ofString "not_equal") 604, Value.str (Str.ofString "not_equal") 605, Value.str (Str.ofString "/claim/cut.py") 606, Value.int 175 0, Value.int 2 0, Value.int 0 0, Value.int 0 0, Value.int 3 0, Value.ref 328, Value.bool true, Value.int 181 0, Value.ref 329, Value.none, Value.ref 330, Value.ref 331, Value.ref 332, Value.int 609 0, Value.int 175 0, Value.str (Str.ofString "/claim/cut.py") 610] }) ::
  (nat_lit 334, fnObj (inTop 46) rfl (fun a b s => { name := Str.ofString "not_equal", qualname := Str.ofString "not_equal", params := a, body := .stmts b, scope := s, globals := 3, closure := [], defaults := Value.none, kwdefaults := Value.none, pyModule := Value.str (Str.ofString "gateloom.vecops") 460, code := Value.ref 333 })) ::
  (nat_lit 335, { cls := Value.type "tuple", data := Data.seq #[] }) ::
  (nat_lit 337, { cls := Value.type "tuple", data := Data.seq #[Value.str (Str.ofString "u") 615, Value.str (Str.ofString "v") 616] }) ::
  (nat_lit 338, { cls := Value.type "tuple", data := Data.seq #[] }) ::
  (nat_lit 340, { cls := Value.type "code", data := Data.fields #[Value.str (Str.ofString "case_equal") 612, Value.str (Str.ofString "case_equal") 613, Value.str (Str.ofString "/claim/cut.py") 614, Value.int 177 0, Value.int 2 0, Value.int 0 0, Value.int 0 0, Value.int 3 0, Value.ref 335, Value.bool true, Value.int 181 0, Value.ref 336, Value.none, Value.ref 337, Value.ref 338, Value.ref 339, Value.int 617 0, Value.int 177 0, Value.str (Str.ofString "/claim/cut.py") 618] }) ::
  (nat_lit 341, fnObj (inTop 47) rfl (fun a b s => { name := Str.ofString "case_equal", qualname := Str.ofString "case_equal", params := a, body := .stmts b, scope := s, globals := 3, closure := [], defaults := Value.none, kwdefaults := Value.none, pyModule := Value.str (Str.ofString "gateloom.vecops") 460, code := Value.ref 340 })) ::
  (nat_lit 342, { cls := Value.type "tuple", data := Data.seq #[] }) ::
  (nat_lit 344, { cls := Value.type "tuple", data := Data.seq #[Value.str (Str.ofString "u") 623, Value.str (Str.ofString "v") 624] }) ::
  (nat_lit 345, { cls := Value.type "tuple", data := Data.seq #[] }) ::
  (nat_lit 347, { cls := Value.type "code", data := Data.fields #[Value.str (Str.ofString "case_not_equal") 620, Value.str (Str.ofString "case_not_equal") 621, Value.str (Str.ofString "/claim/cut.py") 622, Value.int 179 0, Value.int 2 0, Value.int 0 0, Value.int 0 0, Value.int 3 0, Value.ref 342, Value.bool true, Value.int 181 0, Value.ref 343, Value.none, Value.ref 344, Value.ref 345, Value.ref 346, Value.int 625 0, Value.int 179 0, Value.str (Str.ofString "/claim/cut.py") 626] }) ::
  (nat_lit 348, fnObj (inTop 48) rfl (fun a b s => { name := Str.ofString "case_not_equal", qualname := Str.ofString "case_not_equal", params := a, body := .stmts b, scope := s, globals := 3, closure := [], defaults := Value.none, kwdefaults := Value.none, pyModule := Value.str (Str.ofString "gateloom.vecops") 460, code := Value.ref 347 })) ::
  (nat_lit 349, { cls := Value.type "tuple", data := Data.seq #[] }) ::
  (nat_lit 351, { cls := Value.type "tuple", data := Data.seq #[Value.str (Str.ofString "op") 633, Value.str (Str.ofString "u") 634] }) ::
  (nat_lit 352, { cls := Value.type "tuple", data := Data.seq #[] }) ::
  (nat_lit 354, { cls := Value.type "code", data := Data.fields #[Value.str (Str.ofString "unary") 630, Value.str (Str.ofString "unary") 631, Value.str (Str.ofString "/claim/cut.py") 632, Value.int 182 0, Value.int 2 0, Value.int 0 0, Value.int 0 0, Value.int 3 0, Value.ref 349, Value.bool true, Value.int 181 0, Value.ref 350, Value.none, Value.ref 351, Value.ref 352, Value.ref 353, Value.int 635 0, Value.int 182 0, Value.str (Str.ofString "/claim/cut.py") 636] }) ::
  (nat_lit 355, fnObj (inTop 50) rfl (fun a b s => { name := Str.ofString "unary", qualname := Str.ofString "unary", params := a, body := .stmts b, scope := s, globals := 3, closure := [], defaults := Value.none, kwdefaults := Value.none, pyModule := Value.str (Str.ofString "gateloom.evaluate") 628, code := Value.ref 354 })) ::
  (nat_lit 356, { cls := Value.type "tuple", data := Data.seq #[] }) ::
  (nat_lit 358, { cls := Value.type "tuple", data := Data.seq #[Value.str (Str.ofString "op") 641, Value.str (Str.ofString "u") 642, Value.str (Str.ofString "v") 643, Value.str (Str.ofString "signed") 644] }) ::
  (nat_lit 359, { cls := Value.type "tuple", data := Data.seq #[] }) ::
  (nat_lit 361, { cls := Value.type "code", data := Data.fields #[Value.str (Str.ofString "arithmetic") 638, Value.str (Str.ofString "arithmetic") 639, Value.str (Str.ofString "/claim/cut.py") 640, Value.int 202 0, Value.int 4 0, Value.int 0 0, Value.int 0 0, Value.int 3 0, Value.ref 356, Value.bool true, Value.int 181 0, Value.ref 357, Value.none, Value.ref 358, Value.ref 359, Value.ref 360, Value.int 645 0, Value.int 202 0, Value.str (Str.ofString "/claim/cut.py") 646] }) ::
  (nat_lit 362, fnObj (inTop 51) rfl (fun a b s => { name := Str.ofString "arithmetic", qualname := Str.ofString "arithmetic", params := a, body := .stmts b, scope := s, globals := 3, closure := [], defaults := Value.none, kwdefaults := Value.none, pyModule := Value.str (Str.ofString "gateloom.evaluate") 628, code := Value.ref 361 })) ::
  (nat_lit 363, { cls := Value.type "tuple", data := Data.seq #[] }) ::
  (nat_lit 365, { cls := Value.type "tuple", data := Data.seq #[Value.str (Str.ofString "op") 651, Value.str (Str.ofString "u") 652, Value.str (Str.ofString "v") 653, Value.str (Str.ofString "signed") 654] }) ::
  (nat_lit 366, { cls := Value.type "tuple", data := Data.seq #[] }) ::
  (nat_lit 368, { cls := Value.type "code", data := Data.fields #[Value.str (Str.ofString "comparison") 648, Value.str (Str.ofString "comparison") 649, Value.str (Str.ofString "/claim/cut.py") 650, Value.int 220 0, Value.int 4 0, Value.int 0 0, Value.int 0 0, Value.int 3 0, Value.ref 363, Value.bool true, Value.int 181 0, Value.ref 364, Value.none, Value.ref 365, Value.ref 366, Value.ref 367, Value.int 655 0, Value.int 220 0, Value.str (Str.ofString "/claim/cut.py") 656] }) ::
  (nat_lit 369, fnObj (inTop 52) rfl (fun a b s => { name := Str.ofString "comparison", qualname := Str.ofString "comparison", params := a, body := .stmts b, scope := s, globals := 3, closure := [], defaults := Value.none, kwdefaults := Value.none, pyModule := Value.str (Str.ofString "gateloom.evaluate") 628, code := Value.ref 368 })) ::
  (nat_lit 370, { cls := Value.type "tuple", data := Data.seq #[] }) ::
  (nat_lit 372, { cls := Value.type "tuple", data := Data.seq #[Value.str (Str.ofString "op") 661, Value.str (Str.ofString "u") 662, Value.str (Str.ofString "v") 663] }) ::
  (nat_lit 373, { cls := Value.type "tuple", data := Data.seq #[] }) ::
  (nat_lit 375, { cls := Value.type "code", data := Data.fields #[Value.str (Str.ofString "bitwise") 658, Value.str (Str.ofString "bitwise") 659, Value.str (Str.ofString "/claim/cut.py") 660, Value.int 238 0, Value.int 3 0, Value.int 0 0, Value.int 0 0, Value.int 3 0, Value.ref 370, Value.bool true, Value.int 181 0, Value.ref 371, Value.none, Value.ref 372, Value.ref 373, Value.ref 374, Value.int 664 0, Value.int 238 0, Value.str (Str.ofString "/claim/cut.py") 665] }) ::
  (nat_lit 376, fnObj (inTop 53) rfl (fun a b s => { name := Str.ofString "bitwise", qualname := Str.ofString "bitwise", params := a, body := .stmts b, scope := s, globals := 3, closure := [], defaults := Value.none, kwdefaults := Value.none, pyModule := Value.str (Str.ofString "gateloom.evaluate") 628, code := Value.ref 375 })) ::
  (nat_lit 377, { cls := Value.type "tuple", data := Data.seq #[] }) ::
  (nat_lit 379, { cls := Value.type "tuple", data := Data.seq #[Value.str (Str.ofString "op") 670, Value.str (Str.ofString "u") 671, Value.str (Str.ofString "v") 672, Value.str (Str.ofString "signed") 673, Value.str (Str.ofString "value") 674] }) ::
  (nat_lit 380, { cls := Value.type "tuple", data := Data.seq #[] }) ::
  (nat_lit 382, { cls := Value.type "code", data := Data.fields #[Value.str (Str.ofString "binary") 667, Value.str (Str.ofString "binary") 668, Value.str (Str.ofString "/claim/cut.py") 669, Value.int 252 0, Value.int 4 0, Value.int 0 0, Value.int 0 0, Value.int 3 0, Value.ref 377, Value.bool true, Value.int 181 0, Value.ref 378, Value.none, Value.ref 379, Value.ref 380, Value.ref 381, Value.int 675 0, Value.int 252 0, Value.str (Str.ofString "/claim/cut.py") 676] }) ::
  (nat_lit 383, fnObj (inTop 54) rfl (fun a b s => { name := Str.ofString "binary", qualname := Str.ofString "binary", params := a, body := .stmts b, scope := s, globals := 3, closure := [], defaults := Value.none, kwdefaults := Value.none, pyModule := Value.str (Str.ofString "gateloom.evaluate") 628, code := Value.ref 382 })) ::
  (nat_lit 384, { cls := Value.type "tuple", data := Data.seq #[] }) ::
  (nat_lit 386, { cls := Value.type "tuple", data := Data.seq #[Value.str (Str.ofString "state") 683, Value.str (Str.ofString "most") 684, Value.str (Str.ofString "row") 685, Value.str (Str.ofString "at") 686] }) ::
  (nat_lit 387, { cls := Value.type "tuple", data := Data.seq #[] }) ::
  (nat_lit 389, { cls := Value.type "code", data := Data.fields #[Value.str (Str.ofString "_law_take") 680, Value.str (Str.ofString "_law_take") 681, Value.str (Str.ofString "/claim/cut.py") 682, Value.int 262 0, Value.int 2 0, Value.int 0 0, Value.int 0 0, Value.int 3 0, Value.ref 384, Value.bool true, Value.int 181 0, Value.ref 385, Value.none, Value.ref 386, Value.ref 387, Value.ref 388, Value.int 687 0, Value.int 262 0, Value.str (Str.ofString "/claim/cut.py") 688] }) ::
  (nat_lit 390, fnObj (inTop 56) rfl (fun a b s => { name := Str.ofString "_law_take", qualname := Str.ofString "_law_take", params := a, body := .stmts b, scope := s, globals := 3, closure := [], defaults := Value.none, kwdefaults := Value.none, pyModule := Value.str (Str.ofString "law_on0117_01") 678, code := Value.ref 389 })) ::
  (nat_lit 391, { cls := Value.type "tuple", data := Data.seq #[] }) ::
  (nat_lit 393, { cls := Value.type "tuple", data := Data.seq #[Value.str (Str.ofString "digits_of") 693, Value.str (Str.ofString "low") 694, Value.str (Str.ofString "high") 695, Value.str (Str.ofString "spot") 696] }) ::
  (nat_lit 394, { cls := Value.type "tuple", data := Data.seq #[] }) ::
  (nat_lit 396, { cls := Value.type "code", data := Data.fields #[Value.str (Str.ofString "_law_vector") 690, Value.str (Str.ofString "_law_vector") 691, Value.str (Str.ofString "/claim/cut.py") 692, Value.int 268 0, Value.int 1 0, Value.int 0 0, Value.int 0 0, Value.int 3 0, Value.ref 391, Value.bool true, Value.int 181 0, Value.ref 392, Value.none, Value.ref 393, Value.ref 394, Value.ref 395, Value.int 697 0, Value.int 268 0, Value.str (Str.ofString "/claim/cut.py") 698] }) ::
  (nat_lit 397, fnObj (inTop 57) rfl (fun a b s => { name := Str.ofString "_law_vector", qualname := Str.ofString "_law_vector", params := a, body := .stmts b, scope := s, globals := 3, closure := [], defaults := Value.none, kwdefaults := Value.none, pyModule := Value.str (Str.ofString "law_on0117_01") 678, code := Value.ref 396 })) ::
  (nat_lit 398, { cls := Value.type "tuple", data := Data.seq #[] }) ::
  (nat_lit 400, { cls := Value.type "tuple", data := Data.seq #[Value.str (Str.ofString "v") 703, Value.str (Str.ofString "spot") 704] }) ::
  (nat_lit 401, { cls := Value.type "tuple", data := Data.seq #[] }) ::
  (nat_lit 403, { cls := Value.type "code", data := Data.fields #[Value.str (Str.ofString "_law_code") 700, Value.str (Str.ofString "_law_code") 701, Value.str (Str.ofString "/claim/cut.py") 702, Value.int 275 0, Value.int 2 0, Value.int 0 0, Value.int 0 0, Value.int 3 0, Value.ref 398, Value.bool true, Value.int 181 0, Value.ref 399, Value.none, Value.ref 400, Value.ref 401, Value.ref 402, Value.int 705 0, Value.int 275 0, Value.str (Str.ofString "/claim/cut.py") 706] }) ::
  (nat_lit 404, fnObj (inTop 58) rfl (fun a b s => { name := Str.ofString "_law_code", qualname := Str.ofString "_law_code", params := a, body := .stmts b, scope := s, globals := 3, closure := [], defaults := Value.none, kwdefaults := Value.none, pyModule := Value.str (Str.ofString "law_on0117_01") 678, code := Value.ref 403 })) ::
  (nat_lit 405, { cls := Value.type "tuple", data := Data.seq #[] }) ::
  (nat_lit 407, { cls := Value.type "tuple", data := Data.seq #[Value.str (Str.ofString "digits_of") 711, Value.str (Str.ofString "signed") 712, Value.str (Str.ofString "total") 713, Value.str (Str.ofString "spot") 714] }) ::
  (nat_lit 408, { cls := Value.type "tuple", data := Data.seq #[] }) ::
  (nat_lit 410, { cls := Value.type "code", data := Data.fields #[Value.str (Str.ofString "_law_whole") 708, Value.str (Str.ofString "_law_whole") 709, Value.str (Str.ofString "/claim/cut.py") 710, Value.int 277 0, Value.int 2 0, Value.int 0 0, Value.int 0 0, Value.int 3 0, Value.ref 405, Value.bool true, Value.int 181 0, Value.ref 406, Value.none, Value.ref 407, Value.ref 408, Value.ref 409, Value.int 715 0, Value.int 277 0, Value.str (Str.ofString "/claim/cut.py") 716] }) ::
  (nat_lit 411, fnObj (inTop 59) rfl (fun a b s => { name := Str.ofString "_law_whole", qualname := Str.ofString "_law_whole", params := a, body := .stmts b, scope := s, globals := 3, closure := [], defaults := Value.none, kwdefaults := Value.none, pyModule := Value.str (Str.ofString "law_on0117_01") 678, code := Value.ref 410 })) ::
  (nat_lit 412, { cls := Value.type "tuple", data := Data.seq #[] }) ::
  (nat_lit 414, { cls := Value.type "tuple", data := Data.seq #[Value.str (Str.ofString "op") 721, Value.str (Str.ofString "left") 722, Value.str (Str.ofString "right") 723, Value.str (Str.ofString "signed") 724, Value.str (Str.ofString "wide") 725, Value.str (Str.ofString "one") 726, Value.str (Str.ofString "two") 727, Value.str (Str.ofString "by_sign") 728, Value.str (Str.ofString "cut") 729, Value.str (Str.ofString "by_op") 730] }) ::
  (nat_lit 415, { cls := Value.type "tuple", data := Data.seq #[] }) ::
  (nat_lit 417, { cls := Value.type "code", data := Data.fields #[Value.str (Str.ofString "_law_two") 718, Value.str (Str.ofString "_law_two") 719, Value.str (Str.ofString "/claim/cut.py") 720, Value.int 284 0, Value.int 4 0, Value.int 0 0, Value.int 0 0, Value.int 3 0, Value.ref 412, Value.bool true, Value.int 181 0, Value.ref 413, Value.none, Value.ref 414, Value.ref 415, Value.ref 416, Value.int 731 0, Value.int 284 0, Value.str (Str.ofString "/claim/cut.py") 732] }) ::
  (nat_lit 418, fnObj (inTop 60) rfl (fun a b s => { name := Str.ofString "_law_two", qualname := Str.ofString "_law_two", params := a, body := .stmts b, scope := s, globals := 3, closure := [], defaults := Value.none, kwdefaults := Value.none, pyModule := Value.str (Str.ofString "law_on0117_01") 678, code := Value.ref 417 })) ::
  (nat_lit 419, { cls := Value.type "tuple", data := Data.seq #[] }) ::
  (nat_lit 421, { cls := Value.type "tuple", data := Data.seq #[Value.str (Str.ofString "op") 737, Value.str (Str.ofString "digits_of") 738, Value.str (Str.ofString "count") 739, Value.str (Str.ofString "wide") 740, Value.str (Str.ofString "told") 741] }) ::
  (nat_lit 422, { cls := Value.type "tuple", data := Data.seq #[] }) ::
  (nat_lit 424, { cls := Value.type "code", data := Data.fields #[Value.str (Str.ofString "_law_one") 734, Value.str (Str.ofString "_law_one") 735, Value.str (Str.ofString "/claim/cut.py") 736, Value.int 304 0, Value.int 2 0, Value.int 0 0, Value.int 0 0, Value.int 3 0, Value.ref 419, Value.bool true, Value.int 181 0, Value.ref 420, Value.none, Value.ref 421, Value.ref 422, Value.ref 423, Value.int 742 0, Value.int 304 0, Value.str (Str.ofString "/claim/cut.py") 743] }) ::
  (nat_lit 425, fnObj (inTop 61) rfl (fun a b s => { name := Str.ofString "_law_one", qualname := Str.ofString "_law_one", params := a, body := .stmts b, scope := s, globals := 3, closure := [], defaults := Value.none, kwdefaults := Value.none, pyModule := Value.str (Str.ofString "law_on0117_01") 678, code := Value.ref 424 })) ::
  (nat_lit 426, { cls := Value.type "tuple", data := Data.seq #[] }) ::
  (nat_lit 428, { cls := Value.type "tuple", data := Data.seq #[Value.str (Str.ofString "digits_of") 748, Value.str (Str.ofString "rows") 749, Value.str (Str.ofString "code_of") 750, Value.str (Str.ofString "more") 751, Value.str (Str.ofString "row") 752, Value.str (Str.ofString "bit") 753] }) ::
  (nat_lit 429, { cls := Value.type "tuple", data := Data.seq #[] }) ::
  (nat_lit 431, { cls := Value.type "code", data := Data.fields #[Value.str (Str.ofString "_law_fillings") 745, Value.str (Str.ofString "_law_fillings") 746, Value.str (Str.ofString "/claim/cut.py") 747, Value.int 313 0, Value.int 1 0, Value.int 0 0, Value.int 0 0, Value.int 3 0, Value.ref 426, Value.bool true, Value.int 181 0, Value.ref 427, Value.none, Value.ref 428, Value.ref 429, Value.ref 430, Value.int 754 0, Value.int 313 0, Value.str (Str.ofString "/claim/cut.py") 755] }) ::
  (nat_lit 432, fnObj (inTop 62) rfl (fun a b s => { name := Str.ofString "_law_fillings", qualname := Str.ofString "_law_fillings", params := a, body := .stmts b, scope := s, globals := 3, closure := [], defaults := Value.none, kwdefaults := Value.none, pyModule := Value.str (Str.ofString "law_on0117_01") 678, code := Value.ref 431 })) ::
  (nat_lit 433, { cls := Value.type "tuple", data := Data.seq #[] }) ::
  (nat_lit 435, { cls := Value.type "tuple", data := Data.seq #[Value.str (Str.ofString "script") 760, Value.str (Str.ofString "state") 761, Value.str (Str.ofString "pairs") 762, Value.str (Str.ofString "singles") 763, Value.str (Str.ofString "go_of") 764, Value.str (Str.ofString "wide") 765, Value.str (Str.ofString "double") 766, Value.str (Str.ofString "op") 767, Value.str (Str.ofString "signed") 768, Value.str (Str.ofString "digits_of") 769, Value.str (Str.ofString "unknown") 770, Value.str (Str.ofString "spot") 771, Value.str (Str.ofString "code_of") 772, Value.str (Str.ofString "left") 773, Value.str (Str.ofString "right") 774, Value.str (Str.ofString "told") 775, Value.str (Str.ofString "row") 776, Value.str (Str.ofString "size") 777, Value.str (Str.ofString "due") 778] }) ::
  (nat_lit 436, { cls := Value.type "tuple", data := Data.seq #[] }) ::
  (nat_lit 438, { cls := Value.type "code", data := Data.fields #[Value.str (Str.ofString "law") 757, Value.str (Str.ofString "law") 758, Value.str (Str.ofString "/claim/cut.py") 759, Value.int 322 0, Value.int 1 0, Value.int 0 0, Value.int 0 0, Value.int 3 0, Value.ref 433, Value.bool true, Value.int 181 0, Value.ref 434, Value.none, Value.ref 435, Value.ref 436, Value.ref 437, Value.int 779 0, Value.int 322 0, Value.str (Str.ofString "/claim/cut.py") 780] }) ::
  (nat_lit 439, fnObj (inTop 63) rfl (fun a b s => { name := Str.ofString "law", qualname := Str.ofString "law", params := a, body := .stmts b, scope := s, globals := 3, closure := [], defaults := Value.none, kwdefaults := Value.none, pyModule := Value.str (Str.ofString "law_on0117_01") 678, code := Value.ref 438 })) :: []
noncomputable def hd.view_39 : Program := view PySem.Challenge.pw_on0117_01 [1, 2, 4, 5, 6, 7, 8, 9, 10, 11, 12, 14, 15, 16, 17, 18, 19, 20, 21, 22, 23, 24, 25, 26, 27, 28, 30, 31, 32, 33, 34, 35, 36, 37, 38, 39, 40, 41, 42, 43, 44, 45, 46, 47, 48, 50, 51, 52, 53, 54, 56, 57, 58, 59, 60, 61, 62, 63]
noncomputable def hd.as : List Addr := [nat_lit 2, nat_lit 3, nat_lit 15, nat_lit 22, nat_lit 23, nat_lit 25, nat_lit 26, nat_lit 28, nat_lit 29, nat_lit 30, nat_lit 31, nat_lit 32, nat_lit 33, nat_lit 36, nat_lit 43, nat_lit 44, nat_lit 45, nat_lit 48, nat_lit 50, nat_lit 51, nat_lit 53, nat_lit 54, nat_lit 55, nat_lit 57, nat_lit 58, nat_lit 60, nat_lit 61, nat_lit 62, nat_lit 64, nat_lit 65, nat_lit 67, nat_lit 68, nat_lit 69, nat_lit 71, nat_lit 72, nat_lit 74, nat_lit 75, nat_lit 76, nat_lit 78, nat_lit 79, nat_lit 81, nat_lit 82, nat_lit 83, nat_lit 85, nat_lit 86, nat_lit 88, nat_lit 89, nat_lit 90, nat_lit 92, nat_lit 93, nat_lit 95, nat_lit 96, nat_lit 97, nat_lit 99, nat_lit 100, nat_lit 102, nat_lit 103, nat_lit 104, nat_lit 106, nat_lit 107, nat_lit 109, nat_lit 110, nat_lit 111, nat_lit 113, nat_lit 114, nat_lit 116, nat_lit 117, nat_lit 118, nat_lit 120, nat_lit 121, nat_lit 123, nat_lit 124, nat_lit 125, nat_lit 127, nat_lit 128, nat_lit 130, nat_lit 131, nat_lit 132, nat_lit 134, nat_lit 135, nat_lit 137, nat_lit 138, nat_lit 139, nat_lit 141, nat_lit 142, nat_lit 144, nat_lit 145, nat_lit 146, nat_lit 148, nat_lit 149, nat_lit 151, nat_lit 152, nat_lit 153, nat_lit 155, nat_lit 156, nat_lit 158, nat_lit 159, nat_lit 160, nat_lit 162, nat_lit 163, nat_lit 165, nat_lit 166, nat_lit 167, nat_lit 169, nat_lit 170, nat_lit 172, nat_lit 173, nat_lit 174, nat_lit 176, nat_lit 177, nat_lit 179, nat_lit 180, nat_lit 181, nat_lit 183, nat_lit 184, nat_lit 186, nat_lit 187, nat_lit 188, nat_lit 190, nat_lit 191, nat_lit 193, nat_lit 194, nat_lit 195, nat_lit 197, nat_lit 198, nat_lit 200, nat_lit 201, nat_lit 202, nat_lit 204, nat_lit 205, nat_lit 207, nat_lit 208, nat_lit 209, nat_lit 211, nat_lit 212, nat_lit 214, nat_lit 215, nat_lit 216, nat_lit 218, nat_lit 219, nat_lit 221, nat_lit 222, nat_lit 223, nat_lit 225, nat_lit 226, nat_lit 228, nat_lit 229, nat_lit 230, nat_lit 232, nat_lit 233, nat_lit 235, nat_lit 236, nat_lit 237, nat_lit 239, nat_lit 240, nat_lit 242, nat_lit 243, nat_lit 244, nat_lit 246, nat_lit 247, nat_lit 249, nat_lit 250, nat_lit 251, nat_lit 253, nat_lit 254, nat_lit 256, nat_lit 257, nat_lit 258, nat_lit 260, nat_lit 261, nat_lit 263, nat_lit 264, nat_lit 265, nat_lit 267, nat_lit 268, nat_lit 270, nat_lit 271, nat_lit 272, nat_lit 274, nat_lit 275, nat_lit 277, nat_lit 278, nat_lit 279, nat_lit 281, nat_lit 282, nat_lit 284, nat_lit 285, nat_lit 286, nat_lit 288, nat_lit 289, nat_lit 291, nat_lit 292, nat_lit 293, nat_lit 295, nat_lit 296, nat_lit 298, nat_lit 299, nat_lit 300, nat_lit 302, nat_lit 303, nat_lit 305, nat_lit 306, nat_lit 307, nat_lit 309, nat_lit 310, nat_lit 312, nat_lit 313, nat_lit 314, nat_lit 316, nat_lit 317, nat_lit 319, nat_lit 320, nat_lit 321, nat_lit 323, nat_lit 324, nat_lit 326, nat_lit 327, nat_lit 328, nat_lit 330, nat_lit 331, nat_lit 333, nat_lit 334, nat_lit 335, nat_lit 337, nat_lit 338, nat_lit 340, nat_lit 341, nat_lit 342, nat_lit 344, nat_lit 345, nat_lit 347, nat_lit 348, nat_lit 349, nat_lit 351, nat_lit 352, nat_lit 354, nat_lit 355, nat_lit 356, nat_lit 358, nat_lit 359, nat_lit 361, nat_lit 362, nat_lit 363, nat_lit 365, nat_lit 366, nat_lit 368, nat_lit 369, nat_lit 370, nat_lit 372, nat_lit 373, nat_lit 375, nat_lit 376, nat_lit 377, nat_lit 379, nat_lit 380, nat_lit 382, nat_lit 383, nat_lit 384, nat_lit 386, nat_lit 387, nat_lit 389, nat_lit 390, nat_lit 391, nat_lit 393, nat_lit 394, nat_lit 396, nat_lit 397, nat_lit 398, nat_lit 400, nat_lit 401, nat_lit 403, nat_lit 404, nat_lit 405, nat_lit 407, nat_lit 408, nat_lit 410, nat_lit 411, nat_lit 412, nat_lit 414, nat_lit 415, nat_lit 417, nat_lit 418, nat_lit 419, nat_lit 421, nat_lit 422, nat_lit 424, nat_lit 425, nat_lit 426, nat_lit 428, nat_lit 429, nat_lit 431, nat_lit 432, nat_lit 433, nat_lit 435, nat_lit 436, nat_lit 438, nat_lit 439]
theorem hd.as_eq : ∀ P, hd.as = (hd.heap_39 P).map (·.1) := fun P => by kernel_rfl
noncomputable abbrev hd.hook : Hook := kHook hd.heap_39 hd.as hd.as_eq
noncomputable abbrev hd.loose : List Str := [Str.ofString "GateloomError"]
noncomputable abbrev hd.xt (s : Shared) : Bool := xlAt hd.view_39 [] s && recOk (RowW.records (OpenRow.toRowW PySem.Challenge.rw_on0117_01.row)) s
noncomputable abbrev hd.pg : Program := PySem.Challenge.pw_on0117_01
noncomputable abbrev hd.fa (s : Shared) := (seen ((recsOf hd.view_39).map (·.name)) (ownsOf hd.view_39) [] { s with gens := #[] }, s.heap.bltView)
noncomputable abbrev hd.fb (s : Shared) := (s.heap.keysOk (looseW hd.view_39 hd.loose) ((recsOf hd.view_39).map (·.name)) ((litsOf hd.view_39).map (·.1)) ((clssOf hd.view_39 (looseW hd.view_39 hd.loose)).map (·.name)) && s.heap.accountedOkI (importedModules hd.pg.main.body) && s.heap.isNs mainGlobals && s.heap.isNs builtinsNs && tablesOk hd.view_39 s.heap && hd.xt s && (s.gens.size == 0))
noncomputable abbrev hd.fc (s : Shared) := (tabsOk hd.view_39 s, pinSeenD hd.view_39 (drecsOf hd.view_39) s, plainSeenE hd.view_39 (looseW hd.view_39 hd.loose) s, plainSeenD hd.view_39 hd.loose s, wideSeen hd.view_39 s, clsSeenW hd.view_39 hd.loose s)
-- the run in pieces: the heap as a tree, literal states behind the first statements
noncomputable def topRunT (tb : String → Option Builtin) (p : Program) (w : World) (n₀ : Nat) (ann : Option Value) : Nat → SharedT → Thread → Option SharedT
  | 0, _, _ => none
  | n + 1, s, t => match through t with
    | true => some s
    | false => match stepOk n₀ ann t with
      | false => none
      | true => match stepT (denote tb) p w s t with
        | some (s', t') => topRunT tb p w n₀ ann n s' t'
        | none => none
theorem topRun_of {tb : String → Option Builtin} {p : Program} {w : World} {n₀ : Nat} {ann : Option Value} : ∀ {n : Nat} {s s' : SharedT} {t : Thread}, topRunT tb p w n₀ ann n s t = some s' → topRun tb p w n₀ ann n s.abs t = some s'.abs
  | 0, _, _, _, h => by cases h
  | n + 1, s, s', t, h => by
    unfold topRunT at h
    unfold topRun
    cases he : through t with
    | true => rw [he] at h; cases h; rfl
    | false =>
      rw [he] at h
      cases hk : stepOk n₀ ann t with
      | false => rw [hk] at h; cases h
      | true =>
        rw [hk] at h
        cases hs : stepT (denote tb) p w s t with
        | none => rw [hs] at h; cases h
        | some r => obtain ⟨s₂, t₂⟩ := r; rw [hs] at h; rw [stepT_spec hs]; exact topRun_of h
noncomputable def treeFrom : List Obj → Nat → BT → BT
  | [], _, t => t
  | o :: r, i, t => treeFrom r (i + 1) (t.ins i o)
noncomputable def hd.oP (P : Params) : List Obj := [boot_o_0 P,
  boot_o_1 P,
  boot_o_2 P,
  boot_o_3 P,
  boot_o_4 P,
  boot_o_5 P,
  boot_o_6 P,
  boot_o_7 P,
  boot_o_8 P,
  boot_o_9 P,
  boot_o_10 P,
  { cls := Value.type "tuple", data := Data.seq #[] },
  { cls := Value.none, data := Data.fields #[] },
  { cls := Value.type "code", data := Data.fields #[Value.str (Str.ofString "<module>") 182, Value.str (Str.ofString "<module>") 183, Value.str (Str.ofString "/claim/cut.py") 184, Value.int 1 0, Value.int 0 0, Value.int 0 0, Value.int 0 0, Value.int 0 0, Value.ref 11, Value.bool false, Value.int 181 0, Value.ref 12, Value.none, Value.none, Value.none, Value.none, Value.int 185 0, Value.int 1 0, Value.str (Str.ofString "/claim/cut.py") 186] },
  { cls := Value.type "frame", slots := #[some (Value.ref 13), some (Value.ref 3), some (Value.ref 3), none, some (Value.str (Str.ofString "__main__") 164), none, some (Value.ref 0)] }]
noncomputable def hd.oA (P : Params) : List Obj := List.set (List.set (List.set (hd.oP P) 2 ({ cls := Value.none, data := Data.dict #[{ hash := PyData.keyHash P (Str.ofString "type.__subclasses__.Exception.0"), key := Value.str (Str.ofString "type.__subclasses__.Exception.0") 221, val := Value.int 32 0 }, { hash := PyData.keyHash P (Str.ofString "type.__subclasses__.Exception.n"), key := Value.str (Str.ofString "type.__subclasses__.Exception.n") 222, val := Value.int 1 0 }] 2 })) 3 ({ cls := Value.type "dict", data := Data.dict #[{ hash := PyData.keyHash P (Str.ofString "__name__"), key := Value.str (Str.ofString "__name__") 165, val := Value.str (Str.ofString "gateloom.errors") 187 }, { hash := PyData.keyHash P (Str.ofString "__doc__"), key := Value.str (Str.ofString "__doc__") 166, val := Value.none }, { hash := PyData.keyHash P (Str.ofString "__package__"), key := Value.str (Str.ofString "__package__") 167, val := Value.none }, { hash := PyData.keyHash P (Str.ofString "__loader__"), key := Value.str (Str.ofString "__loader__") 168, val := Value.builtin "__main__.__loader__#opaque" }, { hash := PyData.keyHash P (Str.ofString "__spec__"), key := Value.str (Str.ofString "__spec__") 169, val := Value.none }, { hash := PyData.keyHash P (Str.ofString "__annotations__"), key := Value.str (Str.ofString "__annotations__") 170, val := Value.ref 6 }, { hash := PyData.keyHash P (Str.ofString "__builtins__"), key := Value.str (Str.ofString "__builtins__") 171, val := Value.ref 4 }, { hash := PyData.keyHash P (Str.ofString "__file__"), key := Value.str (Str.ofString "__file__") 173, val := Value.str (Str.ofString "/claim/cut.py") 172 }, { hash := PyData.keyHash P (Str.ofString "__cached__"), key := Value.str (Str.ofString "__cached__") 174, val := Value.none }, { hash := PyData.keyHash P (Str.ofString "GateloomError"), key := Value.str (Str.ofString "GateloomError") 224, val := Value.ref 32 }] 10 })) 12 ({ cls := Value.none, data := Data.fields #[Value.int 2 0, Value.int 0 0, Value.ref 20] }) ++ [{ cls := Value.type "tuple", data := Data.seq #[Value.type "Exception"] },
  { cls := Value.type "builtin_function_or_method", data := Data.fields #[Value.builtin "type.__prepare__", Value.type "type"] },
  { cls := Value.type "dict", data := Data.dict #[{ hash := PyData.keyHash P (Str.ofString "__module__"), key := Value.str (Str.ofString "__module__") 196, val := Value.str (Str.ofString "gateloom.errors") 187 }, { hash := PyData.keyHash P (Str.ofString "__qualname__"), key := Value.str (Str.ofString "__qualname__") 198, val := Value.str (Str.ofString "GateloomError") 197 }, { hash := PyData.keyHash P (Str.ofString "__firstlineno__"), key := Value.str (Str.ofString "__firstlineno__") 200, val := Value.int 2 199 }, { hash := PyData.keyHash P (Str.ofString "__init__"), key := Value.str (Str.ofString "__init__") 213, val := Value.ref 29 }, { hash := PyData.keyHash P (Str.ofString "__static_attributes__"), key := Value.str (Str.ofString "__static_attributes__") 217, val := Value.ref 30 }] 5 },
  { cls := Value.type "tuple", data := Data.seq #[] },
  { cls := Value.none, data := Data.fields #[Value.int 4 0, Value.int 4 0, Value.ref 28] },
  { cls := Value.type "code", data := Data.fields #[Value.str (Str.ofString "GateloomError") 191, Value.str (Str.ofString "GateloomError") 192, Value.str (Str.ofString "/claim/cut.py") 193, Value.int 2 0, Value.int 0 0, Value.int 0 0, Value.int 0 0, Value.int 0 0, Value.ref 18, Value.bool false, Value.int 181 0, Value.ref 19, Value.none, Value.none, Value.none, Value.none, Value.int 194 0, Value.int 2 0, Value.str (Str.ofString "/claim/cut.py") 195] },
  { cls := Value.type "frame", slots := #[some (Value.ref 20), some (Value.ref 3), some (Value.ref 17), none, some (Value.str (Str.ofString "gateloom.errors") 187), none, some (Value.ref 0)] },
  { cls := Value.type "tuple", data := Data.seq #[Value.int (-1) 202, Value.str (Str.ofString "") 203] },
  { cls := Value.type "tuple", data := Data.seq #[] },
  { cls := Value.none, data := Data.fields #[] },
  { cls := Value.type "tuple", data := Data.seq #[Value.str (Str.ofString "self") 207, Value.str (Str.ofString "kind") 208, Value.str (Str.ofString "at") 209, Value.str (Str.ofString "detail") 210] },
  { cls := Value.type "tuple", data := Data.seq #[] },
  { cls := Value.none, data := (fnObj (inCls 1 0) rfl (fun a b s => { name := Str.ofString "__init__", qualname := Str.ofString "GateloomError.__init__", params := a, body := .stmts b, scope := s, globals := 0, closure := [], defaults := Value.none, kwdefaults := Value.none })).data },
  { cls := Value.type "code", data := Data.fields #[Value.str (Str.ofString "__init__") 204, Value.str (Str.ofString "GateloomError.__init__") 205, Value.str (Str.ofString "/claim/cut.py") 206, Value.int 4 0, Value.int 4 0, Value.int 0 0, Value.int 0 0, Value.int 3 0, Value.ref 23, Value.bool true, Value.int 181 0, Value.ref 24, Value.none, Value.ref 25, Value.ref 26, Value.ref 27, Value.int 211 0, Value.int 4 0, Value.str (Str.ofString "/claim/cut.py") 212] },
  fnObj (inCls 1 0) rfl (fun a b s => { name := Str.ofString "__init__", qualname := Str.ofString "GateloomError.__init__", params := a, body := .stmts b, scope := s, globals := 3, closure := [], defaults := Value.ref 22, kwdefaults := Value.none, pyModule := Value.str (Str.ofString "gateloom.errors") 187, code := Value.ref 28 }),
  { cls := Value.type "tuple", data := Data.seq #[Value.str (Str.ofString "at") 214, Value.str (Str.ofString "detail") 215, Value.str (Str.ofString "kind") 216] },
  { cls := Value.type "dict", data := Data.dict #[{ hash := PyData.keyHash P (Str.ofString "__module__"), key := Value.str (Str.ofString "__module__") 196, val := Value.str (Str.ofString "gateloom.errors") 187 }, { hash := PyData.keyHash P (Str.ofString "__firstlineno__"), key := Value.str (Str.ofString "__firstlineno__") 200, val := Value.int 2 199 }, { hash := PyData.keyHash P (Str.ofString "__init__"), key := Value.str (Str.ofString "__init__") 213, val := Value.ref 29 }, { hash := PyData.keyHash P (Str.ofString "__static_attributes__"), key := Value.str (Str.ofString "__static_attributes__") 217, val := Value.ref 30 }, { hash := PyData.keyHash P (Str.ofString "__weakref__"), key := Value.str (Str.ofString "__weakref__") 219, val := Value.ref 33 }, { hash := PyData.keyHash P (Str.ofString "__doc__"), key := Value.str (Str.ofString "__doc__") 220, val := Value.none }] 3 },
  { cls := Value.type "type", data := Data.cls { name := Str.ofString "GateloomError", bases := [Value.type "Exception"], mro := [Value.ref 32, Value.type "Exception", Value.type "BaseException", Value.type "object"], ns := 31, qualname := Str.ofString "GateloomError" }, slots := #[some (Value.ref 15), none, some (Value.str (Str.ofString "GateloomError") 189), some (Value.str (Str.ofString "GateloomError") 197), some (Value.builtin "Exception.__new__"), some (Value.bool true)] },
  { cls := Value.type "getset_descriptor", data := Data.fields #[Value.str (Str.ofString "__weakref__") 218, Value.ref 32, Value.builtin "ExceptionGroup.__weakref__", Value.none] },
  { cls := Value.type "super", data := Data.fields #[Value.ref 32, Value.ref 32, Value.ref 32] },
  { cls := Value.type "builtin_function_or_method", data := Data.fields #[Value.builtin "object.__init_subclass__", Value.ref 32] }]
noncomputable def hd.oB (P : Params) : List Obj := List.set (List.set (List.set (hd.oA P) 3 ({ cls := Value.type "dict", data := Data.dict #[{ hash := PyData.keyHash P (Str.ofString "__name__"), key := Value.str (Str.ofString "__name__") 165, val := Value.str (Str.ofString "gateloom.errors") 187 }, { hash := PyData.keyHash P (Str.ofString "__doc__"), key := Value.str (Str.ofString "__doc__") 166, val := Value.none }, { hash := PyData.keyHash P (Str.ofString "__package__"), key := Value.str (Str.ofString "__package__") 167, val := Value.none }, { hash := PyData.keyHash P (Str.ofString "__loader__"), key := Value.str (Str.ofString "__loader__") 168, val := Value.builtin "__main__.__loader__#opaque" }, { hash := PyData.keyHash P (Str.ofString "__spec__"), key := Value.str (Str.ofString "__spec__") 169, val := Value.none }, { hash := PyData.keyHash P (Str.ofString "__annotations__"), key := Value.str (Str.ofString "__annotations__") 170, val := Value.ref 6 }, { hash := PyData.keyHash P (Str.ofString "__builtins__"), key := Value.str (Str.ofString "__builtins__") 171, val := Value.ref 4 }, { hash := PyData.keyHash P (Str.ofString "__file__"), key := Value.str (Str.ofString "__file__") 173, val := Value.str (Str.ofString "/claim/cut.py") 172 }, { hash := PyData.keyHash P (Str.ofString "__cached__"), key := Value.str (Str.ofString "__cached__") 174, val := Value.none }, { hash := PyData.keyHash P (Str.ofString "GateloomError"), key := Value.str (Str.ofString "GateloomError") 224, val := Value.ref 32 }, { hash := PyData.keyHash P (Str.ofString "DesignError"), key := Value.str (Str.ofString "DesignError") 240, val := Value.ref 45 }] 11 })) 12 ({ cls := Value.none, data := Data.fields #[Value.int 2 0, Value.int 0 0, Value.ref 20, Value.int 8 0, Value.int 0 0, Value.ref 41] })) 32 ({ cls := Value.type "type", data := Data.cls { name := Str.ofString "GateloomError", bases := [Value.type "Exception"], mro := [Value.ref 32, Value.type "Exception", Value.type "BaseException", Value.type "object"], ns := 31, qualname := Str.ofString "GateloomError", subclasses := [Value.ref 45] }, slots := #[some (Value.ref 15), none, some (Value.str (Str.ofString "GateloomError") 189), some (Value.str (Str.ofString "GateloomError") 197), some (Value.builtin "Exception.__new__"), some (Value.bool true)] }) ++ [{ cls := Value.type "tuple", data := Data.seq #[Value.ref 32] },
  { cls := Value.type "builtin_function_or_method", data := Data.fields #[Value.builtin "type.__prepare__", Value.type "type"] },
  { cls := Value.type "dict", data := Data.dict #[{ hash := PyData.keyHash P (Str.ofString "__module__"), key := Value.str (Str.ofString "__module__") 232, val := Value.str (Str.ofString "gateloom.errors") 187 }, { hash := PyData.keyHash P (Str.ofString "__qualname__"), key := Value.str (Str.ofString "__qualname__") 234, val := Value.str (Str.ofString "DesignError") 233 }, { hash := PyData.keyHash P (Str.ofString "__firstlineno__"), key := Value.str (Str.ofString "__firstlineno__") 236, val := Value.int 8 235 }, { hash := PyData.keyHash P (Str.ofString "__static_attributes__"), key := Value.str (Str.ofString "__static_attributes__") 237, val := Value.ref 43 }] 4 },
  { cls := Value.type "tuple", data := Data.seq #[] },
  { cls := Value.none, data := Data.fields #[] },
  { cls := Value.type "code", data := Data.fields #[Value.str (Str.ofString "DesignError") 227, Value.str (Str.ofString "DesignError") 228, Value.str (Str.ofString "/claim/cut.py") 229, Value.int 8 0, Value.int 0 0, Value.int 0 0, Value.int 0 0, Value.int 0 0, Value.ref 39, Value.bool false, Value.int 181 0, Value.ref 40, Value.none, Value.none, Value.none, Value.none, Value.int 230 0, Value.int 8 0, Value.str (Str.ofString "/claim/cut.py") 231] },
  { cls := Value.type "frame", slots := #[some (Value.ref 41), some (Value.ref 3), some (Value.ref 38), none, some (Value.str (Str.ofString "gateloom.errors") 187), none, some (Value.ref 0)] },
  { cls := Value.type "tuple", data := Data.seq #[] },
  { cls := Value.type "dict", data := Data.dict #[{ hash := PyData.keyHash P (Str.ofString "__module__"), key := Value.str (Str.ofString "__module__") 232, val := Value.str (Str.ofString "gateloom.errors") 187 }, { hash := PyData.keyHash P (Str.ofString "__firstlineno__"), key := Value.str (Str.ofString "__firstlineno__") 236, val := Value.int 8 235 }, { hash := PyData.keyHash P (Str.ofString "__static_attributes__"), key := Value.str (Str.ofString "__static_attributes__") 237, val := Value.ref 43 }, { hash := PyData.keyHash P (Str.ofString "__doc__"), key := Value.str (Str.ofString "__doc__") 238, val := Value.none }] 2 },
  { cls := Value.type "type", data := Data.cls { name := Str.ofString "DesignError", bases := [Value.ref 32], mro := [Value.ref 45, Value.ref 32, Value.type "Exception", Value.type "BaseException", Value.type "object"], ns := 44, qualname := Str.ofString "DesignError" }, slots := #[some (Value.ref 36), none, some (Value.str (Str.ofString "DesignError") 225), some (Value.str (Str.ofString "DesignError") 233), some (Value.builtin "Exception.__new__"), some (Value.bool true)] },
  { cls := Value.type "super", data := Data.fields #[Value.ref 45, Value.ref 45, Value.ref 45] },
  { cls := Value.type "builtin_function_or_method", data := Data.fields #[Value.builtin "object.__init_subclass__", Value.ref 45] }]
noncomputable def holderOf (o : Obj) : Obj := match o.data with
  | .func f => { cls := .none, data := .func { name := f.name, qualname := f.qualname, params := f.params, body := f.body, scope := f.scope, globals := 0, closure := [], defaults := .none, kwdefaults := .none } }
  | _ => o
noncomputable def seekK : List (Addr × Obj) → Nat → Option Obj
  | [], _ => none
  | (a, o) :: r, i => match Nat.beq a i with
    | true => some o
    | false => seekK r i
noncomputable def hd.oF (P : Params) : List Obj := (List.range 440).map fun i => match seekK (hd.heap_39 P) i with
  | some o => o
  | none => match Nat.beq i 12 with
    | true => { cls := Value.none, data := Data.fields #[Value.int 2 0, Value.int 0 0, Value.ref 20, Value.int 8 0, Value.int 0 0, Value.ref 41, Value.int 11 0, Value.int 0 0, Value.ref 53, Value.int 13 0, Value.int 0 0, Value.ref 60, Value.int 15 0, Value.int 0 0, Value.ref 67, Value.int 18 0, Value.int 0 0, Value.ref 74, Value.int 20 0, Value.int 0 0, Value.ref 81, Value.int 22 0, Value.int 0 0, Value.ref 88, Value.int 29 0, Value.int 0 0, Value.ref 95, Value.int 31 0, Value.int 0 0, Value.ref 102, Value.int 33 0, Value.int 0 0, Value.ref 109, Value.int 40 0, Value.int 0 0, Value.ref 116, Value.int 44 0, Value.int 0 0, Value.ref 123, Value.int 48 0, Value.int 0 0, Value.ref 130, Value.int 52 0, Value.int 0 0, Value.ref 137, Value.int 56 0, Value.int 0 0, Value.ref 144, Value.int 61 0, Value.int 0 0, Value.ref 151, Value.int 67 0, Value.int 0 0, Value.ref 158, Value.int 73 0, Value.int 0 0, Value.ref 165, Value.int 81 0, Value.int 0 0, Value.ref 172, Value.int 88 0, Value.int 0 0, Value.ref 179, Value.int 98 0, Value.int 0 0, Value.ref 186, Value.int 106 0, Value.int 0 0, Value.ref 193, Value.int 111 0, Value.int 0 0, Value.ref 200, Value.int 116 0, Value.int 0 0, Value.ref 207, Value.int 118 0, Value.int 0 0, Value.ref 214, Value.int 121 0, Value.int 0 0, Value.ref 221, Value.int 123 0, Value.int 0 0, Value.ref 228, Value.int 126 0, Value.int 0 0, Value.ref 235, Value.int 131 0, Value.int 0 0, Value.ref 242, Value.int 137 0, Value.int 0 0, Value.ref 249, Value.int 140 0, Value.int 0 0, Value.ref 256, Value.int 142 0, Value.int 0 0, Value.ref 263, Value.int 147 0, Value.int 0 0, Value.ref 270, Value.int 149 0, Value.int 0 0, Value.ref 277, Value.int 151 0, Value.int 0 0, Value.ref 284, Value.int 153 0, Value.int 0 0, Value.ref 291, Value.int 162 0, Value.int 0 0, Value.ref 298, Value.int 164 0, Value.int 0 0, Value.ref 305, Value.int 166 0, Value.int 0 0, Value.ref 312, Value.int 168 0, Value.int 0 0, Value.ref 319, Value.int 170 0, Value.int 0 0, Value.ref 326, Value.int 175 0, Value.int 0 0, Value.ref 333, Value.int 177 0, Value.int 0 0, Value.ref 340, Value.int 179 0, Value.int 0 0, Value.ref 347, Value.int 182 0, Value.int 0 0, Value.ref 354, Value.int 202 0, Value.int 0 0, Value.ref 361, Value.int 220 0, Value.int 0 0, Value.ref 368, Value.int 238 0, Value.int 0 0, Value.ref 375, Value.int 252 0, Value.int 0 0, Value.ref 382, Value.int 262 0, Value.int 0 0, Value.ref 389, Value.int 268 0, Value.int 0 0, Value.ref 396, Value.int 275 0, Value.int 0 0, Value.ref 403, Value.int 277 0, Value.int 0 0, Value.ref 410, Value.int 284 0, Value.int 0 0, Value.ref 417, Value.int 304 0, Value.int 0 0, Value.ref 424, Value.int 313 0, Value.int 0 0, Value.ref 431, Value.int 322 0, Value.int 0 0, Value.ref 438] }
    | false => match Nat.blt i 48 with
      | true => (hd.oB P).getD i default
      | false => match Nat.beq (i % 7) 0 with
        | true => { cls := .none, data := .fields #[] }
        | false => holderOf ((seekK (hd.heap_39 P) (i + 2)).getD default)
noncomputable abbrev hd.b : List Stmt := behindTheImports hd.pg
noncomputable abbrev hd.env : Env := { scope := hd.pg.main.scope, locals := mainNs, globals := mainNs, cells := [], code := .ref 13, frame := some 14 }
noncomputable abbrev hd.cd : Code := .body hd.b hd.env
noncomputable abbrev hd.B : List Frame := [topFrame ⟨0, 0, 0, 0⟩]
noncomputable abbrev hd.ann : Option Value := some (.ref 6)
noncomputable abbrev hd.S0 (w : World) (os : OsState) : Shared := ⟨boot_heap w.params, Array.mk [], boot_drawn, boot_toks, os⟩
noncomputable abbrev hd.sP (w : World) (os : OsState) : SharedT := ⟨treeFrom (hd.oP w.params) 0 .nil, 15, {}, Array.mk [], {}, 187, os⟩
noncomputable abbrev hd.sA (w : World) (os : OsState) : SharedT := ⟨treeFrom (hd.oA w.params) 0 .nil, 36, {}, Array.mk [], {}, 225, os⟩
noncomputable abbrev hd.sB (w : World) (os : OsState) : SharedT := ⟨treeFrom (hd.oB w.params) 0 .nil, 48, {}, Array.mk [], {}, 241, os⟩
theorem hd.pre : ∀ w : World, (fun os => topGo treeTable hd.pg w 11 hd.ann 12 (hd.S0 w os) (topStub hd.pg)) = fun os => some ((hd.sP w os).abs, ⟨denote treeTable hd.cd, hd.cd, ⟨0, 0, 0, 0⟩, hd.B⟩) := fun w => by kernel_rfl
theorem hd.blk : ∀ w : World, (fun os => segRun treeTable hd.pg w 11 hd.ann 1 1 (hd.sP w os).abs (blockOf hd.b hd.env hd.cd ⟨0, 0, 0, 0⟩ hd.B)) = fun os => some (.next, (hd.sP w os).abs, hd.cd, ⟨0, 0, 0, 0⟩) := fun w => by kernel_rfl
theorem hd.sgA : ∀ w : World, (fun os => segRunT treeTable hd.pg w 11 hd.ann 1 300 (hd.sP w os) (piecesOf (hd.b.take 2) hd.env hd.cd ⟨0, 0, 0, 0⟩ hd.B)) = fun os => some (.next, hd.sA w os, hd.cd, ⟨2, 0, 7, 28⟩) := fun w => by kernel_rfl
theorem hd.sgB : ∀ w : World, (fun os => segRunT treeTable hd.pg w 11 hd.ann 1 300 (hd.sA w os) (piecesOf ((hd.b.drop 2).take 1) hd.env hd.cd ⟨2, 0, 7, 28⟩ hd.B)) = fun os => some (.next, hd.sB w os, hd.cd, ⟨8, 0, 9, 8⟩) := fun w => by kernel_rfl
noncomputable abbrev hd.H1 (P : Params) : Heap := absHeap (treeFrom (hd.oF P) 0 .nil) 440 {}
noncomputable abbrev hd.sF (w : World) (os : OsState) : SharedT := ⟨treeFrom (hd.oF w.params) 0 .nil, 440, {}, Array.mk [], {}, 782, os⟩
noncomputable abbrev hd.SF (w : World) (os : OsState) : Shared := ⟨hd.H1 w.params, Array.mk [], {}, 782, os⟩
theorem hd.endT : ∀ w : World, (fun os => topRunT treeTable hd.pg w 11 hd.ann 4000 (hd.sB w os) (restOf ((hd.b.drop 2).drop 1) hd.env hd.cd ⟨8, 0, 9, 8⟩ hd.B)) = fun os => some (hd.sF w os) := fun w => by kernel_rfl
theorem hd.sizes : ∀ w : World, ((boot_heap w.params).isNs mainGlobals && (Array.mk [] : Array GenState).size == 0, (boot_heap w.params).objs.size, (boot_heap w.params).nsMap mainGlobals "__annotations__") = (true, 11, hd.ann) := fun w => by kernel_rfl
theorem rest_split {tb : String → Option Builtin} {p : Program} {w : World} {n₀ N : Nat} {ann : Option Value} {s r : Shared} {l l1 l2 : List Stmt} {env : Env} {c : Code} {pos : Pos} {B : List Frame} (e : l1 ++ l2 = l) (h : topRun tb p w n₀ ann N s (restOf (l1 ++ l2) env c pos B) = some r) : topRun tb p w n₀ ann N s (restOf l env c pos B) = some r := by
  subst e
  exact h
theorem runs_chain {tb : String → Option Builtin} {p : Program} {w : World} {n₀ n1 n2 n3 n4 N : Nat} {ann : Option Value} {env : Env} {b l1 l2 l3 rest : List Stmt} {q pos pA pB : Pos} {S0 : Shared} {sP sA sB sF : SharedT} {th : Thread} (e1 : l1 ++ l2 = b) (e2 : l3 ++ rest = l2)
    (h5 : topGo tb p w n₀ ann n1 S0 th = some (sP.abs, ⟨denote tb (.body b env), .body b env, pos, [topFrame q]⟩))
    (h4 : segRun tb p w n₀ ann 1 n2 sP.abs (blockOf b env (.body b env) pos [topFrame q]) = some (.next, sP.abs, .body b env, pos))
    (h3 : segRunT tb p w n₀ ann 1 n3 sP (piecesOf l1 env (.body b env) pos [topFrame q]) = some (.next, sA, .body b env, pA))
    (h2 : segRunT tb p w n₀ ann 1 n4 sA (piecesOf l3 env (.body b env) pA [topFrame q]) = some (.next, sB, .body b env, pB))
    (h1 : topRunT tb p w n₀ ann N sB (restOf rest env (.body b env) pB [topFrame q]) = some sF) : topRun tb p w n₀ ann (n1 + (n2 + (n3 + (n4 + N)))) S0 th = some sF.abs :=
  go_top h5 (piece_block h4 (rest_split e1 (piece_app (segRun_of h3) (rest_split e2 (piece_app (segRun_of h2) (topRun_of h1))))))
theorem hd.abs_eq (w : World) (os : OsState) : (hd.sF w os).abs = hd.SF w os := by kernel_rfl
theorem hd.runs (w : World) (os : OsState) : topRun treeTable hd.pg w 11 hd.ann (12 + (1 + (300 + (300 + 4000)))) (hd.S0 w os) (topStub hd.pg) = some (hd.SF w os) ∧ True := by
  have e5 := congrFun (hd.pre w) os
  have e4 := congrFun (hd.blk w) os
  have e3 := congrFun (hd.sgA w) os
  have e2 := congrFun (hd.sgB w) os
  have e1 := congrFun (hd.endT w) os
  have r := runs_chain (List.take_append_drop 2 hd.b) (List.take_append_drop 1 (hd.b.drop 2)) e5 e4 e3 e2 e1
  exact ⟨r.trans (congrArg some (hd.abs_eq w os)), trivial⟩
theorem hd.look_0 : ∀ w : World, (fun os => (staticsOk (importedModules hd.pg.main.body) (boot_heap w.params) (hd.H1 w.params) && namesBound hd.pg (hd.H1 w.params) && gensDone (hd.SF w os) && laidKept (boot_heap w.params) (hd.H1 w.params))) = fun _ => true := fun w => by kernel_rfl
theorem hd.look_a : ∀ w : World, (fun os => hd.fa (hd.SF w os)) = fun _ => (expectedOf hd.view_39, bltViewBooted) := fun w => by kernel_rfl
theorem hd.look_b : ∀ w : World, (fun os => hd.fb (hd.SF w os)) = fun _ => true := fun w => by kernel_rfl
theorem hd.look_c : ∀ w : World, (fun os => hd.fc (hd.SF w os)) = fun _ => (true, pinGoodD (drecsOf hd.view_39), plainGoodE hd.view_39 (looseW hd.view_39 hd.loose), plainGoodD hd.view_39 hd.loose, wideGood hd.view_39, clsGoodW hd.view_39 hd.loose) := fun w => by kernel_rfl
theorem hd.look_d : ∀ w : World, (fun os => Hook.obs hd.hook (hd.SF w os)) = fun _ => Hook.val hd.hook w := fun w => by kernel_rfl
theorem hd.open_ : ∀ w : World, (fencedOpening treeTable hd.pg w 4666).map (fun s => (s.heap, s.gens, s.drawn, s.toks)) = some (boot_heap w.params, Array.mk [], boot_drawn, boot_toks) := boot_open (by kernel_rfl) (by decide) (fun s => by kernel_rfl)
theorem looks_join {α β γ δ : Type} {ε : Type} {f1 g1 : α} {f2 g2 : β} {f3 g3 : γ} {f4 g4 : δ} {z y : ε} {u : Bool} (h0 : u = true) (h1 : (f1, f2) = (g1, g2)) (h2 : f3 = g3) (h3 : f4 = g4) (h4 : z = y) : (u, (f1, f2, f3, f4), z) = (true, (g1, g2, g3, g4), y) := by
  cases h1
  subst h0 h2 h3 h4
  rfl
theorem hd.left : LeftO PySem.Challenge.rw_on0117_01.row.prog hd.view_39 hd.loose hd.xt (Hook.obs hd.hook) (Hook.val hd.hook) 4666 := by
  exact LeftO.of_pieces (H₀ := boot_heap) (H₁ := hd.H1) (M := 12 + (1 + (300 + (300 + 4000)))) hd.open_ hd.sizes (fun w os => (hd.runs w os).1) (by decide) fun w => by
    funext os
    exact looks_join (congrFun (hd.look_0 w) os) (congrFun (hd.look_a w) os) (congrFun (hd.look_b w) os) (congrFun (hd.look_c w) os) (congrFun (hd.look_d w) os)
theorem fill_join : PySem.Challenge.rw_on0117_01.foot = 8 ∧ hd.heap_39 = hd.heap_39 := by k_fill; exact ⟨rfl, rfl⟩
noncomputable abbrev Led := List (Addr × Obj)
noncomputable abbrev TU (vs : List Value) : Obj := { cls := .type "tuple", data := .seq vs.toArray }
noncomputable abbrev V3 (x a b : Int) (t1 t2 t3 : Tok) : Obj := TU [.int x t1, .int a t2, .int b t3]
noncomputable abbrev RetTy := Heap → Addr → (Str → Option Value) → Shared → (Value → Shared → Prop) → Prop

noncomputable def Goes (w : World) (f : Addr) (k : Nat) (vs : List Value) (led : Led) (Ret : RetTy) : Prop :=
  ∀ (prog p : Program) (loose : List Str) (mean : ExcName → Option Value) (mg mb : Str → Option Value) (dp un : Nat) (gd : Option (List Code)) (cn : Str) (cs : Scope) (a : Addr) (ccd : Value) (cl : List (Str × Addr)) (outer : List Env) (A₀ : Around) (base h₀ : Heap) (L : Addr) (m : Str → Option Value) (s : Shared) (Q E : Value → Shared → Prop),
    Below A₀ base outer h₀ → Fr h₀ L s.heap m → (hd.heap_39 w.params).In h₀ → News h₀ L s.heap led → Top p loose mean mg mb h₀ → cs.kind = .function → dp + k < recursionLimit → un + 8 * k < cLine →
    Ret h₀ L m s Q →
    wpAny (model prog w) (ktrTop dp un gd cn cs L a ccd cl outer) (call (.ref f) vs) Q E s

theorem Goes.use {w : World} {f : Addr} {k : Nat} {vs : List Value} {led : Led} {Ret : RetTy} (H : Goes w f k vs led Ret)
    {prog p : Program} {loose : List Str} {mean : ExcName → Option Value} {mg mb : Str → Option Value} {dp un : Nat} {gd : Option (List Code)} {cn : Str} {cs : Scope} {a : Addr} {ccd : Value} {cl : List (Str × Addr)} {outer : List Env} {A₀ : Around} {base h₀ : Heap} {L : Addr} {m : Str → Option Value} {s : Shared} {Q E : Value → Shared → Prop}
    (B : Below A₀ base outer h₀) (F : Fr h₀ L s.heap m) (X : (hd.heap_39 w.params).In h₀) (N : News h₀ L s.heap led) (T : Top p loose mean mg mb h₀) (hk : cs.kind = .function) (hd : dp + k < recursionLimit) (hu : un + 8 * k < cLine)
    (ret : Ret h₀ L m s Q) : wpAny (model prog w) (ktrTop dp un gd cn cs L a ccd cl outer) (call (.ref f) vs) Q E s := H _ _ _ _ _ _ _ _ _ _ _ _ _ _ _ _ _ _ _ _ _ _ _ B F X N T hk hd hu ret

noncomputable abbrev RetV (led : Led) (R : Tok → Value) : RetTy := fun h₀ L m s Q => ∀ t h' tk', Fr h₀ L h' m → News h₀ L h' led → Q (R t) { s with heap := h', toks := tk' }
noncomputable abbrev RetT (led : Led) (x a b : Int) : RetTy := fun h₀ L m s Q => ∀ c t1 t2 t3 h' tk', Fr h₀ L h' m → News h₀ L h' ((c, V3 x a b t1 t2 t3) :: led) → (∀ p ∈ led, p.1 < c) → Q (.ref c) { s with heap := h', toks := tk' }

theorem room_in {dp k n : Nat} (h : dp + n < recursionLimit) (hk : k + 1 ≤ n) : (dp + 1) + k < recursionLimit := by omega
theorem units_in {un k n : Nat} (h : un + 8 * n < cLine) (hk : k + 1 ≤ n) : (un + 3) + 8 * k < cLine := by omega
theorem room_at {dp n : Nat} (h : dp + n < recursionLimit) : dp < recursionLimit := by omega


local macro_rules | `(tactic| walk_at "my steps") => `(tactic| repeat' (first | (k_unfold; (try dsimp only)) | walk1 | (dsimp only; walk1) | fail "no step"))
local macro_rules | `(tactic| walk_at "my walk") => `(tactic| repeat' ((fail_if_success (with_reducible show wpAny _ _ (PySem.exec (PySem.Stmt.While _ _ _ _) _) _ _ _)); (fail_if_success (with_reducible show wpAny _ _ (PySem.exec (PySem.Stmt.For _ _ _ _ _) _) _ _ _)); (fail_if_success (with_reducible show wpAny _ _ (PySem.pyIter _) _ _ _)); first | (k_unfold; (try dsimp only)) | walk1 | (dsimp only; walk1) | fail "no step"))
local macro_rules | `(tactic| walk_at "my for") => `(tactic| (with_unfolding_all (refine' For_invVF ?kF ?k1 ?k2 ?_; (case kF => assumption); (case k1 => exact rfl); (case k2 => exact rfl))))
local macro_rules | `(tactic| walk_at "my enter") => `(tactic| ((case kA => exact rfl); (case kF => exact rfl); (case kK => assumption); (case k1 => assumption); (case k2 => assumption); (case k3 => assumption); (case k4 => assumption); (case k5 => assumption); (case k6 => k_is); (case k7 => k_is); (case k8 => exact room_at (by assumption)); (case k9 => exact BindsTo.of_eq rfl); (case c5 => decide); (case kB => exact locs rfl); (case c2 => exact rfl); (case c3 => exact rfl); (case c4 => exact rfl); k_whole; intro g' L' h' FG' F' N' B' X' T'; (try simp only [List.reverse_cons, List.reverse_nil, List.nil_append, List.cons_append] at F'); (try dsimp only); (try k_fold)))
local macro_rules | `(tactic| walk_at "my retV") => `(tactic| (intro t9 h9 tk9 F9 N9; (try dsimp only); (try k_sweep); (try k_fold)))
local macro_rules | `(tactic| walk_at "my retT") => `(tactic| (intro c9 t7 t8 t9 h9 tk9 F9 N9 l9; (try k_lt l9); (try dsimp only); (try k_sweep); (try k_fold)))
local macro_rules | `(tactic| walk_at "my use") => `(tactic| ((case k1 => k_asm); (case k2 => k_asm); (case k3 => k_asm); (case k4 => k_asm); (case k5 => k_asm); (case kK => first | exact rfl | assumption); (case kd => first | exact room_in (by assumption) (by decide) | decide); (case ku => first | exact units_in (by assumption) (by decide) | decide)))
local macro_rules | `(tactic| walk_at "my lt") => `(tactic| first | assumption | exact allLt_of (by assumption) | exact And.right (by assumption) | exact And.right (And.right (by assumption)) | exact And.right (And.right (And.right (by assumption))) | exact And.right (And.right (And.right (And.right (by assumption)))) | exact And.right (And.right (And.right (And.right (And.right (by assumption))))) | exact And.right (And.right (And.right (And.right (And.right (And.right (by assumption)))))) | exact And.right (And.right (And.right (And.right (And.right (And.right (And.right (by assumption))))))) | exact And.right (And.right (And.right (And.right (And.right (And.right (And.right (And.right (by assumption)))))))) | exact And.right (And.right (And.right (And.right (And.right (And.right (And.right (And.right (And.right (by assumption))))))))) | exact And.right (And.right (And.right (And.right (And.right (And.right (And.right (And.right (And.right (And.right (by assumption)))))))))) | exact And.right (And.right (And.right (And.right (And.right (And.right (And.right (And.right (And.right (And.right (And.right (by assumption))))))))))) | exact And.right (And.right (And.right (And.right (And.right (And.right (And.right (And.right (And.right (And.right (And.right (And.right (by assumption)))))))))))))
local macro_rules | `(tactic| k_mem) => `(tactic| first | assumption | exact List.Mem.head _ | (refine' List.mem_cons_of_mem _ ?_; k_mem))
local macro_rules | `(tactic| k_all) => do
  let n := Lean.mkIdent `Mine.allLt_ne
  `(tactic| first | assumption | exact $n:ident (by walk_at "my lt"))
local macro_rules | `(tactic| walk_at "my sub2") => `(tactic| first | assumption | (refine List.mem_cons_of_mem _ ?_; walk_at "my sub2"))
local macro_rules | `(tactic| walk_at "my sub") => `(tactic| (intro p hp; walk_at "my sub2"))
local macro_rules | `(tactic| walk_at "my end") => do
  let a := Lean.mkIdent `Mine.retI
  let b := Lean.mkIdent `Mine.retB
  let c := Lean.mkIdent `Mine.retN
  let d := Lean.mkIdent `Mine.retT
  `(tactic| (first
    | (refine' $a:ident (by assumption) ?e1 ?e2 ?e3; (case e2 => assumption); (case e3 => (first | assumption | (refine' cb_drop (by assumption) ?_; walk_at "my sub"))))
    | (refine' $b:ident (by assumption) ?e1 ?e2 ?e3; (case e2 => assumption); (case e3 => (first | assumption | (refine' cb_drop (by assumption) ?_; walk_at "my sub"))))
    | (refine' $c:ident (by assumption) ?e2 ?e3; (case e2 => assumption); (case e3 => (first | assumption | (refine' cb_drop (by assumption) ?_; walk_at "my sub"))))
    | (refine' $d:ident (by assumption) ?e2 ?e3 ?e4 ?e5 ?e6 ?e7 ?e8 ?e9; (case e2 => assumption); (case e3 => assumption); (case e4 => k_mem); (case e5 => walk_at "my sub"); (case e6 => walk_at "my lt"))))
local macro_rules | `(tactic| walk_at "eval BinOp") => `(tactic| refine wpAny_BinOp ?_)
local macro_rules | `(tactic| walk_at "isTrue Compare") => `(tactic| refine wpAny_isTrue_Compare1 ?_)
local macro_rules | `(tactic| walk_at "exec If") => `(tactic| refine wpAny_If ?_)
local macro_rules | `(tactic| walk_at "exec Return some") => `(tactic| refine wpAny_Return_some ?_)
local macro_rules | `(tactic| walk_at "my look") => do
  let a := Lean.mkIdent `Mine.look_hit
  let b := Lean.mkIdent `Mine.look_miss
  `(tactic| first | with_reducible exact if_pos rfl | ((with_reducible refine (if_neg ?nn).trans ?rr); (case nn => decide +kernel); (case rr => walk_at "my look")) | with_reducible exact $a:ident | ((with_reducible refine ($b:ident ?nn).trans ?rr); (case nn => kernel_rfl!); (case rr => walk_at "my look")) | assumption)
local macro_rules | `(tactic| walk_at "eval Name") => `(tactic| (k_here; k_dflt (refine' name_B ?kF ?k1 ?k2 ?k3 ?k4 ?k5 ?_ ?kk ?kl ?kd; (case kl => kernel_rfl!); (case kF => assumption); (case k1 => assumption); (case k2 => exact topRead_of (by assumption)); (case k3 => k_is); (case k4 => boot_by_name); (case k5 => decide); (case kk => exact rfl); (case kd => kernel_rfl!); k_whole)))
local macro_rules | `(tactic| walk_at "eval Name") => `(tactic| (k_here; k_dflt (refine' name_K ?kF ?k1 ?k2 ?k3 ?_ ?kk ?kl ?kd; (case kl => kernel_rfl!); (case kF => assumption); (case k1 => assumption); (case k2 => exact topRead_of (by assumption)); (case k3 => k_is); (case kk => exact rfl); (case kd => kernel_rfl!); k_whole)))
local macro_rules | `(tactic| walk_at "eval Name") => `(tactic| (k_here; k_dflt (refine' ld ?kF ?kv ?_ ?kk ?kl ?kd; (case kl => kernel_rfl!); (case kF => assumption); (case kv => walk_at "my look"); (case kk => exact rfl); (case kd => kernel_rfl!))))
local macro_rules | `(tactic| walk_at "subscriptTail Name Constant ref int") => `(tactic| (k_here; k_dflt (refine' item_tupleT ?t ?a ?b ?c ?d ?_; (case t => exact News.isTup (by k_asm) (by k_mem)); (case a => decide); (case b => decide); (case c => rfl); (case d => rfl); k_whole)))
local macro_rules | `(tactic| walk_at "my dec") => `(tactic| ((try simp only [bne_iff_ne, beq_iff_eq, decide_eq_true_eq, decide_eq_false_iff_not, ne_eq, Bool.and_eq_true, Bool.or_eq_true, Bool.not_eq_true', Bool.not_eq_true]); omega))
local macro_rules | `(tactic| walk_at "ite") => `(tactic| (k_openite; first | refine ite_pos (by with_reducible assumption) ?_ | refine ite_neg (by with_reducible assumption) ?_ | refine ite_isFalse (by with_reducible assumption) ?_ | (k_spoken; first | refine ite_pos (by walk_at "my dec") ?_ | refine ite_neg (by walk_at "my dec") ?_)))
local macro_rules | `(tactic| walk_at "subscriptTail Name Slice ref ref") => do
  let n := Lean.mkIdent `Mine.tup3_from1
  `(tactic| (k_here; k_dflt (refine' $n:ident ?F ?N ?t ?_ ?s ?g; (case F => k_asm); (case N => k_asm); (case t => k_mem); (case s => with_unfolding_all rfl); (case g => kmk_pure); k_whole); intro D' h' F' N' l1; (try k_lt l1); (try k_sweep)))
local macro_rules | `(tactic| walk_at "eval BoolOp") => `(tactic| (k_here; dsimp only; walk_at "eval BoolOp"))
local macro_rules | `(tactic| walk_at "newList") => `(tactic| (k_here; dsimp only; walk_at "newList"))
local macro_rules | `(tactic| walk_at "ite") => `(tactic| (k_closed; first | refine ite_pos (by k_dflt decide +kernel) ?_ | refine ite_neg (by k_dflt decide +kernel) ?_))
local macro_rules | `(tactic| walk_at "my prem") => `(tactic| first | k_mem | omega)
local macro_rules | `(tactic| walk_at "call ref") => do
  let tab : List (Nat × Lean.Name × Nat × String) := [(425, `Mine.one_goesX, 8, "my ret2"), (418, `Mine.two_goesS, 12, "my ret2"), (418, `Mine.two_goesN, 12, "my ret2"), (432, `Mine.fillings_goes, 4, "my retF"), (418, `Mine.two_goes, 10, "my ret2"), (425, `Mine.one_goes, 6, "my ret2"), (411, `Mine.whole_goes, 5, "my retV"), (404, `Mine.lcode_goes, 3, "my retV"), (397, `Mine.vector_goes, 5, "my retT"), (383, `Mine.binary_goes, 13, "my retT"), (376, `Mine.bitwise_goes, 5, "my retT"), (369, `Mine.comparison_none, 3, "my retV"), (369, `Mine.comparison_some, 13, "my retT"), (362, `Mine.arithmetic_none, 3, "my retV"), (362, `Mine.arithmetic_some, 13, "my retT"), (355, `Mine.unary_goes, 6, "my retT"), (334, `Mine.not_equal_goes, 4, "my retT"), (327, `Mine.equal_goes, 4, "my retT"), (320, `Mine.logic_or_goes, 4, "my retT"), (313, `Mine.logic_and_goes, 4, "my retT"), (306, `Mine.logic_not_goes, 3, "my retT"), (299, `Mine.reduce_xnor_goes, 5, "my retT"), (292, `Mine.reduce_xor_goes, 5, "my retT"), (285, `Mine.reduce_nor_goes, 3, "my retT"), (278, `Mine.reduce_or_goes, 3, "my retT"), (271, `Mine.reduce_nand_goes, 3, "my retT"), (264, `Mine.reduce_and_goes, 3, "my retT"), (257, `Mine.bit_xnor_goes, 4, "my retT"), (250, `Mine.bit_xor_goes, 2, "my retT"), (243, `Mine.bit_or_goes, 4, "my retT"), (236, `Mine.bit_and_goes, 2, "my retT"), (229, `Mine.bit_not_goes, 3, "my retT"), (222, `Mine.one_bit_goes, 0, "my retT"), (215, `Mine.greater_equal_goes, 8, "my retT"), (208, `Mine.greater_goes, 8, "my retT"), (201, `Mine.less_equal_goes, 8, "my retT"), (194, `Mine.less_goes, 8, "my retT"), (187, `Mine.ordered_some, 10, "my retV"), (187, `Mine.ordered_none, 9, "my retV"), (180, `Mine.shift_arith_goes, 10, "my retT"), (173, `Mine.shift_right_goes, 10, "my retT"), (166, `Mine.shift_left_goes, 10, "my retT"), (159, `Mine.mod_goes, 8, "my retT"), (152, `Mine.div_goes, 8, "my retT"), (145, `Mine.quotient_goes, 5, "my retV"), (138, `Mine.neg_goes, 3, "my retT"), (131, `Mine.mul_goes, 8, "my retT"), (124, `Mine.sub_goes, 8, "my retT"), (117, `Mine.add_goes, 8, "my retT"), (110, `Mine.truth_goes, 3, "my retV"), (103, `Mine.z_to_x_goes, 1, "my retT"), (96, `Mine.code_goes, 2, "my retV"), (89, `Mine.to_int_some, 4, "my retV"), (89, `Mine.to_int_none, 2, "my retV"), (82, `Mine.is_known_goes, 1, "my retV"), (75, `Mine.from_int_goes, 2, "my retT"), (68, `Mine.all_x_goes, 2, "my retT"), (61, `Mine.zeros_goes, 0, "my retT"), (54, `Mine.mask_goes, 2, "my retV")]
  let mut alts : Array (Lean.TSyntax `tactic) := #[]
  for (a, n, k, w) in tab do
    let i := Lean.mkIdent n
    let mut t : Lean.TSyntax `term ← `($i:ident)
    let mut cs : Array (Lean.TSyntax `tactic) := #[← `(tactic| skip)]
    for j in [0:k] do
      let h := Lean.mkIdent (Lean.Name.mkSimple ("p" ++ toString j))
      t ← `($t ?$h)
      cs := cs.push (← `(tactic| (case $h:ident => walk_at "my prem")))
    alts := alts.push (← `(tactic| ((with_reducible show wpAny _ _ (PySem.call (Value.ref $(Lean.quote a)) _) _ _ _); k_dflt (refine' Goes.use $t ?k1 ?k2 ?k3 ?k4 ?k5 ?kK ?kd ?ku ?_; walk_at "my use"; ($[$cs:tactic];*); k_whole; walk_at $(Lean.Syntax.mkStrLit w)))))
  `(tactic| (k_here; first $[| $alts:tactic]*))
local macro_rules | `(tactic| walk_at "exec Raise some none") => do
  let n := Lean.mkIdent `Mine.un_no
  `(tactic| exact False.elim ($n:ident (by assumption) (by assumption) (by assumption) (by assumption) (by assumption) (by assumption) (by assumption) (by assumption) (by assumption) (by assumption)))
local macro_rules | `(tactic| walk_at "exec Raise some none") => do
  let n := Lean.mkIdent `Mine.bi_no
  `(tactic| exact False.elim ($n:ident (by assumption) (by assumption) (by assumption) (by assumption) (by assumption) (by assumption) (by assumption)))
local macro_rules | `(tactic| walk_at "compareOp Eq ref ref") => do
  let n := Lean.mkIdent `Mine.eq_nil
  let u := Lean.mkIdent `Mine.units_64
  `(tactic| (k_here; k_dflt (refine' $n:ident ?k0 ?k1 ?k2 ?k3 ?k4 ?_; (case k0 => k_asm); (case k1 => k_mem); (case k2 => assumption); (case k3 => k_mem); (case k4 => first | exact $u:ident (by assumption) | decide); k_whole)))
local macro_rules | `(tactic| walk_at "call builtin:len") => do
  let n := Lean.mkIdent `Mine.len_ints_led
  `(tactic| (k_here; k_dflt (refine' $n:ident ?k0 ?k1 ?k2 ?k3 ?_; (case k0 => k_asm); (case k1 => k_mem); (case k2 => assumption); (case k3 => omega); k_whole)))
local macro_rules | `(tactic| walk_at "binaryOp FloorDiv int int") => `(tactic| (k_here; (with_reducible refine floordiv_int ?kbe ?_ (Or.inl (PyProof.noPylong_of_log2 ?kbp))); (case kbe => with_reducible assumption); (case kbp => with_reducible assumption)))
local macro_rules | `(tactic| walk_at "UnrEnd") => do
  let n := Lean.mkIdent `Mine.allLt_ne
  `(tactic| (k_here; refine UnrEnd.intro (by assumption) (by assumption) _ (fun _ hp => hp) ($n:ident (by walk_at "my lt")) ?_))
local macro_rules | `(tactic| walk_at "binaryOp FloorDiv int int") => `(tactic| (k_here; (with_reducible refine floordiv_int ?kbe ?_ (Or.inl (PyProof.noPylong_of_log2 ?kbp))); (case kbe => k_dflt decide); (case kbp => k_dflt decide +kernel)))
local macro_rules | `(tactic| walk_at "subscriptTail Name BinOp ref int") => do
  let n := Lean.mkIdent `Mine.item_led
  `(tactic| (k_here; k_dflt (refine' $n:ident ?k0 ?k1 ?k2 ?k3 ?k4 ?k5 ?k6 ?_; (case k0 => k_asm); (case k1 => k_mem); (case k2 => assumption); (case k3 => omega); (case k4 => omega); (case k5 => omega); (case k6 => with_unfolding_all rfl); k_whole); intro _))
local macro_rules | `(tactic| walk_at "subscriptTail Name Name ref int") => do
  let n := Lean.mkIdent `Mine.item_led
  `(tactic| (k_here; k_dflt (refine' $n:ident ?k0 ?k1 ?k2 ?k3 ?k4 ?k5 ?k6 ?_; (case k0 => k_asm); (case k1 => k_mem); (case k2 => assumption); (case k3 => omega); (case k4 => omega); (case k5 => omega); (case k6 => with_unfolding_all rfl); k_whole); intro _))
local macro_rules | `(tactic| walk_at "subscriptTail Name Name ref int") => do
  let n := Lean.mkIdent `Mine.item_lit
  `(tactic| (k_here; k_dflt (refine' $n:ident ?k0 ?k1 ?k3 ?k4 ?kj ?k5 ?k6 ?_; (case k0 => k_asm); (case k1 => k_mem); (case k3 => decide); (case k4 => decide); (case kj => rfl); (case k5 => rfl); (case k6 => with_unfolding_all rfl); k_whole)))
local macro_rules | `(tactic| walk_at "subscriptTail Name BinOp ref int") => do
  let n := Lean.mkIdent `Mine.item_lit
  `(tactic| (k_here; k_dflt (refine' $n:ident ?k0 ?k1 ?k3 ?k4 ?kj ?k5 ?k6 ?_; (case k0 => k_asm); (case k1 => k_mem); (case k3 => decide); (case k4 => decide); (case kj => rfl); (case k5 => rfl); (case k6 => with_unfolding_all rfl); k_whole)))
local macro_rules | `(tactic| walk_at "call type:range") => `(tactic| (k_here; k_dflt (refine' range1_rows ?F ?N ?_; (case F => k_asm); (case N => k_asm)); intro h' tk' t1 u1 v1 rg' F' N' keep'; clear keep'; (try k_sweep)))
local macro_rules | `(tactic| walk_at "call builtin:sum") => do
  let n := Lean.mkIdent `Mine.sum_led
  `(tactic| (k_here; k_dflt (refine' $n:ident ?k0 ?k1 ?k2 ?k3 ?k4 ?_; (case k0 => with_unfolding_all rfl); (case k1 => k_asm); (case k2 => k_asm); (case k3 => k_mem); (case k4 => assumption); k_whole); intro h' tk' t' F' N'; (try k_sweep)))
local macro_rules | `(tactic| walk_at "my endP") => do
  let a := Lean.mkIdent `Mine.retP
  let b := Lean.mkIdent `Mine.retPN
  `(tactic| (first
    | (refine' $a:ident (by assumption) ?e2 ?e3 ?e4 ?e5 ?e6 ?e7 ?e8; (case e2 => assumption); (case e3 => assumption); (case e4 => k_mem); (case e5 => walk_at "my sub"); (case e6 => walk_at "my lt"))
    | (refine' $b:ident (by assumption) ?e2 ?e3 ?e4 ?e5 ?e6 ?e7; (case e2 => assumption); (case e3 => assumption); (case e4 => k_mem); (case e5 => walk_at "my sub"); (case e6 => walk_at "my lt"))))
local macro_rules | `(tactic| walk_at "my ret2") => `(tactic| (intro c9 t7 t8 h9 tk9 F9 N9 l9; (try k_lt l9); (try dsimp only); (try k_sweep); (try k_fold)))
local macro_rules | `(tactic| walk_at "my if") => `(tactic| repeat' ((fail_if_success (with_reducible show wpAny _ _ (PySem.exec (PySem.Stmt.If _ _ _ _) _) _ _ _)); (fail_if_success (with_reducible show wpAny _ _ (PySem.eval (PySem.Expr.BoolOp _ _ _) _) _ _ _)); first | (k_unfold; (try dsimp only)) | walk1 | (dsimp only; walk1) | fail "no step"))
local macro_rules | `(tactic| walk_at "compareOp In str ref") => do
  let n := Lean.mkIdent `Mine.In_led
  `(tactic| (k_here; k_dflt (first
    | (refine' $n:ident (b := true) ?k1 ?k2 ?k3 ?k4 ?_; (case k1 => k_asm); (case k2 => k_mem); (case k3 => kde_strs); (case k4 => first | with_reducible assumption | kernel_rfl!))
    | (refine' $n:ident (b := false) ?k1 ?k2 ?k3 ?k4 ?_; (case k1 => k_asm); (case k2 => k_mem); (case k3 => kde_strs); (case k4 => first | with_reducible assumption | kernel_rfl!)))))
local macro_rules | `(tactic| walk_at "compareOp NotIn str ref") => do
  let n := Lean.mkIdent `Mine.NotIn_led
  `(tactic| (k_here; k_dflt (first
    | (refine' $n:ident (b := true) ?k1 ?k2 ?k3 ?k4 ?_; (case k1 => k_asm); (case k2 => k_mem); (case k3 => kde_strs); (case k4 => first | with_reducible assumption | kernel_rfl!))
    | (refine' $n:ident (b := false) ?k1 ?k2 ?k3 ?k4 ?_; (case k1 => k_asm); (case k2 => k_mem); (case k3 => kde_strs); (case k4 => first | with_reducible assumption | kernel_rfl!)))))
local macro_rules | `(tactic| walk_at "subscriptTail Name Name ref str") => `(tactic| (k_here; k_dflt (refine' item_strTab ?k1 ?k2 ?_; (case k1 => k_tabat); (case k2 => first | with_reducible assumption | rfl); k_whole); intro _ hv'; k_dflt (dict_open hv')))
local macro_rules | `(tactic| walk_at "subscriptTail Name Name ref str") => do
  let h := Lean.mkIdent `hop8
  `(tactic| (k_here; (rcases $h:ident with h1 | h1 | h1 | h1 | h1 | h1 | h1 | h1) <;> subst h1))
local macro_rules | `(tactic| walk_at "subscriptTail Name Name ref str") => do
  let h := Lean.mkIdent `hop7
  `(tactic| (k_here; (rcases $h:ident with h1 | h1 | h1 | h1 | h1 | h1 | h1) <;> subst h1))
local macro_rules | `(tactic| walk_at "compareOp NotIn str ref") => do
  let n := Lean.mkIdent `Mine.NotIn_led
  `(tactic| (k_here; k_dflt (refine' $n:ident ?k1 ?k2 ?k3 ?k4 ?_; (case k1 => k_asm); (case k2 => k_mem); (case k3 => kde_strs); (case k4 => exact rfl))))
local macro_rules | `(tactic| walk_at "binaryOp Add ref ref") => do
  let n := Lean.mkIdent `Mine.add_led
  `(tactic| (k_here; k_dflt (refine' $n:ident ?F ?N ?a ?b ?z ?_; (case F => k_asm); (case N => k_asm); (case a => k_mem); (case b => k_mem); (case z => (show _ + 1 ≤ _; omega)); k_whole); intro D' h' F' N' l1; (try k_lt l1); (try k_sweep)))
local macro_rules | `(tactic| walk_at "call builtin:list.append") => `(tactic| (k_here; (try simp only [List.cons_append, List.nil_append]); (with_reducible show wpAny _ _ (call (Value.builtin _) [Value.ref _, _]) _ _ _); k_dflt (refine' append_K ?k1 ?k2 ?k3 ?_ ?z; (case k1 => k_asm); (case k2 => k_asm); (case k3 => k_upd); (case z => (rw [sizeLine_eq]; (try rw [List.size_toArray]); omega)); k_whole); intro h' F' N'; (try k_sweep)))
local macro_rules | `(tactic| walk_at "subscriptTail Name Call") => do
  let n := Lean.mkIdent `Mine.item_strs_led
  `(tactic| (k_here; (with_reducible show wpAny _ _ (subscriptTail _ _ (Value.ref _) (Value.int _ _)) _ _ _); k_dflt (refine' $n:ident ?k0 ?k1 ?k2 ?k3 ?k4 ?k6 ?k5 ?_; (case k0 => k_asm); (case k1 => k_mem); (case k2 => kde_strs); (case k3 => omega); (case k4 => (simp only [List.length_cons, List.length_nil]; omega)); (case k5 => omega); (case k6 => with_unfolding_all rfl); k_whole); intro op9 t9 hop9))
local macro_rules | `(tactic| walk_at "my retF") => `(tactic| (intro c9 rs9 k9 more9 h9 tk9 F9 N9 hs9 hc9 hr9; (try dsimp only); (try k_sweep); (try k_fold)))
local macro_rules | `(tactic| walk_at "my take") => `(tactic| (intro r9 t8 t9 h9 tk9 hr8 hr9 F9 N9; (try dsimp only at N9); (try dsimp only); (try k_sweep); (try k_fold)))
local macro_rules | `(tactic| walk_at "my updT") => do
  let a := Lean.mkIdent `Mine.UpdT.head
  let b := Lean.mkIdent `Mine.UpdT.tail
  `(tactic| first | (refine' $a:ident ?ha; (case ha => k_all)) | (refine' $b:ident ?ha ?hb; (case ha => k_ne); (case hb => walk_at "my updT")))
local macro_rules | `(tactic| walk_at "call ref") => do
  let n := Lean.mkIdent `Mine.take_use
  `(tactic| (k_here; (with_reducible show wpAny _ _ (PySem.call (Value.ref 390) _) _ _ _); k_dflt (refine' $n:ident ?k1 ?k2 ?k3 ?k4 ?k5 ?kK ?kd ?ku ?pU ?pra ?phi ?phl ?ph0 ?ph9 ?pk0 ?pk9 ?_; walk_at "my use"; (case pU => walk_at "my updT"); (case pra => k_mem); (case phi => assumption); (case phl => omega); (case ph0 => omega); (case ph9 => omega); (case pk0 => omega); (case pk9 => omega); k_whole; walk_at "my take")))
local macro_rules | `(tactic| walk_at "subscriptTail Name Slice ref ref") => do
  let n := Lean.mkIdent `Mine.slc_upto
  `(tactic| (k_here; k_dflt (refine' $n:ident ?F ?N ?a ?i ?o ?z ?_ ?s ?g; (case F => k_asm); (case N => k_asm); (case a => k_mem); (case i => assumption); (case o => omega); (case z => omega); (case s => with_unfolding_all rfl); (case g => kmk_pure); k_whole); intro D' ws' h' F' N' l1 hI'; (try k_lt l1); (try k_sweep)))
local macro_rules | `(tactic| walk_at "subscriptTail Name Slice ref ref") => do
  let n := Lean.mkIdent `Mine.slc_from
  `(tactic| (k_here; k_dflt (refine' $n:ident ?F ?N ?a ?i ?o ?z ?_ ?s ?g; (case F => k_asm); (case N => k_asm); (case a => k_mem); (case i => assumption); (case o => omega); (case z => omega); (case s => with_unfolding_all rfl); (case g => kmk_pure); k_whole); intro D' ws' h' F' N' l1 hI'; (try k_lt l1); (try k_sweep)))
local macro_rules | `(tactic| walk_at "ite") => do
  let n := Lean.mkIdent `Mine.bne_same
  `(tactic| (k_here; (with_reducible refine ite_neg ($n:ident _) ?_)))

theorem post_genE {α : Type} {M : Model} {A : Around} {t : Sem α} {Q : α → Shared → Prop} {E : Value → Shared → Prop} {s : Shared} (h : ∀ P : α → Shared → Prop, ∀ E' : Value → Shared → Prop, (∀ f s', Q f s' → P f s') → (∀ e s', E e s' → E' e s') → wpAny M A t P E' s) : wpAny M A t Q E s := h Q E (fun _ _ e => e) fun _ _ e => e
theorem post_gen {α : Type} {M : Model} {A : Around} {t : Sem α} {Q : α → Shared → Prop} {E : Value → Shared → Prop} {s : Shared} (h : ∀ P : α → Shared → Prop, (∀ f s', Q f s' → P f s') → wpAny M A t P E s) : wpAny M A t Q E s := h Q fun _ _ e => e
theorem allLt_to {d : Addr} {l : List (Addr × Obj)} (h : AllLt d l) : ∀ p ∈ l, p.1 < d := by
  induction l with
  | nil => intro p hp; cases hp
  | cons q r ih =>
    intro p hp
    rcases List.mem_cons.mp hp with e | hp
    · rw [e]; exact h.1
    · exact ih h.2 p hp
theorem look_hit {x : Str} {v : Value} {l : List (Str × Value)} : List.lookup x ((x, v) :: l) = some v := by simp [List.lookup]
theorem look_miss {x a : Str} {v : Value} {l : List (Str × Value)} (h : (x == a) = false) : List.lookup x ((a, v) :: l) = List.lookup x l := by simp [List.lookup, h]
theorem allLt_ne {d : Addr} {l : List (Addr × Obj)} (h : AllLt d l) : ∀ p ∈ l, p.1 ≠ d := fun p hp => Nat.ne_of_lt (allLt_to h p hp)
section
variable {h₀ h' : Heap} {L : Addr} {m : Str → Option Value} {news led : List (Addr × Obj)} {s : Shared} {Q : Value → Shared → Prop} {t : Tok} {tk' : Nat}
theorem retI {x y : Int} (hret : ∀ (t : Tok) (h' : Heap) (tk' : Nat), Fr h₀ L h' m → News h₀ L h' news → Q (.int x t) { s with heap := h', toks := tk' }) (e : y = x) (F : Fr h₀ L h' m) (N : News h₀ L h' news) : Q (.int y t) { s with heap := h', toks := tk' } := by
  subst e
  exact hret t h' tk' F N
theorem retB {x y : Bool} (hret : ∀ (t : Tok) (h' : Heap) (tk' : Nat), Fr h₀ L h' m → News h₀ L h' news → Q (.bool x) { s with heap := h', toks := tk' }) (e : y = x) (F : Fr h₀ L h' m) (N : News h₀ L h' news) : Q (.bool y) { s with heap := h', toks := tk' } := by
  subst e
  exact hret 0 h' tk' F N
theorem retN (hret : ∀ (t : Tok) (h' : Heap) (tk' : Nat), Fr h₀ L h' m → News h₀ L h' news → Q .none { s with heap := h', toks := tk' }) (F : Fr h₀ L h' m) (N : News h₀ L h' news) : Q .none { s with heap := h', toks := tk' } :=
  hret 0 h' tk' F N
theorem retT {x a b x' a' b' : Int} {c : Addr} {t1 t2 t3 : Tok} (hret : ∀ c t1 t2 t3 h' tk', Fr h₀ L h' m → News h₀ L h' ((c, V3 x a b t1 t2 t3) :: led) → (∀ p ∈ led, p.1 < c) → Q (.ref c) { s with heap := h', toks := tk' })
    (F : Fr h₀ L h' m) (N : News h₀ L h' news) (hm : (c, V3 x' a' b' t1 t2 t3) ∈ news) (hs : ∀ p ∈ led, p ∈ news) (l : AllLt c led) (e1 : x' = x) (e2 : a' = a) (e3 : b' = b) : Q (.ref c) { s with heap := h', toks := tk' } := by
  subst e1 e2 e3
  refine hret c t1 t2 t3 h' tk' F (fun p hp => ?_) (allLt_to l)
  rcases List.mem_cons.mp hp with rfl | hp
  · exact N _ hm
  · exact N _ (hs p hp)
end
section
variable {prog : Program} {w : World} {A : Around} {E : Value → Shared → Prop} {s : Shared} {h₀ : Heap} {L : Addr} {m : Str → Option Value} {news : List (Addr × Obj)}
theorem tup3_from1 {value slice : PySem.Expr} {t : Addr} {v0 v1 v2 : Value} {u : Tok} {Q : Value → Shared → Prop}
    (F : Fr h₀ L s.heap m) (N : News h₀ L s.heap news) (ht : (t, TU [v0, v1, v2]) ∈ news)
    (h : ∀ D h', Fr h₀ L h' m → News h₀ L h' ((D, TU [v1, v2]) :: news) → (∀ p ∈ news, p.1 < D) → Q (.ref D) { s with heap := h' })
    (hs : subscripted slice false (.ref t) (.ref s.heap.objs.size) = operate [.ref s.heap.objs.size, .ref t] (getItem (.ref t) (.ref s.heap.objs.size)))
    (hg : ∀ r, letTemporaryGo value (.ref t) r = pure ()) :
    wpAny (model prog w) A (subscriptTail value slice (.ref t) (.ref s.heap.objs.size)) Q E { s with heap := s.heap.push { cls := .type "slice", data := .fields #[.int 1 u, .none, .none] } } :=
  slice_tuple_from (a := 1) F N (News.isTup N ht) (Nat.le_refl 1) (by show 1 ≤ 3; omega) (fun h' F' N' => h _ h' F' N' fun p hp => Nat.lt_succ_of_lt (Heap.lt_size (N p hp).1)) hs hg (by show 3 ≤ sizeLine; rw [sizeLine_eq]; omega)
end

noncomputable def maskF (w : Int) : Int := 1 * 2 ^ w.toNat - 1
noncomputable def toIntF (x a : Int) (sg : Bool) : Int := if (sg && (a.fdiv (2 ^ (x - 1).toNat) == 1)) = true then a - 1 * 2 ^ x.toNat else a
noncomputable def codeF (a b i : Int) : Int := Builtin.bitAnd (a.fdiv (2 ^ i.toNat)) 1 + 2 * Builtin.bitAnd (b.fdiv (2 ^ i.toNat)) 1
noncomputable def truthF (x a b : Int) : Int := if (Builtin.bitAnd a (Builtin.bitXor b (maskF x)) != 0) = true then 1 else if a = 0 ∧ b = 0 then 0 else 3
theorem mask_goes {w : World} {led : Led} {x : Int} {t : Tok} (h0 : 0 ≤ x) (h9 : x < 10) : Goes w 54 1 [Value.int x t] led (RetV led (.int (maskF x))) := by
  unfold Goes RetV
  intro prog p loose mean mg mb dp un gd cn cs a' ccd cl outer A₀ base h₀ L m s Q E B F X N T hk hdp hun hret
  k_dflt (refine' wpAny_call (code_def (binds := [(Str.ofString "w", Value.int x t)]) ?k1 ?k2 ?k3 ?k4 ?k5 ?kA ?kF ?kK ?k6 ?k7 ?k8 ?k9 ?kB ?_ ?c2 ?c3 ?c4 ?c5); walk_at "my enter")
  walk_at "my steps"
  all_goals (first | (exfalso; omega) | (walk_at "my end"; all_goals (first | rfl | (simp [maskF, *]; done) | (simp_all [maskF]; done))))
theorem zeros_goes {w : World} {led : Led} {x : Int} {t : Tok} : Goes w 61 1 [Value.int x t] led (RetT led x 0 0) := by
  unfold Goes RetT
  intro prog p loose mean mg mb dp un gd cn cs a' ccd cl outer A₀ base h₀ L m s Q E B F X N T hk hdp hun hret
  k_dflt (refine' wpAny_call (code_def (binds := [(Str.ofString "w", Value.int x t)]) ?k1 ?k2 ?k3 ?k4 ?k5 ?kA ?kF ?kK ?k6 ?k7 ?k8 ?k9 ?kB ?_ ?c2 ?c3 ?c4 ?c5); walk_at "my enter")
  walk_at "my steps"
  all_goals (first | (exfalso; omega) | (walk_at "my end"; all_goals (first | rfl | (simp [maskF, *]; done) | (simp_all [maskF]; done))))
theorem all_x_goes {w : World} {led : Led} {x : Int} {t : Tok} (h0 : 0 ≤ x) (h9 : x < 10) : Goes w 68 2 [Value.int x t] led (RetT led x (maskF x) (maskF x)) := by
  unfold Goes RetT
  intro prog p loose mean mg mb dp un gd cn cs a' ccd cl outer A₀ base h₀ L m s Q E B F X N T hk hdp hun hret
  k_dflt (refine' wpAny_call (code_def (binds := [(Str.ofString "w", Value.int x t)]) ?k1 ?k2 ?k3 ?k4 ?k5 ?kA ?kF ?kK ?k6 ?k7 ?k8 ?k9 ?kB ?_ ?c2 ?c3 ?c4 ?c5); walk_at "my enter")
  walk_at "my steps"
  all_goals (first | (exfalso; omega) | (walk_at "my end"; all_goals (first | rfl | (simp [maskF, *]; done) | (simp_all [maskF]; done))))
theorem from_int_goes {w : World} {led : Led} {x n : Int} {t u : Tok} (h0 : 0 ≤ x) (h9 : x < 10) : Goes w 75 2 [Value.int x t, Value.int n u] led (RetT led x (Builtin.bitAnd n (maskF x)) 0) := by
  unfold Goes RetT
  intro prog p loose mean mg mb dp un gd cn cs a' ccd cl outer A₀ base h₀ L m s Q E B F X N T hk hdp hun hret
  k_dflt (refine' wpAny_call (code_def (binds := [(Str.ofString "w", Value.int x t), (Str.ofString "n", Value.int n u)]) ?k1 ?k2 ?k3 ?k4 ?k5 ?kA ?kF ?kK ?k6 ?k7 ?k8 ?k9 ?kB ?_ ?c2 ?c3 ?c4 ?c5); walk_at "my enter")
  walk_at "my steps"
  all_goals (first | (exfalso; omega) | (walk_at "my end"; all_goals (first | rfl | (simp [maskF, *]; done) | (simp_all [maskF]; done))))
theorem is_known_goes {w : World} {led : Led} {u : Addr} {x a b : Int} {t1 t2 t3 : Tok} (hu : (u, V3 x a b t1 t2 t3) ∈ led) : Goes w 82 1 [Value.ref u] led (RetV led (fun _ => .bool (b == 0))) := by
  unfold Goes RetV
  intro prog p loose mean mg mb dp un gd cn cs a' ccd cl outer A₀ base h₀ L m s Q E B F X N T hk hdp hun hret
  k_dflt (refine' wpAny_call (code_def (binds := [(Str.ofString "v", Value.ref u)]) ?k1 ?k2 ?k3 ?k4 ?k5 ?kA ?kF ?kK ?k6 ?k7 ?k8 ?k9 ?kB ?_ ?c2 ?c3 ?c4 ?c5); walk_at "my enter")
  walk_at "my steps"
  all_goals (first | (exfalso; omega) | (walk_at "my end"; all_goals (first | rfl | (simp [maskF, *]; done) | (simp_all [maskF]; done))))
theorem to_int_none {w : World} {led : Led} {u : Addr} {x a b : Int} {t1 t2 t3 : Tok} (hu : (u, V3 x a b t1 t2 t3) ∈ led) {sg : Bool} (hb : b ≠ 0) : Goes w 89 1 [Value.ref u, Value.bool sg] led (RetV led (fun _ => .none)) := by
  unfold Goes RetV
  intro prog p loose mean mg mb dp un gd cn cs a' ccd cl outer A₀ base h₀ L m s Q E B F X N T hk hdp hun hret
  k_dflt (refine' wpAny_call (code_def (binds := [(Str.ofString "v", Value.ref u), (Str.ofString "signed", Value.bool sg)]) ?k1 ?k2 ?k3 ?k4 ?k5 ?kA ?kF ?kK ?k6 ?k7 ?k8 ?k9 ?kB ?_ ?c2 ?c3 ?c4 ?c5); walk_at "my enter")
  walk_at "my steps"
  all_goals (first | (exfalso; omega) | (walk_at "my end"; all_goals (first | rfl | (simp [maskF, *]; done) | (simp_all [maskF]; done))))
theorem to_int_some {w : World} {led : Led} {u : Addr} {x a b : Int} {t1 t2 t3 : Tok} (hu : (u, V3 x a b t1 t2 t3) ∈ led) {sg : Bool} (hb : b = 0) (h1 : 1 ≤ x) (h3 : x ≤ 3) : Goes w 89 1 [Value.ref u, Value.bool sg] led (RetV led (.int (toIntF x a sg))) := by
  unfold Goes RetV
  intro prog p loose mean mg mb dp un gd cn cs a' ccd cl outer A₀ base h₀ L m s Q E B F X N T hk hdp hun hret
  k_dflt (refine' wpAny_call (code_def (binds := [(Str.ofString "v", Value.ref u), (Str.ofString "signed", Value.bool sg)]) ?k1 ?k2 ?k3 ?k4 ?k5 ?kA ?kF ?kK ?k6 ?k7 ?k8 ?k9 ?kB ?_ ?c2 ?c3 ?c4 ?c5); walk_at "my enter")
  walk_at "my steps"
  all_goals (first | (exfalso; omega) | (walk_at "my end"; all_goals (first | rfl | (simp [toIntF, *]; done) | (simp_all [toIntF]; done))))
theorem code_goes {w : World} {led : Led} {u : Addr} {x a b : Int} {t1 t2 t3 : Tok} (hu : (u, V3 x a b t1 t2 t3) ∈ led) {i : Int} {t : Tok} (h0 : 0 ≤ i) : Goes w 96 1 [Value.ref u, Value.int i t] led (RetV led (.int (codeF a b i))) := by
  unfold Goes RetV
  intro prog p loose mean mg mb dp un gd cn cs a' ccd cl outer A₀ base h₀ L m s Q E B F X N T hk hdp hun hret
  k_dflt (refine' wpAny_call (code_def (binds := [(Str.ofString "v", Value.ref u), (Str.ofString "i", Value.int i t)]) ?k1 ?k2 ?k3 ?k4 ?k5 ?kA ?kF ?kK ?k6 ?k7 ?k8 ?k9 ?kB ?_ ?c2 ?c3 ?c4 ?c5); walk_at "my enter")
  walk_at "my steps"
  all_goals (first | (exfalso; omega) | (walk_at "my end"; all_goals (first | rfl | (simp [codeF, *]; done) | (simp_all [codeF]; done))))
theorem z_to_x_goes {w : World} {led : Led} {u : Addr} {x a b : Int} {t1 t2 t3 : Tok} (hu : (u, V3 x a b t1 t2 t3) ∈ led) : Goes w 103 1 [Value.ref u] led (RetT led x (Builtin.bitOr a b) b) := by
  unfold Goes RetT
  intro prog p loose mean mg mb dp un gd cn cs a' ccd cl outer A₀ base h₀ L m s Q E B F X N T hk hdp hun hret
  k_dflt (refine' wpAny_call (code_def (binds := [(Str.ofString "v", Value.ref u)]) ?k1 ?k2 ?k3 ?k4 ?k5 ?kA ?kF ?kK ?k6 ?k7 ?k8 ?k9 ?kB ?_ ?c2 ?c3 ?c4 ?c5); walk_at "my enter")
  walk_at "my steps"
  all_goals (first | (exfalso; omega) | (walk_at "my end"; all_goals (first | rfl | (simp [maskF, *]; done) | (simp_all [maskF]; done))))
theorem truth_goes {w : World} {led : Led} {u : Addr} {x a b : Int} {t1 t2 t3 : Tok} (hu : (u, V3 x a b t1 t2 t3) ∈ led) (h1 : 1 ≤ x) (h3 : x ≤ 3) : Goes w 110 2 [Value.ref u] led (RetV led (.int (truthF x a b))) := by
  unfold Goes RetV
  intro prog p loose mean mg mb dp un gd cn cs a' ccd cl outer A₀ base h₀ L m s Q E B F X N T hk hdp hun hret
  k_dflt (refine' wpAny_call (code_def (binds := [(Str.ofString "v", Value.ref u)]) ?k1 ?k2 ?k3 ?k4 ?k5 ?kA ?kF ?kK ?k6 ?k7 ?k8 ?k9 ?kB ?_ ?c2 ?c3 ?c4 ?c5); walk_at "my enter")
  walk_at "my steps"
  all_goals (first | (exfalso; omega) | (walk_at "my end"; all_goals (first | rfl | (simp [truthF, *]; done) | (simp_all [truthF]; done))))

noncomputable def arA (x b d n : Int) : Int := if b = 0 ∧ d = 0 then Builtin.bitAnd n (maskF x) else maskF x
noncomputable def arB (x b d : Int) : Int := if b = 0 ∧ d = 0 then 0 else maskF x
noncomputable def quotF (m n : Int) : Int := if (decide (m < 0) != decide (n < 0)) = true then 0 - Int.fdiv (if m < 0 then -m else m) (if n < 0 then -n else n) else Int.fdiv (if m < 0 then -m else m) (if n < 0 then -n else n)
noncomputable def dvA (x b d n q : Int) : Int := if b = 0 ∧ d = 0 ∧ n ≠ 0 then Builtin.bitAnd q (maskF x) else maskF x
noncomputable def dvB (x b d n : Int) : Int := if b = 0 ∧ d = 0 ∧ n ≠ 0 then 0 else maskF x
noncomputable def slF (x c d z : Int) : Int := if d ≠ 0 then maskF x else if c ≥ x then 0 else Builtin.bitAnd (z * 2 ^ c.toNat) (maskF x)
noncomputable def srF (x c d z : Int) : Int := if d ≠ 0 then maskF x else if c ≥ x then 0 else z.fdiv (2 ^ c.toNat)
noncomputable def ordF (m n : Int) : Int := if m = n then 0 else if m < n then -1 else 1
noncomputable def i16 : List Int := (List.range 16).map fun (n : Nat) => (n : Int) - 8
theorem i16_mem {m : Int} (m0 : -8 ≤ m) (m8 : m < 8) : m ∈ i16 := List.mem_map.mpr ⟨(m + 8).toNat, List.mem_range.mpr (by omega), by omega⟩
theorem quotF_ck : ∀ m ∈ i16, ∀ n ∈ i16, -8 ≤ quotF m n ∧ quotF m n ≤ 8 := by decide +kernel
theorem quotF_lo {m n : Int} (m0 : -8 ≤ m) (m8 : m < 8) (n0 : -8 ≤ n) (n8 : n < 8) : -8 ≤ quotF m n := (quotF_ck m (i16_mem m0 m8) n (i16_mem n0 n8)).1
theorem quotF_hi {m n : Int} (m0 : -8 ≤ m) (m8 : m < 8) (n0 : -8 ≤ n) (n8 : n < 8) : quotF m n ≤ 8 := (quotF_ck m (i16_mem m0 m8) n (i16_mem n0 n8)).2
theorem toIntF_lo {x a : Int} {sg : Bool} (h1 : 1 ≤ x) (h3 : x ≤ 3) (a0 : 0 ≤ a) : -8 ≤ toIntF x a sg := by
  rcases (by omega : x = 1 ∨ x = 2 ∨ x = 3) with h | h | h <;> subst h <;> unfold toIntF <;> split <;> first | omega | (simp; omega)
theorem toIntF_hi {x a : Int} {sg : Bool} (h1 : 1 ≤ x) (h3 : x ≤ 3) (a8 : a < 8) : toIntF x a sg < 8 := by
  rcases (by omega : x = 1 ∨ x = 2 ∨ x = 3) with h | h | h <;> subst h <;> unfold toIntF <;> split <;> first | omega | (simp; omega)
theorem add_goes {w : World} {led : Led} {u v : Addr} {x a b c d : Int} {t1 t2 t3 t4 t5 t6 : Tok} (hu : (u, V3 x a b t1 t2 t3) ∈ led) (hv : (v, V3 x c d t4 t5 t6) ∈ led) (h1 : 1 ≤ x) (h3 : x ≤ 3) (a0 : 0 ≤ a) (a8 : a < 8) (c0 : 0 ≤ c) (c8 : c < 8) : Goes w 117 3 [Value.ref u, Value.ref v] led (RetT led x (arA x b d (a + c)) (arB x b d)) := by
  unfold Goes RetT
  intro prog p loose mean mg mb dp un gd cn cs a' ccd cl outer A₀ base h₀ L m s Q E B F X N T hk hdp hun hret
  k_dflt (refine' wpAny_call (code_def (binds := [(Str.ofString "u", Value.ref u), (Str.ofString "v", Value.ref v)]) ?k1 ?k2 ?k3 ?k4 ?k5 ?kA ?kF ?kK ?k6 ?k7 ?k8 ?k9 ?kB ?_ ?c2 ?c3 ?c4 ?c5); walk_at "my enter")
  walk_at "my steps"
  all_goals (first | (exfalso; omega) | (walk_at "my end"; all_goals (first | rfl | (simp [arA, arB, *]; done) | (simp_all [arA, arB]; done))))
theorem sub_goes {w : World} {led : Led} {u v : Addr} {x a b c d : Int} {t1 t2 t3 t4 t5 t6 : Tok} (hu : (u, V3 x a b t1 t2 t3) ∈ led) (hv : (v, V3 x c d t4 t5 t6) ∈ led) (h1 : 1 ≤ x) (h3 : x ≤ 3) (a0 : 0 ≤ a) (a8 : a < 8) (c0 : 0 ≤ c) (c8 : c < 8) : Goes w 124 3 [Value.ref u, Value.ref v] led (RetT led x (arA x b d (a - c)) (arB x b d)) := by
  unfold Goes RetT
  intro prog p loose mean mg mb dp un gd cn cs a' ccd cl outer A₀ base h₀ L m s Q E B F X N T hk hdp hun hret
  k_dflt (refine' wpAny_call (code_def (binds := [(Str.ofString "u", Value.ref u), (Str.ofString "v", Value.ref v)]) ?k1 ?k2 ?k3 ?k4 ?k5 ?kA ?kF ?kK ?k6 ?k7 ?k8 ?k9 ?kB ?_ ?c2 ?c3 ?c4 ?c5); walk_at "my enter")
  walk_at "my steps"
  all_goals (first | (exfalso; omega) | (walk_at "my end"; all_goals (first | rfl | (simp [arA, arB, *]; done) | (simp_all [arA, arB]; done))))
theorem mul_goes {w : World} {led : Led} {u v : Addr} {x a b c d : Int} {t1 t2 t3 t4 t5 t6 : Tok} (hu : (u, V3 x a b t1 t2 t3) ∈ led) (hv : (v, V3 x c d t4 t5 t6) ∈ led) (h1 : 1 ≤ x) (h3 : x ≤ 3) (a0 : 0 ≤ a) (a8 : a < 8) (c0 : 0 ≤ c) (c8 : c < 8) : Goes w 131 3 [Value.ref u, Value.ref v] led (RetT led x (arA x b d (a * c)) (arB x b d)) := by
  unfold Goes RetT
  intro prog p loose mean mg mb dp un gd cn cs a' ccd cl outer A₀ base h₀ L m s Q E B F X N T hk hdp hun hret
  k_dflt (refine' wpAny_call (code_def (binds := [(Str.ofString "u", Value.ref u), (Str.ofString "v", Value.ref v)]) ?k1 ?k2 ?k3 ?k4 ?k5 ?kA ?kF ?kK ?k6 ?k7 ?k8 ?k9 ?kB ?_ ?c2 ?c3 ?c4 ?c5); walk_at "my enter")
  walk_at "my steps"
  all_goals (first | (exfalso; omega) | (walk_at "my end"; all_goals (first | rfl | (simp [arA, arB, *]; done) | (simp_all [arA, arB]; done))))
theorem neg_goes {w : World} {led : Led} {u : Addr} {x a b : Int} {t1 t2 t3 : Tok} (hu : (u, V3 x a b t1 t2 t3) ∈ led) (h1 : 1 ≤ x) (h3 : x ≤ 3) : Goes w 138 3 [Value.ref u] led (RetT led x (arA x b 0 (0 - a)) (arB x b 0)) := by
  unfold Goes RetT
  intro prog p loose mean mg mb dp un gd cn cs a' ccd cl outer A₀ base h₀ L m s Q E B F X N T hk hdp hun hret
  k_dflt (refine' wpAny_call (code_def (binds := [(Str.ofString "v", Value.ref u)]) ?k1 ?k2 ?k3 ?k4 ?k5 ?kA ?kF ?kK ?k6 ?k7 ?k8 ?k9 ?kB ?_ ?c2 ?c3 ?c4 ?c5); walk_at "my enter")
  walk_at "my steps"
  all_goals (first | (exfalso; omega) | (walk_at "my end"; all_goals (first | rfl | (simp [arA, arB, *]; done) | (simp_all [arA, arB]; done))))
theorem quotient_goes {w : World} {led : Led} {i j : Int} {t t' : Tok} (m0 : -8 ≤ i) (m8 : i < 8) (n0 : -8 ≤ j) (n8 : j < 8) (hn : j ≠ 0) : Goes w 145 1 [Value.int i t, Value.int j t'] led (RetV led (.int (quotF i j))) := by
  unfold Goes RetV
  intro prog p loose mean mg mb dp un gd cn cs a' ccd cl outer A₀ base h₀ L m s Q E B F X N T hk hdp hun hret
  k_dflt (refine' wpAny_call (code_def (binds := [(Str.ofString "m", Value.int i t), (Str.ofString "n", Value.int j t')]) ?k1 ?k2 ?k3 ?k4 ?k5 ?kA ?kF ?kK ?k6 ?k7 ?k8 ?k9 ?kB ?_ ?c2 ?c3 ?c4 ?c5); walk_at "my enter")
  walk_at "my steps"
  all_goals (first | (exfalso; omega) | (walk_at "my end"; all_goals (first | rfl | (simp [quotF, *]; done) | (simp_all [quotF]; done))))
theorem div_goes {w : World} {led : Led} {u v : Addr} {x a b c d : Int} {t1 t2 t3 t4 t5 t6 : Tok} (hu : (u, V3 x a b t1 t2 t3) ∈ led) (hv : (v, V3 x c d t4 t5 t6) ∈ led) {sg : Bool} (h1 : 1 ≤ x) (h3 : x ≤ 3) (a0 : 0 ≤ a) (a8 : a < 8) (c0 : 0 ≤ c) (c8 : c < 8) : Goes w 152 3 [Value.ref u, Value.ref v, Value.bool sg] led (RetT led x (dvA x b d (toIntF x c sg) (quotF (toIntF x a sg) (toIntF x c sg))) (dvB x b d (toIntF x c sg))) := by
  unfold Goes RetT
  intro prog p loose mean mg mb dp un gd cn cs a' ccd cl outer A₀ base h₀ L m s Q E B F X N T hk hdp hun hret
  by_cases hb : b = 0 <;> by_cases hd : d = 0
  all_goals (
    have hm1 := toIntF_lo (x := x) (sg := sg) h1 h3 a0
    have hm2 := toIntF_hi (x := x) (sg := sg) h1 h3 a8
    have hn1 := toIntF_lo (x := x) (sg := sg) h1 h3 c0
    have hn2 := toIntF_hi (x := x) (sg := sg) h1 h3 c8
    k_dflt (refine' wpAny_call (code_def (binds := [(Str.ofString "u", Value.ref u), (Str.ofString "v", Value.ref v), (Str.ofString "signed", Value.bool sg)]) ?k1 ?k2 ?k3 ?k4 ?k5 ?kA ?kF ?kK ?k6 ?k7 ?k8 ?k9 ?kB ?_ ?c2 ?c3 ?c4 ?c5); walk_at "my enter")
    walk_at "my steps")
  all_goals (first | (exfalso; omega) | (walk_at "my end"; all_goals (first | rfl | (simp [dvA, dvB, *]; done) | (simp_all [dvA, dvB]; done))))
theorem mod_goes {w : World} {led : Led} {u v : Addr} {x a b c d : Int} {t1 t2 t3 t4 t5 t6 : Tok} (hu : (u, V3 x a b t1 t2 t3) ∈ led) (hv : (v, V3 x c d t4 t5 t6) ∈ led) {sg : Bool} (h1 : 1 ≤ x) (h3 : x ≤ 3) (a0 : 0 ≤ a) (a8 : a < 8) (c0 : 0 ≤ c) (c8 : c < 8) : Goes w 159 3 [Value.ref u, Value.ref v, Value.bool sg] led (RetT led x (dvA x b d (toIntF x c sg) (toIntF x a sg - toIntF x c sg * quotF (toIntF x a sg) (toIntF x c sg))) (dvB x b d (toIntF x c sg))) := by
  unfold Goes RetT
  intro prog p loose mean mg mb dp un gd cn cs a' ccd cl outer A₀ base h₀ L m s Q E B F X N T hk hdp hun hret
  by_cases hb : b = 0 <;> by_cases hd : d = 0
  all_goals (
    have hm1 := toIntF_lo (x := x) (sg := sg) h1 h3 a0
    have hm2 := toIntF_hi (x := x) (sg := sg) h1 h3 a8
    have hn1 := toIntF_lo (x := x) (sg := sg) h1 h3 c0
    have hn2 := toIntF_hi (x := x) (sg := sg) h1 h3 c8
    have hq1 := quotF_lo hm1 hm2 hn1 hn2
    have hq2 := quotF_hi hm1 hm2 hn1 hn2
    k_dflt (refine' wpAny_call (code_def (binds := [(Str.ofString "u", Value.ref u), (Str.ofString "v", Value.ref v), (Str.ofString "signed", Value.bool sg)]) ?k1 ?k2 ?k3 ?k4 ?k5 ?kA ?kF ?kK ?k6 ?k7 ?k8 ?k9 ?kB ?_ ?c2 ?c3 ?c4 ?c5); walk_at "my enter")
    walk_at "my steps")
  all_goals (first | (exfalso; omega) | (walk_at "my end"; all_goals (first | rfl | (simp [dvA, dvB, *]; done) | (simp_all [dvA, dvB]; done))))
theorem shift_left_goes {w : World} {led : Led} {u v : Addr} {x a b c d : Int} {t1 t2 t3 t4 t5 t6 : Tok} (hu : (u, V3 x a b t1 t2 t3) ∈ led) (hv : (v, V3 x c d t4 t5 t6) ∈ led) (h1 : 1 ≤ x) (h3 : x ≤ 3) (a0 : 0 ≤ a) (a8 : a < 8) (b0 : 0 ≤ b) (b8 : b < 8) (c0 : 0 ≤ c) (c8 : c < 8) : Goes w 166 3 [Value.ref u, Value.ref v] led (RetT led x (slF x c d a) (slF x c d b)) := by
  unfold Goes RetT
  intro prog p loose mean mg mb dp un gd cn cs a' ccd cl outer A₀ base h₀ L m s Q E B F X N T hk hdp hun hret
  k_dflt (refine' wpAny_call (code_def (binds := [(Str.ofString "u", Value.ref u), (Str.ofString "n", Value.ref v)]) ?k1 ?k2 ?k3 ?k4 ?k5 ?kA ?kF ?kK ?k6 ?k7 ?k8 ?k9 ?kB ?_ ?c2 ?c3 ?c4 ?c5); walk_at "my enter")
  walk_at "my steps"
  all_goals (first | (exfalso; omega) | (walk_at "my end"; all_goals (first | rfl | (simp [slF, *]; done) | (simp_all [slF]; done))))
theorem shift_right_goes {w : World} {led : Led} {u v : Addr} {x a b c d : Int} {t1 t2 t3 t4 t5 t6 : Tok} (hu : (u, V3 x a b t1 t2 t3) ∈ led) (hv : (v, V3 x c d t4 t5 t6) ∈ led) (h1 : 1 ≤ x) (h3 : x ≤ 3) (a0 : 0 ≤ a) (a8 : a < 8) (b0 : 0 ≤ b) (b8 : b < 8) (c0 : 0 ≤ c) (c8 : c < 8) : Goes w 173 3 [Value.ref u, Value.ref v] led (RetT led x (srF x c d a) (srF x c d b)) := by
  unfold Goes RetT
  intro prog p loose mean mg mb dp un gd cn cs a' ccd cl outer A₀ base h₀ L m s Q E B F X N T hk hdp hun hret
  k_dflt (refine' wpAny_call (code_def (binds := [(Str.ofString "u", Value.ref u), (Str.ofString "n", Value.ref v)]) ?k1 ?k2 ?k3 ?k4 ?k5 ?kA ?kF ?kK ?k6 ?k7 ?k8 ?k9 ?kB ?_ ?c2 ?c3 ?c4 ?c5); walk_at "my enter")
  walk_at "my steps"
  all_goals (first | (exfalso; omega) | (walk_at "my end"; all_goals (first | rfl | (simp [srF, *]; done) | (simp_all [srF]; done))))

noncomputable def saF (x a b c d z bit : Int) (sg : Bool) : Int :=
  if sg = true ∧ d = 0 then Builtin.bitOr (z.fdiv (2 ^ (if x < c then x else c).toNat)) (if (Builtin.bitAnd (codeF a b (x - 1)) bit == bit) = true then Builtin.bitXor (maskF x) (maskF (x - (if x < c then x else c))) else 0)
  else srF x c d z
noncomputable def cmpA (b d r : Int) : Int := if b = 0 ∧ d = 0 then r else maskF 1
noncomputable def cmpB (b d : Int) : Int := if b = 0 ∧ d = 0 then 0 else maskF 1
theorem shift_arith_goes {w : World} {led : Led} {u v : Addr} {x a b c d : Int} {t1 t2 t3 t4 t5 t6 : Tok} (hu : (u, V3 x a b t1 t2 t3) ∈ led) (hv : (v, V3 x c d t4 t5 t6) ∈ led) {sg : Bool} (h1 : 1 ≤ x) (h3 : x ≤ 3) (a0 : 0 ≤ a) (a8 : a < 8) (b0 : 0 ≤ b) (b8 : b < 8) (c0 : 0 ≤ c) (c8 : c < 8) : Goes w 180 4 [Value.ref u, Value.ref v, Value.bool sg] led (RetT led x (saF x a b c d a 1 sg) (saF x a b c d b 2 sg)) := by
  unfold Goes RetT
  intro prog p loose mean mg mb dp un gd cn cs a' ccd cl outer A₀ base h₀ L m s Q E B F X N T hk hdp hun hret
  rcases Decidable.em (sg = true ∧ d = 0) with ⟨hs, hd⟩ | hs
  all_goals (
    k_dflt (refine' wpAny_call (code_def (binds := [(Str.ofString "u", Value.ref u), (Str.ofString "n", Value.ref v), (Str.ofString "signed", Value.bool sg)]) ?k1 ?k2 ?k3 ?k4 ?k5 ?kA ?kF ?kK ?k6 ?k7 ?k8 ?k9 ?kB ?_ ?c2 ?c3 ?c4 ?c5); walk_at "my enter")
    walk_at "my steps")
  all_goals (first | (exfalso; omega) | (walk_at "my end"; all_goals (first | rfl | (simp [saF, *]; done) | (simp_all [saF]; done))))
theorem ordered_none {w : World} {led : Led} {u v : Addr} {x a b c d : Int} {t1 t2 t3 t4 t5 t6 : Tok} (hu : (u, V3 x a b t1 t2 t3) ∈ led) (hv : (v, V3 x c d t4 t5 t6) ∈ led) {sg : Bool} (hbd : ¬ (b = 0 ∧ d = 0)) (h1 : 1 ≤ x) (h3 : x ≤ 3) (a0 : 0 ≤ a) (a8 : a < 8) (c0 : 0 ≤ c) (c8 : c < 8) : Goes w 187 2 [Value.ref u, Value.ref v, Value.bool sg] led (RetV led (fun _ => .none)) := by
  unfold Goes RetV
  intro prog p loose mean mg mb dp un gd cn cs a' ccd cl outer A₀ base h₀ L m s Q E B F X N T hk hdp hun hret
  by_cases hb : b = 0 <;> by_cases hd : d = 0
  all_goals (
    k_dflt (refine' wpAny_call (code_def (binds := [(Str.ofString "u", Value.ref u), (Str.ofString "v", Value.ref v), (Str.ofString "signed", Value.bool sg)]) ?k1 ?k2 ?k3 ?k4 ?k5 ?kA ?kF ?kK ?k6 ?k7 ?k8 ?k9 ?kB ?_ ?c2 ?c3 ?c4 ?c5); walk_at "my enter")
    walk_at "my steps")
  all_goals (first | (exfalso; omega) | (walk_at "my end"; all_goals (first | rfl | (simp [maskF, *]; done) | (simp_all [maskF]; done))))
theorem ordered_some {w : World} {led : Led} {u v : Addr} {x a b c d : Int} {t1 t2 t3 t4 t5 t6 : Tok} (hu : (u, V3 x a b t1 t2 t3) ∈ led) (hv : (v, V3 x c d t4 t5 t6) ∈ led) {sg : Bool} (hb : b = 0) (hd : d = 0) (h1 : 1 ≤ x) (h3 : x ≤ 3) (a0 : 0 ≤ a) (a8 : a < 8) (c0 : 0 ≤ c) (c8 : c < 8) : Goes w 187 2 [Value.ref u, Value.ref v, Value.bool sg] led (RetV led (.int (ordF (toIntF x a sg) (toIntF x c sg)))) := by
  unfold Goes RetV
  intro prog p loose mean mg mb dp un gd cn cs a' ccd cl outer A₀ base h₀ L m s Q E B F X N T hk hdp hun hret
  all_goals (
    k_dflt (refine' wpAny_call (code_def (binds := [(Str.ofString "u", Value.ref u), (Str.ofString "v", Value.ref v), (Str.ofString "signed", Value.bool sg)]) ?k1 ?k2 ?k3 ?k4 ?k5 ?kA ?kF ?kK ?k6 ?k7 ?k8 ?k9 ?kB ?_ ?c2 ?c3 ?c4 ?c5); walk_at "my enter")
    walk_at "my steps")
  all_goals (first | (exfalso; omega) | (walk_at "my end"; all_goals (first | rfl | (simp [ordF, *]; done) | (simp_all [ordF]; done))))
theorem less_goes {w : World} {led : Led} {u v : Addr} {x a b c d : Int} {t1 t2 t3 t4 t5 t6 : Tok} (hu : (u, V3 x a b t1 t2 t3) ∈ led) (hv : (v, V3 x c d t4 t5 t6) ∈ led) {sg : Bool} (h1 : 1 ≤ x) (h3 : x ≤ 3) (a0 : 0 ≤ a) (a8 : a < 8) (c0 : 0 ≤ c) (c8 : c < 8) : Goes w 194 3 [Value.ref u, Value.ref v, Value.bool sg] led (RetT led 1 (cmpA b d (if ordF (toIntF x a sg) (toIntF x c sg) < 0 then 1 else 0)) (cmpB b d)) := by
  unfold Goes RetT
  intro prog p loose mean mg mb dp un gd cn cs a' ccd cl outer A₀ base h₀ L m s Q E B F X N T hk hdp hun hret
  rcases Decidable.em (b = 0 ∧ d = 0) with ⟨hb, hd⟩ | hbd
  all_goals (
    k_dflt (refine' wpAny_call (code_def (binds := [(Str.ofString "u", Value.ref u), (Str.ofString "v", Value.ref v), (Str.ofString "signed", Value.bool sg)]) ?k1 ?k2 ?k3 ?k4 ?k5 ?kA ?kF ?kK ?k6 ?k7 ?k8 ?k9 ?kB ?_ ?c2 ?c3 ?c4 ?c5); walk_at "my enter")
    walk_at "my steps")
  all_goals (first | (exfalso; omega) | (walk_at "my end"; all_goals (first | rfl | (simp [cmpA, cmpB, and_comm, *]; done) | (simp_all [cmpA, cmpB, and_comm]; done))))
theorem less_equal_goes {w : World} {led : Led} {u v : Addr} {x a b c d : Int} {t1 t2 t3 t4 t5 t6 : Tok} (hu : (u, V3 x a b t1 t2 t3) ∈ led) (hv : (v, V3 x c d t4 t5 t6) ∈ led) {sg : Bool} (h1 : 1 ≤ x) (h3 : x ≤ 3) (a0 : 0 ≤ a) (a8 : a < 8) (c0 : 0 ≤ c) (c8 : c < 8) : Goes w 201 3 [Value.ref u, Value.ref v, Value.bool sg] led (RetT led 1 (cmpA b d (if ordF (toIntF x a sg) (toIntF x c sg) ≤ 0 then 1 else 0)) (cmpB b d)) := by
  unfold Goes RetT
  intro prog p loose mean mg mb dp un gd cn cs a' ccd cl outer A₀ base h₀ L m s Q E B F X N T hk hdp hun hret
  rcases Decidable.em (b = 0 ∧ d = 0) with ⟨hb, hd⟩ | hbd
  all_goals (
    k_dflt (refine' wpAny_call (code_def (binds := [(Str.ofString "u", Value.ref u), (Str.ofString "v", Value.ref v), (Str.ofString "signed", Value.bool sg)]) ?k1 ?k2 ?k3 ?k4 ?k5 ?kA ?kF ?kK ?k6 ?k7 ?k8 ?k9 ?kB ?_ ?c2 ?c3 ?c4 ?c5); walk_at "my enter")
    walk_at "my steps")
  all_goals (first | (exfalso; omega) | (walk_at "my end"; all_goals (first | rfl | (simp [cmpA, cmpB, and_comm, *]; done) | (simp_all [cmpA, cmpB, and_comm]; done))))
theorem greater_goes {w : World} {led : Led} {u v : Addr} {x a b c d : Int} {t1 t2 t3 t4 t5 t6 : Tok} (hu : (u, V3 x a b t1 t2 t3) ∈ led) (hv : (v, V3 x c d t4 t5 t6) ∈ led) {sg : Bool} (h1 : 1 ≤ x) (h3 : x ≤ 3) (a0 : 0 ≤ a) (a8 : a < 8) (c0 : 0 ≤ c) (c8 : c < 8) : Goes w 208 4 [Value.ref u, Value.ref v, Value.bool sg] led (RetT led 1 (cmpA b d (if ordF (toIntF x c sg) (toIntF x a sg) < 0 then 1 else 0)) (cmpB b d)) := by
  unfold Goes RetT
  intro prog p loose mean mg mb dp un gd cn cs a' ccd cl outer A₀ base h₀ L m s Q E B F X N T hk hdp hun hret
  all_goals (
    k_dflt (refine' wpAny_call (code_def (binds := [(Str.ofString "u", Value.ref u), (Str.ofString "v", Value.ref v), (Str.ofString "signed", Value.bool sg)]) ?k1 ?k2 ?k3 ?k4 ?k5 ?kA ?kF ?kK ?k6 ?k7 ?k8 ?k9 ?kB ?_ ?c2 ?c3 ?c4 ?c5); walk_at "my enter")
    walk_at "my steps")
  all_goals (first | (exfalso; omega) | (walk_at "my end"; all_goals (first | rfl | (simp [cmpA, cmpB, and_comm, *]; done) | (simp_all [cmpA, cmpB, and_comm]; done))))
theorem greater_equal_goes {w : World} {led : Led} {u v : Addr} {x a b c d : Int} {t1 t2 t3 t4 t5 t6 : Tok} (hu : (u, V3 x a b t1 t2 t3) ∈ led) (hv : (v, V3 x c d t4 t5 t6) ∈ led) {sg : Bool} (h1 : 1 ≤ x) (h3 : x ≤ 3) (a0 : 0 ≤ a) (a8 : a < 8) (c0 : 0 ≤ c) (c8 : c < 8) : Goes w 215 4 [Value.ref u, Value.ref v, Value.bool sg] led (RetT led 1 (cmpA b d (if ordF (toIntF x c sg) (toIntF x a sg) ≤ 0 then 1 else 0)) (cmpB b d)) := by
  unfold Goes RetT
  intro prog p loose mean mg mb dp un gd cn cs a' ccd cl outer A₀ base h₀ L m s Q E B F X N T hk hdp hun hret
  all_goals (
    k_dflt (refine' wpAny_call (code_def (binds := [(Str.ofString "u", Value.ref u), (Str.ofString "v", Value.ref v), (Str.ofString "signed", Value.bool sg)]) ?k1 ?k2 ?k3 ?k4 ?k5 ?kA ?kF ?kK ?k6 ?k7 ?k8 ?k9 ?kB ?_ ?c2 ?c3 ?c4 ?c5); walk_at "my enter")
    walk_at "my steps")
  all_goals (first | (exfalso; omega) | (walk_at "my end"; all_goals (first | rfl | (simp [cmpA, cmpB, and_comm, *]; done) | (simp_all [cmpA, cmpB, and_comm]; done))))

noncomputable def obA (c : Int) : Int := Builtin.bitAnd c 1
noncomputable def obB (c : Int) : Int := c.fdiv (2 ^ (1 : Int).toNat)
noncomputable def ntA (x a b : Int) : Int := Builtin.bitOr (Builtin.bitXor a (maskF x)) b
noncomputable def anA (a b c d : Int) : Int := Builtin.bitAnd (Builtin.bitOr a b) (Builtin.bitOr c d)
noncomputable def anB (a b c d : Int) : Int := Builtin.bitAnd (anA a b c d) (Builtin.bitOr b d)
noncomputable def orA (a b c d : Int) : Int := Builtin.bitOr (Builtin.bitOr a b) (Builtin.bitOr c d)
noncomputable def orB (x a b c d : Int) : Int := Builtin.bitXor (orA a b c d) (Builtin.bitOr (Builtin.bitAnd (Builtin.bitOr a b) (Builtin.bitXor b (maskF x))) (Builtin.bitAnd (Builtin.bitOr c d) (Builtin.bitXor d (maskF x))))
noncomputable def xoB (b d : Int) : Int := Builtin.bitOr b d
noncomputable def xoA (a b c d : Int) : Int := Builtin.bitOr (Builtin.bitXor a c) (xoB b d)
noncomputable def raF (x a b : Int) : Int := if Builtin.bitOr a b ≠ maskF x then 0 else if b = 0 then 1 else 3
noncomputable def parF (a : Int) : Int := Builtin.bitXor (Builtin.bitXor (Builtin.bitXor 0 (Builtin.bitAnd a 1)) (Builtin.bitAnd (a.fdiv 2) 1)) (Builtin.bitAnd (a.fdiv 4) 1)
noncomputable def rxF (a b : Int) : Int := if b ≠ 0 then 3 else parF a
noncomputable def eqF (x a b c d : Int) : Int := if Builtin.bitAnd (Builtin.bitXor a c) (Builtin.bitXor (Builtin.bitOr b d) (maskF x)) ≠ 0 then 0 else if Builtin.bitOr b d = 0 then 1 else 3
theorem one_bit_goes {w : World} {led : Led} {c : Int} {t : Tok} : Goes w 222 1 [Value.int c t] led (RetT led 1 (obA c) (obB c)) := by
  unfold Goes RetT
  intro prog p loose mean mg mb dp un gd cn cs a' ccd cl outer A₀ base h₀ L m s Q E B F X N T hk hdp hun hret
  k_dflt (refine' wpAny_call (code_def (binds := [(Str.ofString "c", Value.int c t)]) ?k1 ?k2 ?k3 ?k4 ?k5 ?kA ?kF ?kK ?k6 ?k7 ?k8 ?k9 ?kB ?_ ?c2 ?c3 ?c4 ?c5); walk_at "my enter")
  walk_at "my steps"
  all_goals (first | (exfalso; omega) | (walk_at "my end"; all_goals (first | rfl | (simp [obA, obB, *]; done) | (simp_all [obA, obB]; done))))
theorem bit_not_goes {w : World} {led : Led} {u : Addr} {x a b : Int} {t1 t2 t3 : Tok} (hu : (u, V3 x a b t1 t2 t3) ∈ led) (h1 : 1 ≤ x) (h3 : x ≤ 3) : Goes w 229 2 [Value.ref u] led (RetT led x (ntA x a b) b) := by
  unfold Goes RetT
  intro prog p loose mean mg mb dp un gd cn cs a' ccd cl outer A₀ base h₀ L m s Q E B F X N T hk hdp hun hret
  k_dflt (refine' wpAny_call (code_def (binds := [(Str.ofString "v", Value.ref u)]) ?k1 ?k2 ?k3 ?k4 ?k5 ?kA ?kF ?kK ?k6 ?k7 ?k8 ?k9 ?kB ?_ ?c2 ?c3 ?c4 ?c5); walk_at "my enter")
  walk_at "my steps"
  all_goals (first | (exfalso; omega) | (walk_at "my end"; all_goals (first | rfl | (simp [ntA, *]; done) | (simp_all [ntA]; done))))
theorem bit_and_goes {w : World} {led : Led} {u v : Addr} {x a b c d : Int} {t1 t2 t3 t4 t5 t6 : Tok} (hu : (u, V3 x a b t1 t2 t3) ∈ led) (hv : (v, V3 x c d t4 t5 t6) ∈ led) : Goes w 236 2 [Value.ref u, Value.ref v] led (RetT led x (anA a b c d) (anB a b c d)) := by
  unfold Goes RetT
  intro prog p loose mean mg mb dp un gd cn cs a' ccd cl outer A₀ base h₀ L m s Q E B F X N T hk hdp hun hret
  k_dflt (refine' wpAny_call (code_def (binds := [(Str.ofString "u", Value.ref u), (Str.ofString "v", Value.ref v)]) ?k1 ?k2 ?k3 ?k4 ?k5 ?kA ?kF ?kK ?k6 ?k7 ?k8 ?k9 ?kB ?_ ?c2 ?c3 ?c4 ?c5); walk_at "my enter")
  walk_at "my steps"
  all_goals (first | (exfalso; omega) | (walk_at "my end"; all_goals (first | rfl | (simp [anA, anB, *]; done) | (simp_all [anA, anB]; done))))
theorem bit_or_goes {w : World} {led : Led} {u v : Addr} {x a b c d : Int} {t1 t2 t3 t4 t5 t6 : Tok} (hu : (u, V3 x a b t1 t2 t3) ∈ led) (hv : (v, V3 x c d t4 t5 t6) ∈ led) (h1 : 1 ≤ x) (h3 : x ≤ 3) : Goes w 243 2 [Value.ref u, Value.ref v] led (RetT led x (orA a b c d) (orB x a b c d)) := by
  unfold Goes RetT
  intro prog p loose mean mg mb dp un gd cn cs a' ccd cl outer A₀ base h₀ L m s Q E B F X N T hk hdp hun hret
  k_dflt (refine' wpAny_call (code_def (binds := [(Str.ofString "u", Value.ref u), (Str.ofString "v", Value.ref v)]) ?k1 ?k2 ?k3 ?k4 ?k5 ?kA ?kF ?kK ?k6 ?k7 ?k8 ?k9 ?kB ?_ ?c2 ?c3 ?c4 ?c5); walk_at "my enter")
  walk_at "my steps"
  all_goals (first | (exfalso; omega) | (walk_at "my end"; all_goals (first | rfl | (simp [orA, orB, *]; done) | (simp_all [orA, orB]; done))))
theorem bit_xor_goes {w : World} {led : Led} {u v : Addr} {x a b c d : Int} {t1 t2 t3 t4 t5 t6 : Tok} (hu : (u, V3 x a b t1 t2 t3) ∈ led) (hv : (v, V3 x c d t4 t5 t6) ∈ led) : Goes w 250 1 [Value.ref u, Value.ref v] led (RetT led x (xoA a b c d) (xoB b d)) := by
  unfold Goes RetT
  intro prog p loose mean mg mb dp un gd cn cs a' ccd cl outer A₀ base h₀ L m s Q E B F X N T hk hdp hun hret
  k_dflt (refine' wpAny_call (code_def (binds := [(Str.ofString "u", Value.ref u), (Str.ofString "v", Value.ref v)]) ?k1 ?k2 ?k3 ?k4 ?k5 ?kA ?kF ?kK ?k6 ?k7 ?k8 ?k9 ?kB ?_ ?c2 ?c3 ?c4 ?c5); walk_at "my enter")
  walk_at "my steps"
  all_goals (first | (exfalso; omega) | (walk_at "my end"; all_goals (first | rfl | (simp [xoA, xoB, *]; done) | (simp_all [xoA, xoB]; done))))
theorem bit_xnor_goes {w : World} {led : Led} {u v : Addr} {x a b c d : Int} {t1 t2 t3 t4 t5 t6 : Tok} (hu : (u, V3 x a b t1 t2 t3) ∈ led) (hv : (v, V3 x c d t4 t5 t6) ∈ led) (h1 : 1 ≤ x) (h3 : x ≤ 3) : Goes w 257 3 [Value.ref u, Value.ref v] led (RetT led x (ntA x (xoA a b c d) (xoB b d)) (xoB b d)) := by
  unfold Goes RetT
  intro prog p loose mean mg mb dp un gd cn cs a' ccd cl outer A₀ base h₀ L m s Q E B F X N T hk hdp hun hret
  k_dflt (refine' wpAny_call (code_def (binds := [(Str.ofString "u", Value.ref u), (Str.ofString "v", Value.ref v)]) ?k1 ?k2 ?k3 ?k4 ?k5 ?kA ?kF ?kK ?k6 ?k7 ?k8 ?k9 ?kB ?_ ?c2 ?c3 ?c4 ?c5); walk_at "my enter")
  walk_at "my steps"
  all_goals (first | (exfalso; omega) | (walk_at "my end"; all_goals (first | rfl | (simp [xoA, xoB, *]; done) | (simp_all [xoA, xoB]; done))))
theorem reduce_and_goes {w : World} {led : Led} {u : Addr} {x a b : Int} {t1 t2 t3 : Tok} (hu : (u, V3 x a b t1 t2 t3) ∈ led) (h1 : 1 ≤ x) (h3 : x ≤ 3)  : Goes w 264 3 [Value.ref u] led (RetT led 1 (obA (raF x a b)) (obB (raF x a b))) := by
  unfold Goes RetT
  intro prog p loose mean mg mb dp un gd cn cs a' ccd cl outer A₀ base h₀ L m s Q E B F X N T hk hdp hun hret
  k_dflt (refine' wpAny_call (code_def (binds := [(Str.ofString "v", Value.ref u)]) ?k1 ?k2 ?k3 ?k4 ?k5 ?kA ?kF ?kK ?k6 ?k7 ?k8 ?k9 ?kB ?_ ?c2 ?c3 ?c4 ?c5); walk_at "my enter")
  walk_at "my steps"
  all_goals (first | (exfalso; omega) | (walk_at "my end"; all_goals (first | rfl | (simp [raF, rxF, eqF, *]; done) | (simp_all [raF, rxF, eqF]; done))))
theorem reduce_nand_goes {w : World} {led : Led} {u : Addr} {x a b : Int} {t1 t2 t3 : Tok} (hu : (u, V3 x a b t1 t2 t3) ∈ led) (h1 : 1 ≤ x) (h3 : x ≤ 3)  : Goes w 271 4 [Value.ref u] led (RetT led 1 (ntA 1 (obA (raF x a b)) (obB (raF x a b))) (obB (raF x a b))) := by
  unfold Goes RetT
  intro prog p loose mean mg mb dp un gd cn cs a' ccd cl outer A₀ base h₀ L m s Q E B F X N T hk hdp hun hret
  k_dflt (refine' wpAny_call (code_def (binds := [(Str.ofString "v", Value.ref u)]) ?k1 ?k2 ?k3 ?k4 ?k5 ?kA ?kF ?kK ?k6 ?k7 ?k8 ?k9 ?kB ?_ ?c2 ?c3 ?c4 ?c5); walk_at "my enter")
  walk_at "my steps"
  all_goals (first | (exfalso; omega) | (walk_at "my end"; all_goals (first | rfl | (simp [raF, rxF, eqF, *]; done) | (simp_all [raF, rxF, eqF]; done))))
theorem reduce_or_goes {w : World} {led : Led} {u : Addr} {x a b : Int} {t1 t2 t3 : Tok} (hu : (u, V3 x a b t1 t2 t3) ∈ led) (h1 : 1 ≤ x) (h3 : x ≤ 3)  : Goes w 278 3 [Value.ref u] led (RetT led 1 (obA (truthF x a b)) (obB (truthF x a b))) := by
  unfold Goes RetT
  intro prog p loose mean mg mb dp un gd cn cs a' ccd cl outer A₀ base h₀ L m s Q E B F X N T hk hdp hun hret
  k_dflt (refine' wpAny_call (code_def (binds := [(Str.ofString "v", Value.ref u)]) ?k1 ?k2 ?k3 ?k4 ?k5 ?kA ?kF ?kK ?k6 ?k7 ?k8 ?k9 ?kB ?_ ?c2 ?c3 ?c4 ?c5); walk_at "my enter")
  walk_at "my steps"
  all_goals (first | (exfalso; omega) | (walk_at "my end"; all_goals (first | rfl | (simp [raF, rxF, eqF, *]; done) | (simp_all [raF, rxF, eqF]; done))))
theorem reduce_nor_goes {w : World} {led : Led} {u : Addr} {x a b : Int} {t1 t2 t3 : Tok} (hu : (u, V3 x a b t1 t2 t3) ∈ led) (h1 : 1 ≤ x) (h3 : x ≤ 3)  : Goes w 285 4 [Value.ref u] led (RetT led 1 (ntA 1 (obA (truthF x a b)) (obB (truthF x a b))) (obB (truthF x a b))) := by
  unfold Goes RetT
  intro prog p loose mean mg mb dp un gd cn cs a' ccd cl outer A₀ base h₀ L m s Q E B F X N T hk hdp hun hret
  k_dflt (refine' wpAny_call (code_def (binds := [(Str.ofString "v", Value.ref u)]) ?k1 ?k2 ?k3 ?k4 ?k5 ?kA ?kF ?kK ?k6 ?k7 ?k8 ?k9 ?kB ?_ ?c2 ?c3 ?c4 ?c5); walk_at "my enter")
  walk_at "my steps"
  all_goals (first | (exfalso; omega) | (walk_at "my end"; all_goals (first | rfl | (simp [raF, rxF, eqF, *]; done) | (simp_all [raF, rxF, eqF]; done))))

theorem rx_ck : ∀ r ∈ ([0, 1, 2, 3, 4, 5, 6, 7] : List Int), ∀ p ∈ ([0, 1] : List Int), ([0, 1] : List Int).contains (Builtin.bitXor p (Builtin.bitAnd r 1)) = true ∧ Builtin.bitXor (Builtin.bitXor p (Builtin.bitAnd r 1)) (parF (r.fdiv (2 ^ (1 : Int).toNat))) = Builtin.bitXor p (parF r) ∧ 0 ≤ r.fdiv (2 ^ (1 : Int).toNat) ∧ r.fdiv (2 ^ (1 : Int).toNat) < 8 ∧ (0 < r → (r.fdiv (2 ^ (1 : Int).toNat)).toNat < r.toNat) ∧ Builtin.bitXor p (parF 0) = p ∧ Builtin.bitXor 0 (parF r) = parF r := by decide +kernel
theorem rx_step {r p : Int} (r0 : 0 ≤ r) (r8 : r < 8) (hp : p = 0 ∨ p = 1) : (Builtin.bitXor p (Builtin.bitAnd r 1) = 0 ∨ Builtin.bitXor p (Builtin.bitAnd r 1) = 1) ∧ Builtin.bitXor (Builtin.bitXor p (Builtin.bitAnd r 1)) (parF (r.fdiv (2 ^ (1 : Int).toNat))) = Builtin.bitXor p (parF r) ∧ 0 ≤ r.fdiv (2 ^ (1 : Int).toNat) ∧ r.fdiv (2 ^ (1 : Int).toNat) < 8 ∧ (0 < r → (r.fdiv (2 ^ (1 : Int).toNat)).toNat < r.toNat) ∧ Builtin.bitXor p (parF 0) = p ∧ Builtin.bitXor 0 (parF r) = parF r := by
  have k := rx_ck r (by rcases (by omega : r = 0 ∨ r = 1 ∨ r = 2 ∨ r = 3 ∨ r = 4 ∨ r = 5 ∨ r = 6 ∨ r = 7) with h | h | h | h | h | h | h | h <;> subst h <;> decide) p (by rcases hp with h | h <;> subst h <;> decide)
  exact ⟨by simpa using k.1, k.2⟩
noncomputable def Jx (led : Led) (a : Int) (n : Nat) (m : Str → Option Value) (news : Led) : Prop := news = led ∧ ∃ r p t t', m (Str.ofString "rest") = some (.int r t) ∧ m (Str.ofString "parity") = some (.int p t') ∧ r.toNat = n ∧ 0 ≤ r ∧ r < 8 ∧ (p = 0 ∨ p = 1) ∧ Builtin.bitXor p (parF r) = parF a
theorem rx_next {led all : Led} {a r p r' p' : Int} {h₀ h' : Heap} {L : Addr} {s : Shared} {m' : Str → Option Value} {tk' n : Nat} {t t' : Tok} (F : Fr h₀ L h' m') (N : News h₀ L h' all) (hs : ∀ x ∈ led, x ∈ all) (hn : r.toNat = n) (r0 : 0 ≤ r) (r8 : r < 8) (hp : p = 0 ∨ p = 1) (hx : Builtin.bitXor p (parF r) = parF a) (hg : 0 < r)
    (h1 : m' (Str.ofString "rest") = some (.int r' t)) (h2 : m' (Str.ofString "parity") = some (.int p' t')) (e1 : r' = r.fdiv (2 ^ (1 : Int).toNat)) (e2 : p' = Builtin.bitXor p (Builtin.bitAnd r 1)) : WhileStep h₀ L s (Jx led a) n .next { s with heap := h', toks := tk' } := by
  subst e1 e2 hn
  obtain ⟨k1, k2, k3, k4, k5, _⟩ := rx_step r0 r8 hp
  exact WhileStep.intro F (fun x hx => N x (hs x hx)) (k5 hg) ⟨rfl, _, _, t, t', h1, h2, rfl, k3, k4, k1, k2.trans hx⟩
theorem parF_0 {a p : Int} (hp : p = 0 ∨ p = 1) (hx : Builtin.bitXor p (parF 0) = parF a) : p = parF a := ((rx_step (r := 0) (by decide) (by decide) hp).2.2.2.2.2.1).symm.trans hx
theorem reduce_xor_goes {w : World} {led : Led} {u : Addr} {x a b : Int} {t1 t2 t3 : Tok} (hu : (u, V3 x a b t1 t2 t3) ∈ led) (h1 : 1 ≤ x) (h3 : x ≤ 3) (a0 : 0 ≤ a) (a8 : a < 8) : Goes w 292 2 [.ref u] led (RetT led 1 (obA (rxF a b)) (obB (rxF a b))) := by
  unfold Goes RetT
  intro prog p loose mean mg mb dp un gd cn cs a' ccd cl outer A₀ base h₀ L m s Q E B F X N T hk hdp hun hret
  rcases Decidable.em (b = 0) with hb | hb
  · k_dflt (refine' wpAny_call (code_def (binds := [(Str.ofString "v", Value.ref u)]) ?k1 ?k2 ?k3 ?k4 ?k5 ?kA ?kF ?kK ?k6 ?k7 ?k8 ?k9 ?kB ?_ ?c2 ?c3 ?c4 ?c5); walk_at "my enter")
    walk_at "my walk"
    refine' While_inv (Jx led a) (n₀ := a.toNat) ?F ?N ?hJ ?turn ?hE
    case F => k_asm
    case N => k_asm
    case hE => first | passes_own | (exact fun _ _ e => e)
    case hJ => exact ⟨rfl, a, 0, _, _, rfl, rfl, rfl, a0, a8, .inl rfl, (rx_step (p := 0) a0 a8 (.inl rfl)).2.2.2.2.2.2⟩
    case turn =>
      rintro n m₁ news₁ h₁ tk₁ F₁ N₁ ⟨rfl, r, p, t, t', j1, j2, j3, j4, j5, j6, j7⟩
      walk_at "my steps"
      · refine' ldn ?F ?v ?_ ?k ?l
        case F => assumption
        case v => exact j2
        case k => rfl
        case l => kernel_rfl!
        walk_at "my steps"
        refine' ldn ?F ?v ?_ ?k ?l
        case F => assumption
        case v => exact (if_neg (by decide)).trans j1
        case k => rfl
        case l => kernel_rfl!
        walk_at "my steps"
        all_goals exact rx_next (by assumption) (by assumption) (by walk_at "my sub") j3 j4 j5 j6 j7 (by assumption) (by exact rfl) (by exact rfl) (by exact rfl) (by exact rfl)
      · have hr : r = 0 := by omega
        subst hr
        have hp := parF_0 j6 j7
        all_goals (walk_at "my end"; all_goals (first | rfl | (simp [rxF, *]; done)))
  · k_dflt (refine' wpAny_call (code_def (binds := [(Str.ofString "v", Value.ref u)]) ?k1 ?k2 ?k3 ?k4 ?k5 ?kA ?kF ?kK ?k6 ?k7 ?k8 ?k9 ?kB ?_ ?c2 ?c3 ?c4 ?c5); walk_at "my enter")
    walk_at "my steps"
    all_goals (first | (exfalso; omega) | (walk_at "my end"; all_goals (first | rfl | (simp [rxF, *]; done))))
theorem reduce_xnor_goes {w : World} {led : Led} {u : Addr} {x a b : Int} {t1 t2 t3 : Tok} (hu : (u, V3 x a b t1 t2 t3) ∈ led) (h1 : 1 ≤ x) (h3 : x ≤ 3) (a0 : 0 ≤ a) (a8 : a < 8) : Goes w 299 3 [Value.ref u] led (RetT led 1 (ntA 1 (obA (rxF a b)) (obB (rxF a b))) (obB (rxF a b))) := by
  unfold Goes RetT
  intro prog p loose mean mg mb dp un gd cn cs a' ccd cl outer A₀ base h₀ L m s Q E B F X N T hk hdp hun hret
  k_dflt (refine' wpAny_call (code_def (binds := [(Str.ofString "v", Value.ref u)]) ?k1 ?k2 ?k3 ?k4 ?k5 ?kA ?kF ?kK ?k6 ?k7 ?k8 ?k9 ?kB ?_ ?c2 ?c3 ?c4 ?c5); walk_at "my enter")
  walk_at "my steps"
  all_goals (first | (exfalso; omega) | (walk_at "my end"; all_goals (first | rfl | (simp [raF, rxF, eqF, *]; done) | (simp_all [raF, rxF, eqF]; done))))
theorem logic_not_goes {w : World} {led : Led} {u : Addr} {x a b : Int} {t1 t2 t3 : Tok} (hu : (u, V3 x a b t1 t2 t3) ∈ led) (h1 : 1 ≤ x) (h3 : x ≤ 3)  : Goes w 306 3 [Value.ref u] led (RetT led 1 (ntA 1 (obA (truthF x a b)) (obB (truthF x a b))) (obB (truthF x a b))) := by
  unfold Goes RetT
  intro prog p loose mean mg mb dp un gd cn cs a' ccd cl outer A₀ base h₀ L m s Q E B F X N T hk hdp hun hret
  k_dflt (refine' wpAny_call (code_def (binds := [(Str.ofString "v", Value.ref u)]) ?k1 ?k2 ?k3 ?k4 ?k5 ?kA ?kF ?kK ?k6 ?k7 ?k8 ?k9 ?kB ?_ ?c2 ?c3 ?c4 ?c5); walk_at "my enter")
  walk_at "my steps"
  all_goals (first | (exfalso; omega) | (walk_at "my end"; all_goals (first | rfl | (simp [raF, rxF, eqF, *]; done) | (simp_all [raF, rxF, eqF]; done))))
theorem logic_and_goes {w : World} {led : Led} {u v : Addr} {x a b c d : Int} {t1 t2 t3 t4 t5 t6 : Tok} (hu : (u, V3 x a b t1 t2 t3) ∈ led) (hv : (v, V3 x c d t4 t5 t6) ∈ led) (h1 : 1 ≤ x) (h3 : x ≤ 3) : Goes w 313 3 [Value.ref u, Value.ref v] led (RetT led 1 (anA (obA (truthF x a b)) (obB (truthF x a b)) (obA (truthF x c d)) (obB (truthF x c d))) (anB (obA (truthF x a b)) (obB (truthF x a b)) (obA (truthF x c d)) (obB (truthF x c d)))) := by
  unfold Goes RetT
  intro prog p loose mean mg mb dp un gd cn cs a' ccd cl outer A₀ base h₀ L m s Q E B F X N T hk hdp hun hret
  k_dflt (refine' wpAny_call (code_def (binds := [(Str.ofString "u", Value.ref u), (Str.ofString "v", Value.ref v)]) ?k1 ?k2 ?k3 ?k4 ?k5 ?kA ?kF ?kK ?k6 ?k7 ?k8 ?k9 ?kB ?_ ?c2 ?c3 ?c4 ?c5); walk_at "my enter")
  walk_at "my steps"
  all_goals (first | (exfalso; omega) | (walk_at "my end"; all_goals (first | rfl | (simp [anA, *]; done) | (simp_all [anA]; done))))
theorem logic_or_goes {w : World} {led : Led} {u v : Addr} {x a b c d : Int} {t1 t2 t3 t4 t5 t6 : Tok} (hu : (u, V3 x a b t1 t2 t3) ∈ led) (hv : (v, V3 x c d t4 t5 t6) ∈ led) (h1 : 1 ≤ x) (h3 : x ≤ 3) : Goes w 320 3 [Value.ref u, Value.ref v] led (RetT led 1 (orA (obA (truthF x a b)) (obB (truthF x a b)) (obA (truthF x c d)) (obB (truthF x c d))) (orB 1 (obA (truthF x a b)) (obB (truthF x a b)) (obA (truthF x c d)) (obB (truthF x c d)))) := by
  unfold Goes RetT
  intro prog p loose mean mg mb dp un gd cn cs a' ccd cl outer A₀ base h₀ L m s Q E B F X N T hk hdp hun hret
  k_dflt (refine' wpAny_call (code_def (binds := [(Str.ofString "u", Value.ref u), (Str.ofString "v", Value.ref v)]) ?k1 ?k2 ?k3 ?k4 ?k5 ?kA ?kF ?kK ?k6 ?k7 ?k8 ?k9 ?kB ?_ ?c2 ?c3 ?c4 ?c5); walk_at "my enter")
  walk_at "my steps"
  all_goals (first | (exfalso; omega) | (walk_at "my end"; all_goals (first | rfl | (simp [orA, *]; done) | (simp_all [orA]; done))))
theorem equal_goes {w : World} {led : Led} {u v : Addr} {x a b c d : Int} {t1 t2 t3 t4 t5 t6 : Tok} (hu : (u, V3 x a b t1 t2 t3) ∈ led) (hv : (v, V3 x c d t4 t5 t6) ∈ led) (h1 : 1 ≤ x) (h3 : x ≤ 3) : Goes w 327 2 [Value.ref u, Value.ref v] led (RetT led 1 (obA (eqF x a b c d)) (obB (eqF x a b c d))) := by
  unfold Goes RetT
  intro prog p loose mean mg mb dp un gd cn cs a' ccd cl outer A₀ base h₀ L m s Q E B F X N T hk hdp hun hret
  k_dflt (refine' wpAny_call (code_def (binds := [(Str.ofString "u", Value.ref u), (Str.ofString "v", Value.ref v)]) ?k1 ?k2 ?k3 ?k4 ?k5 ?kA ?kF ?kK ?k6 ?k7 ?k8 ?k9 ?kB ?_ ?c2 ?c3 ?c4 ?c5); walk_at "my enter")
  walk_at "my steps"
  all_goals (first | (exfalso; omega) | (walk_at "my end"; all_goals (first | rfl | (simp [eqF, *]; done) | (simp_all [eqF]; done))))
theorem not_equal_goes {w : World} {led : Led} {u v : Addr} {x a b c d : Int} {t1 t2 t3 t4 t5 t6 : Tok} (hu : (u, V3 x a b t1 t2 t3) ∈ led) (hv : (v, V3 x c d t4 t5 t6) ∈ led) (h1 : 1 ≤ x) (h3 : x ≤ 3) : Goes w 334 3 [Value.ref u, Value.ref v] led (RetT led 1 (ntA 1 (obA (eqF x a b c d)) (obB (eqF x a b c d))) (obB (eqF x a b c d))) := by
  unfold Goes RetT
  intro prog p loose mean mg mb dp un gd cn cs a' ccd cl outer A₀ base h₀ L m s Q E B F X N T hk hdp hun hret
  k_dflt (refine' wpAny_call (code_def (binds := [(Str.ofString "u", Value.ref u), (Str.ofString "v", Value.ref v)]) ?k1 ?k2 ?k3 ?k4 ?k5 ?kA ?kF ?kK ?k6 ?k7 ?k8 ?k9 ?kB ?_ ?c2 ?c3 ?c4 ?c5); walk_at "my enter")
  walk_at "my steps"
  all_goals (first | (exfalso; omega) | (walk_at "my end"; all_goals (first | rfl | (simp [eqF, *]; done) | (simp_all [eqF]; done))))

noncomputable def unOps : List Str := [Str.ofString "~", Str.ofString "-", Str.ofString "!", Str.ofString "&", Str.ofString "~&", Str.ofString "|", Str.ofString "~|", Str.ofString "^", Str.ofString "~^"]
noncomputable def arOps : List Str := [Str.ofString "+", Str.ofString "-", Str.ofString "*", Str.ofString "/", Str.ofString "%", Str.ofString "<<", Str.ofString "<<<", Str.ofString ">>", Str.ofString ">>>"]
noncomputable def cmOps : List Str := [Str.ofString "<", Str.ofString "<=", Str.ofString ">", Str.ofString ">=", Str.ofString "==", Str.ofString "!="]
noncomputable def biOps : List Str := [Str.ofString "&", Str.ofString "|", Str.ofString "^", Str.ofString "~^", Str.ofString "&&", Str.ofString "||"]
noncomputable def pairOps : List Str := [Str.ofString "|", Str.ofString "+", Str.ofString "-", Str.ofString "*", Str.ofString "/", Str.ofString "%", Str.ofString "<<", Str.ofString "<<<", Str.ofString ">>", Str.ofString ">>>", Str.ofString "<", Str.ofString "<=", Str.ofString ">", Str.ofString ">=", Str.ofString "==", Str.ofString "!=", Str.ofString "&", Str.ofString "^", Str.ofString "~^", Str.ofString "&&", Str.ofString "||"]
theorem un_no {op : Str} (h : op ∈ unOps) (h0 : (op == Str.ofString "~") = false) (h1 : (op == Str.ofString "-") = false) (h2 : (op == Str.ofString "!") = false) (h3 : (op == Str.ofString "&") = false) (h4 : (op == Str.ofString "~&") = false) (h5 : (op == Str.ofString "|") = false) (h6 : (op == Str.ofString "~|") = false) (h7 : (op == Str.ofString "^") = false) (h8 : (op == Str.ofString "~^") = false) : False := by
  have k : (unOps.all fun o => o == Str.ofString "~" || o == Str.ofString "-" || o == Str.ofString "!" || o == Str.ofString "&" || o == Str.ofString "~&" || o == Str.ofString "|" || o == Str.ofString "~|" || o == Str.ofString "^" || o == Str.ofString "~^") = true := by decide +kernel
  have := List.all_eq_true.mp k op h
  simp [h0, h1, h2, h3, h4, h5, h6, h7, h8] at this
theorem ar_no {op : Str} (h : op ∈ arOps) (h0 : (op == Str.ofString "+") = false) (h1 : (op == Str.ofString "-") = false) (h2 : (op == Str.ofString "*") = false) (h3 : (op == Str.ofString "/") = false) (h4 : (op == Str.ofString "%") = false) (h5 : (op == Str.ofString "<<") = false) (h6 : (op == Str.ofString "<<<") = false) (h7 : (op == Str.ofString ">>") = false) (h8 : (op == Str.ofString ">>>") = false) : False := by
  have k : (arOps.all fun o => o == Str.ofString "+" || o == Str.ofString "-" || o == Str.ofString "*" || o == Str.ofString "/" || o == Str.ofString "%" || o == Str.ofString "<<" || o == Str.ofString "<<<" || o == Str.ofString ">>" || o == Str.ofString ">>>") = true := by decide +kernel
  have := List.all_eq_true.mp k op h
  simp [h0, h1, h2, h3, h4, h5, h6, h7, h8] at this
theorem cm_no {op : Str} (h : op ∈ cmOps) (h0 : (op == Str.ofString "<") = false) (h1 : (op == Str.ofString "<=") = false) (h2 : (op == Str.ofString ">") = false) (h3 : (op == Str.ofString ">=") = false) (h4 : (op == Str.ofString "==") = false) (h5 : (op == Str.ofString "!=") = false) : False := by
  have k : (cmOps.all fun o => o == Str.ofString "<" || o == Str.ofString "<=" || o == Str.ofString ">" || o == Str.ofString ">=" || o == Str.ofString "==" || o == Str.ofString "!=") = true := by decide +kernel
  have := List.all_eq_true.mp k op h
  simp [h0, h1, h2, h3, h4, h5] at this
theorem bi_no {op : Str} (h : op ∈ biOps) (h0 : (op == Str.ofString "&") = false) (h1 : (op == Str.ofString "|") = false) (h2 : (op == Str.ofString "^") = false) (h3 : (op == Str.ofString "~^") = false) (h4 : (op == Str.ofString "&&") = false) (h5 : (op == Str.ofString "||") = false) : False := by
  have k : (biOps.all fun o => o == Str.ofString "&" || o == Str.ofString "|" || o == Str.ofString "^" || o == Str.ofString "~^" || o == Str.ofString "&&" || o == Str.ofString "||") = true := by decide +kernel
  have := List.all_eq_true.mp k op h
  simp [h0, h1, h2, h3, h4, h5] at this
theorem ar_out {op : Str} (h : ¬ op ∈ arOps) : (op == Str.ofString "+") = false ∧ (op == Str.ofString "-") = false ∧ (op == Str.ofString "*") = false ∧ (op == Str.ofString "/") = false ∧ (op == Str.ofString "%") = false ∧ (op == Str.ofString "<<") = false ∧ (op == Str.ofString "<<<") = false ∧ (op == Str.ofString ">>") = false ∧ (op == Str.ofString ">>>") = false := by
  refine ⟨?_, ?_, ?_, ?_, ?_, ?_, ?_, ?_, ?_⟩ <;> (rw [beq_eq_false_iff_ne]; rintro rfl; exact h (by decide +kernel))
theorem cm_out {op : Str} (h : ¬ op ∈ cmOps) : (op == Str.ofString "<") = false ∧ (op == Str.ofString "<=") = false ∧ (op == Str.ofString ">") = false ∧ (op == Str.ofString ">=") = false ∧ (op == Str.ofString "==") = false ∧ (op == Str.ofString "!=") = false := by
  refine ⟨?_, ?_, ?_, ?_, ?_, ?_⟩ <;> (rw [beq_eq_false_iff_ne]; rintro rfl; exact h (by decide +kernel))

noncomputable def unX (op : Str) (x : Int) : Int := if (op == Str.ofString "~") = true then x else if (op == Str.ofString "-") = true then x else 1
noncomputable def unA (op : Str) (x a b : Int) : Int := if (op == Str.ofString "~") = true then ntA x a b else if (op == Str.ofString "-") = true then arA x b 0 (0 - a) else if (op == Str.ofString "!") = true then ntA 1 (obA (truthF x a b)) (obB (truthF x a b)) else if (op == Str.ofString "&") = true then obA (raF x a b) else if (op == Str.ofString "~&") = true then ntA 1 (obA (raF x a b)) (obB (raF x a b)) else if (op == Str.ofString "|") = true then obA (truthF x a b) else if (op == Str.ofString "~|") = true then ntA 1 (obA (truthF x a b)) (obB (truthF x a b)) else if (op == Str.ofString "^") = true then obA (rxF a b) else ntA 1 (obA (rxF a b)) (obB (rxF a b))
noncomputable def unB (op : Str) (x a b : Int) : Int := if (op == Str.ofString "~") = true then b else if (op == Str.ofString "-") = true then arB x b 0 else if (op == Str.ofString "!") = true then obB (truthF x a b) else if (op == Str.ofString "&") = true then obB (raF x a b) else if (op == Str.ofString "~&") = true then obB (raF x a b) else if (op == Str.ofString "|") = true then obB (truthF x a b) else if (op == Str.ofString "~|") = true then obB (truthF x a b) else if (op == Str.ofString "^") = true then obB (rxF a b) else obB (rxF a b)
noncomputable def ariA (op : Str) (x a b c d : Int) (sg : Bool) : Int := if (op == Str.ofString "+") = true then arA x b d (a + c) else if (op == Str.ofString "-") = true then arA x b d (a - c) else if (op == Str.ofString "*") = true then arA x b d (a * c) else if (op == Str.ofString "/") = true then dvA x b d (toIntF x c sg) (quotF (toIntF x a sg) (toIntF x c sg)) else if (op == Str.ofString "%") = true then dvA x b d (toIntF x c sg) (toIntF x a sg - toIntF x c sg * quotF (toIntF x a sg) (toIntF x c sg)) else if (op == Str.ofString "<<") = true then slF x c d a else if (op == Str.ofString "<<<") = true then slF x c d a else if (op == Str.ofString ">>") = true then srF x c d a else saF x a b c d a 1 sg
noncomputable def ariB (op : Str) (x a b c d : Int) (sg : Bool) : Int := if (op == Str.ofString "+") = true then arB x b d else if (op == Str.ofString "-") = true then arB x b d else if (op == Str.ofString "*") = true then arB x b d else if (op == Str.ofString "/") = true then dvB x b d (toIntF x c sg) else if (op == Str.ofString "%") = true then dvB x b d (toIntF x c sg) else if (op == Str.ofString "<<") = true then slF x c d b else if (op == Str.ofString "<<<") = true then slF x c d b else if (op == Str.ofString ">>") = true then srF x c d b else saF x a b c d b 2 sg
noncomputable def cmrA (op : Str) (x a b c d : Int) (sg : Bool) : Int := if (op == Str.ofString "<") = true then cmpA b d (if ordF (toIntF x a sg) (toIntF x c sg) < 0 then 1 else 0) else if (op == Str.ofString "<=") = true then cmpA b d (if ordF (toIntF x a sg) (toIntF x c sg) ≤ 0 then 1 else 0) else if (op == Str.ofString ">") = true then cmpA b d (if ordF (toIntF x c sg) (toIntF x a sg) < 0 then 1 else 0) else if (op == Str.ofString ">=") = true then cmpA b d (if ordF (toIntF x c sg) (toIntF x a sg) ≤ 0 then 1 else 0) else if (op == Str.ofString "==") = true then obA (eqF x a b c d) else ntA 1 (obA (eqF x a b c d)) (obB (eqF x a b c d))
noncomputable def cmrB (op : Str) (x a b c d : Int) (sg : Bool) : Int := if (op == Str.ofString "<") = true then cmpB b d else if (op == Str.ofString "<=") = true then cmpB b d else if (op == Str.ofString ">") = true then cmpB b d else if (op == Str.ofString ">=") = true then cmpB b d else if (op == Str.ofString "==") = true then obB (eqF x a b c d) else obB (eqF x a b c d)
noncomputable def bitA (op : Str) (x a b c d : Int) (sg : Bool) : Int := if (op == Str.ofString "&") = true then anA a b c d else if (op == Str.ofString "|") = true then orA a b c d else if (op == Str.ofString "^") = true then xoA a b c d else if (op == Str.ofString "~^") = true then ntA x (xoA a b c d) (xoB b d) else if (op == Str.ofString "&&") = true then anA (obA (truthF x a b)) (obB (truthF x a b)) (obA (truthF x c d)) (obB (truthF x c d)) else orA (obA (truthF x a b)) (obB (truthF x a b)) (obA (truthF x c d)) (obB (truthF x c d))
noncomputable def bitB (op : Str) (x a b c d : Int) (sg : Bool) : Int := if (op == Str.ofString "&") = true then anB a b c d else if (op == Str.ofString "|") = true then orB x a b c d else if (op == Str.ofString "^") = true then xoB b d else if (op == Str.ofString "~^") = true then xoB b d else if (op == Str.ofString "&&") = true then anB (obA (truthF x a b)) (obB (truthF x a b)) (obA (truthF x c d)) (obB (truthF x c d)) else orB 1 (obA (truthF x a b)) (obB (truthF x a b)) (obA (truthF x c d)) (obB (truthF x c d))

noncomputable def bitX (op : Str) (x : Int) : Int := if (op == Str.ofString "&") = true then x else if (op == Str.ofString "|") = true then x else if (op == Str.ofString "^") = true then x else if (op == Str.ofString "~^") = true then x else if (op == Str.ofString "&&") = true then 1 else 1
noncomputable def binX (op : Str) (x : Int) : Int := if op ∈ arOps then x else if op ∈ cmOps then 1 else bitX op x
noncomputable def binA (op : Str) (x a b c d : Int) (sg : Bool) : Int := if op ∈ arOps then ariA op x a b c d sg else if op ∈ cmOps then cmrA op x a b c d sg else bitA op x a b c d sg
noncomputable def binB (op : Str) (x a b c d : Int) (sg : Bool) : Int := if op ∈ arOps then ariB op x a b c d sg else if op ∈ cmOps then cmrB op x a b c d sg else bitB op x a b c d sg
theorem pair_split {op : Str} (h : op ∈ pairOps) : op ∈ arOps ∨ (¬ op ∈ arOps ∧ op ∈ cmOps) ∨ (¬ op ∈ arOps ∧ ¬ op ∈ cmOps ∧ op ∈ biOps) := by
  have k : (pairOps.all fun o => decide (o ∈ arOps ∨ (¬ o ∈ arOps ∧ o ∈ cmOps) ∨ (¬ o ∈ arOps ∧ ¬ o ∈ cmOps ∧ o ∈ biOps))) = true := by decide +kernel
  exact of_decide_eq_true (List.all_eq_true.mp k op h)
theorem unary_goes {w : World} {led : Led} {op : Str} {t : Tok} {u : Addr} {x a b : Int} {t1 t2 t3 : Tok} (hu : (u, V3 x a b t1 t2 t3) ∈ led) (h1 : 1 ≤ x) (h3 : x ≤ 3) (a0 : 0 ≤ a) (a8 : a < 8) (hop : op ∈ unOps) : Goes w 355 5 [Value.str op t, Value.ref u] led (RetT led (unX op x) (unA op x a b) (unB op x a b)) := by
  unfold Goes RetT
  intro prog p loose mean mg mb dp un gd cn cs a' ccd cl outer A₀ base h₀ L m s Q E B F X N T hk hdp hun hret
  k_dflt (refine' wpAny_call (code_def (binds := [(Str.ofString "op", Value.str op t), (Str.ofString "u", Value.ref u)]) ?k1 ?k2 ?k3 ?k4 ?k5 ?kA ?kF ?kK ?k6 ?k7 ?k8 ?k9 ?kB ?_ ?c2 ?c3 ?c4 ?c5); walk_at "my enter")
  walk_at "my steps"
  all_goals (first | exact False.elim (un_no (by assumption) (by assumption) (by assumption) (by assumption) (by assumption) (by assumption) (by assumption) (by assumption) (by assumption) (by assumption)) | (walk_at "my end"; all_goals (first | rfl | (simp [unX, unA, unB, *]; done))))
theorem arithmetic_some {w : World} {led : Led} {op : Str} {t : Tok} {sg : Bool} {u v : Addr} {x a b c d : Int} {t1 t2 t3 t4 t5 t6 : Tok} (hu : (u, V3 x a b t1 t2 t3) ∈ led) (hv : (v, V3 x c d t4 t5 t6) ∈ led) (h1 : 1 ≤ x) (h3 : x ≤ 3) (a0 : 0 ≤ a) (a8 : a < 8) (b0 : 0 ≤ b) (b8 : b < 8) (c0 : 0 ≤ c) (c8 : c < 8) (d0 : 0 ≤ d) (d8 : d < 8) (hop : op ∈ arOps) : Goes w 362 5 [Value.str op t, Value.ref u, Value.ref v, Value.bool sg] led (RetT led x (ariA op x a b c d sg) (ariB op x a b c d sg)) := by
  unfold Goes RetT
  intro prog p loose mean mg mb dp un gd cn cs a' ccd cl outer A₀ base h₀ L m s Q E B F X N T hk hdp hun hret
  k_dflt (refine' wpAny_call (code_def (binds := [(Str.ofString "op", Value.str op t), (Str.ofString "u", Value.ref u), (Str.ofString "v", Value.ref v), (Str.ofString "signed", Value.bool sg)]) ?k1 ?k2 ?k3 ?k4 ?k5 ?kA ?kF ?kK ?k6 ?k7 ?k8 ?k9 ?kB ?_ ?c2 ?c3 ?c4 ?c5); walk_at "my enter")
  walk_at "my steps"
  all_goals (first | exact False.elim (ar_no (by assumption) (by assumption) (by assumption) (by assumption) (by assumption) (by assumption) (by assumption) (by assumption) (by assumption) (by assumption)) | (walk_at "my end"; all_goals (first | rfl | (simp [ariA, ariB, *]; done))))
theorem arithmetic_none {w : World} {led : Led} {op : Str} {t : Tok} {sg : Bool} {u v : Addr} {x a b c d : Int} {t1 t2 t3 t4 t5 t6 : Tok} (hu : (u, V3 x a b t1 t2 t3) ∈ led) (hv : (v, V3 x c d t4 t5 t6) ∈ led) (hoar : ¬ op ∈ arOps) : Goes w 362 5 [Value.str op t, Value.ref u, Value.ref v, Value.bool sg] led (RetV led (fun _ => .none)) := by
  unfold Goes RetV
  intro prog p loose mean mg mb dp un gd cn cs a' ccd cl outer A₀ base h₀ L m s Q E B F X N T hk hdp hun hret
  obtain ⟨oar0, oar1, oar2, oar3, oar4, oar5, oar6, oar7, oar8⟩ := ar_out hoar
  k_dflt (refine' wpAny_call (code_def (binds := [(Str.ofString "op", Value.str op t), (Str.ofString "u", Value.ref u), (Str.ofString "v", Value.ref v), (Str.ofString "signed", Value.bool sg)]) ?k1 ?k2 ?k3 ?k4 ?k5 ?kA ?kF ?kK ?k6 ?k7 ?k8 ?k9 ?kB ?_ ?c2 ?c3 ?c4 ?c5); walk_at "my enter")
  walk_at "my steps"
  all_goals (first | (walk_at "my end"; all_goals (first | rfl | (simp [ariA, *]; done))))
theorem comparison_some {w : World} {led : Led} {op : Str} {t : Tok} {sg : Bool} {u v : Addr} {x a b c d : Int} {t1 t2 t3 t4 t5 t6 : Tok} (hu : (u, V3 x a b t1 t2 t3) ∈ led) (hv : (v, V3 x c d t4 t5 t6) ∈ led) (h1 : 1 ≤ x) (h3 : x ≤ 3) (a0 : 0 ≤ a) (a8 : a < 8) (b0 : 0 ≤ b) (b8 : b < 8) (c0 : 0 ≤ c) (c8 : c < 8) (d0 : 0 ≤ d) (d8 : d < 8) (hop : op ∈ cmOps) : Goes w 369 5 [Value.str op t, Value.ref u, Value.ref v, Value.bool sg] led (RetT led 1 (cmrA op x a b c d sg) (cmrB op x a b c d sg)) := by
  unfold Goes RetT
  intro prog p loose mean mg mb dp un gd cn cs a' ccd cl outer A₀ base h₀ L m s Q E B F X N T hk hdp hun hret
  k_dflt (refine' wpAny_call (code_def (binds := [(Str.ofString "op", Value.str op t), (Str.ofString "u", Value.ref u), (Str.ofString "v", Value.ref v), (Str.ofString "signed", Value.bool sg)]) ?k1 ?k2 ?k3 ?k4 ?k5 ?kA ?kF ?kK ?k6 ?k7 ?k8 ?k9 ?kB ?_ ?c2 ?c3 ?c4 ?c5); walk_at "my enter")
  walk_at "my steps"
  all_goals (first | exact False.elim (cm_no (by assumption) (by assumption) (by assumption) (by assumption) (by assumption) (by assumption) (by assumption)) | (walk_at "my end"; all_goals (first | rfl | (simp [cmrA, cmrB, *]; done))))
theorem bi_cm {op : Str} (h : op ∈ biOps) : (op == Str.ofString "<") = false ∧ (op == Str.ofString "<=") = false ∧ (op == Str.ofString ">") = false ∧ (op == Str.ofString ">=") = false ∧ (op == Str.ofString "==") = false ∧ (op == Str.ofString "!=") = false ∧ (op == Str.ofString "===") = false ∧ (op == Str.ofString "!==") = false := by
  have k : (biOps.all fun o => !(o == Str.ofString "<") && !(o == Str.ofString "<=") && !(o == Str.ofString ">") && !(o == Str.ofString ">=") && !(o == Str.ofString "==") && !(o == Str.ofString "!=") && !(o == Str.ofString "===") && !(o == Str.ofString "!==")) = true := by decide +kernel
  have := List.all_eq_true.mp k op h
  simp only [Bool.and_eq_true, Bool.not_eq_true'] at this
  obtain ⟨⟨⟨⟨⟨⟨⟨h1, h2⟩, h3⟩, h4⟩, h5⟩, h6⟩, h7⟩, h8⟩ := this
  exact ⟨h1, h2, h3, h4, h5, h6, h7, h8⟩
theorem comparison_none {w : World} {led : Led} {op : Str} {t : Tok} {sg : Bool} {u v : Addr} {x a b c d : Int} {t1 t2 t3 t4 t5 t6 : Tok} (hu : (u, V3 x a b t1 t2 t3) ∈ led) (hv : (v, V3 x c d t4 t5 t6) ∈ led) (hop : op ∈ biOps) : Goes w 369 5 [Value.str op t, Value.ref u, Value.ref v, Value.bool sg] led (RetV led (fun _ => .none)) := by
  unfold Goes RetV
  intro prog p loose mean mg mb dp un gd cn cs a' ccd cl outer A₀ base h₀ L m s Q E B F X N T hk hdp hun hret
  obtain ⟨o1, o2, o3, o4, o5, o6, o7, o8⟩ := bi_cm hop
  k_dflt (refine' wpAny_call (code_def (binds := [(Str.ofString "op", Value.str op t), (Str.ofString "u", Value.ref u), (Str.ofString "v", Value.ref v), (Str.ofString "signed", Value.bool sg)]) ?k1 ?k2 ?k3 ?k4 ?k5 ?kA ?kF ?kK ?k6 ?k7 ?k8 ?k9 ?kB ?_ ?c2 ?c3 ?c4 ?c5); walk_at "my enter")
  walk_at "my steps"
  all_goals (first | (walk_at "my end"; all_goals (first | rfl | (simp [cmrA, *]; done))))
theorem bitwise_goes {w : World} {led : Led} {op : Str} {t : Tok} {u v : Addr} {x a b c d : Int} {t1 t2 t3 t4 t5 t6 : Tok} (hu : (u, V3 x a b t1 t2 t3) ∈ led) (hv : (v, V3 x c d t4 t5 t6) ∈ led) (h1 : 1 ≤ x) (h3 : x ≤ 3) (hop : op ∈ biOps) : Goes w 376 4 [Value.str op t, Value.ref u, Value.ref v] led (RetT led (bitX op x) (bitA op x a b c d false) (bitB op x a b c d false)) := by
  unfold Goes RetT
  intro prog p loose mean mg mb dp un gd cn cs a' ccd cl outer A₀ base h₀ L m s Q E B F X N T hk hdp hun hret
  k_dflt (refine' wpAny_call (code_def (binds := [(Str.ofString "op", Value.str op t), (Str.ofString "u", Value.ref u), (Str.ofString "v", Value.ref v)]) ?k1 ?k2 ?k3 ?k4 ?k5 ?kA ?kF ?kK ?k6 ?k7 ?k8 ?k9 ?kB ?_ ?c2 ?c3 ?c4 ?c5); walk_at "my enter")
  walk_at "my steps"
  all_goals (first | exact False.elim (bi_no (by assumption) (by assumption) (by assumption) (by assumption) (by assumption) (by assumption) (by assumption)) | (walk_at "my end"; all_goals (first | rfl | (simp [bitA, bitB, bitX, *]; done))))
theorem bitA_sg (op : Str) (x a b c d : Int) (sg : Bool) : bitA op x a b c d sg = bitA op x a b c d false := rfl
theorem bitB_sg (op : Str) (x a b c d : Int) (sg : Bool) : bitB op x a b c d sg = bitB op x a b c d false := rfl
theorem binary_goes {w : World} {led : Led} {op : Str} {t : Tok} {sg : Bool} {u v : Addr} {x a b c d : Int} {t1 t2 t3 t4 t5 t6 : Tok} (hu : (u, V3 x a b t1 t2 t3) ∈ led) (hv : (v, V3 x c d t4 t5 t6) ∈ led) (h1 : 1 ≤ x) (h3 : x ≤ 3) (a0 : 0 ≤ a) (a8 : a < 8) (b0 : 0 ≤ b) (b8 : b < 8) (c0 : 0 ≤ c) (c8 : c < 8) (d0 : 0 ≤ d) (d8 : d < 8) (hop : op ∈ pairOps) : Goes w 383 6 [Value.str op t, Value.ref u, Value.ref v, Value.bool sg] led (RetT led (binX op x) (binA op x a b c d sg) (binB op x a b c d sg)) := by
  unfold Goes RetT
  intro prog p loose mean mg mb dp un gd cn cs a' ccd cl outer A₀ base h₀ L m s Q E B F X N T hk hdp hun hret
  rcases pair_split hop with h1o | ⟨h1o, h2o⟩ | ⟨h1o, h2o, h3o⟩
  all_goals (
    k_dflt (refine' wpAny_call (code_def (binds := [(Str.ofString "op", Value.str op t), (Str.ofString "u", Value.ref u), (Str.ofString "v", Value.ref v), (Str.ofString "signed", Value.bool sg)]) ?k1 ?k2 ?k3 ?k4 ?k5 ?kA ?kF ?kK ?k6 ?k7 ?k8 ?k9 ?kB ?_ ?c2 ?c3 ?c4 ?c5); walk_at "my enter")
    walk_at "my steps")
  all_goals (first | (exfalso; omega) | (walk_at "my end"; all_goals (first | rfl | (simp [binX, binA, binB, bitA_sg op x a b c d sg, bitB_sg op x a b c d sg, *]; done) | (simp_all [binX, binA, binB, bitA_sg op x a b c d sg, bitB_sg op x a b c d sg]; done))))

theorem units_64 {un : Nat} (h : un + 8 * 10 < cLine) : (un + 3) + 64 < cLine := by omega
theorem eq_nil {prog : Program} {w : World} {A : Around} {E : Value → Shared → Prop} {s : Shared} {h₀ : Heap} {L : Addr} {news : List (Addr × Obj)} {ra rb : Addr} {vs : List Value} {ns : List Int} {n k : Nat} {Q : Value → Shared → Prop}
    (N : News h₀ L s.heap news) (ha : (ra, W.listOf vs.toArray n) ∈ news) (hi : IntsAre vs ns) (hb : (rb, W.listOf #[] k) ∈ news) (hu : A.units + 64 < cLine) (h : Q (.bool (decide (ns = []))) s) :
    wpAny (model prog w) A (compareOp .Eq (.ref ra) (.ref rb)) Q E s :=
  eq_intsK (us := []) (News.isList N ha) hi (News.isList N hb) .nil hu h
theorem len_ints_led {prog : Program} {w : World} {A : Around} {E : Value → Shared → Prop} {s : Shared} {h₀ : Heap} {L : Addr} {news : List (Addr × Obj)} {l : Addr} {vs : List Value} {ns : List Int} {n : Nat} {Q : Value → Shared → Prop}
    (N : News h₀ L s.heap news) (ha : (l, W.listOf vs.toArray n) ∈ news) (hi : IntsAre vs ns) (hf : (ns.length : Int) < 2 ^ 63) (h : Q (.int ns.length (s.toks + 1)) { s with toks := s.toks + 1 + 1 }) :
    wpAny (model prog w) A (call (.builtin "len") [.ref l]) Q E s := by
  have e : vs.toArray.size = ns.length := by simp [hi.length]
  exact len_list (News.isList N ha) (by rw [e]; exact hf) (by rw [e]; exact h)
theorem item_led {prog : Program} {w : World} {A : Around} {E : Value → Shared → Prop} {s : Shared} {h₀ : Heap} {L : Addr} {news : List (Addr × Obj)} {value slice : PySem.Expr} {l : Addr} {vs : List Value} {ns : List Int} {n : Nat} {k : Int} {u : Tok} {Q : Value → Shared → Prop}
    (N : News h₀ L s.heap news) (ha : (l, W.listOf vs.toArray n) ∈ news) (hi : IntsAre vs ns) (h0 : 0 ≤ k) (h1 : k < ns.length) (hfit : k < 2 ^ 63)
    (hs : subscripted slice false (.ref l) (.int k u) = operate [.ref l, .int k u] (getItem (.ref l) (.int k u))) (h : ∀ t, Q (.int (ns.getD k.toNat 0) t) s) :
    wpAny (model prog w) A (subscriptTail value slice (.ref l) (.int k u)) Q E s := item_anyK (News.isList N ha) hi h0 h1 hfit h hs
theorem item_lit {prog : Program} {w : World} {A : Around} {E : Value → Shared → Prop} {s : Shared} {h₀ : Heap} {L : Addr} {news : List (Addr × Obj)} {value slice : PySem.Expr} {l : Addr} {vs : List Value} {v : Value} {n j : Nat} {k : Int} {u : Tok} {Q : Value → Shared → Prop}
    (N : News h₀ L s.heap news) (ha : (l, W.listOf vs.toArray n) ∈ news) (h0 : 0 ≤ k) (hfit : k < 2 ^ 63) (hj : k.toNat = j) (hx : vs[j]? = some v)
    (hs : subscripted slice false (.ref l) (.int k u) = operate [.ref l, .int k u] (getItem (.ref l) (.int k u))) (h : Q v s) :
    wpAny (model prog w) A (subscriptTail value slice (.ref l) (.int k u)) Q E s :=
  have hL := News.isList N ha
  tail_any hL.typeIs slot_list_getitem.lookup (wpAny_getItem_list hL h0 hfit (by simpa [hj] using hx) h) hs
theorem p7_ne (n : Nat) : (7 : Int) ^ n ≠ 0 := Int.ne_of_gt (Int.pow_pos (by decide))
theorem p7_log {n : Nat} (h : n ≤ 200) : ((7 : Int) ^ n).natAbs.log2 < 9000 := by
  rw [Int.natAbs_pow]
  have h1 : (7 : Nat) ^ n ≤ 2 ^ (3 * n) := by rw [Nat.pow_mul]; exact Nat.pow_le_pow_left (by decide) n
  have h2 : (2 : Nat) ^ (3 * n) < 2 ^ 9000 := Nat.pow_lt_pow_right (by decide) (by omega)
  exact (Nat.log2_lt (Nat.ne_of_gt (Nat.pow_pos (by decide)))).mpr (Nat.lt_of_le_of_lt h1 h2)
theorem p2_ne (n : Nat) : (2 : Int) ^ n ≠ 0 := Int.ne_of_gt (Int.pow_pos (by decide))
theorem p2_log {n : Nat} (h : n ≤ 200) : ((2 : Int) ^ n).natAbs.log2 < 9000 := by
  rw [Int.natAbs_pow]
  have h2 : (2 : Nat) ^ n < 2 ^ 9000 := Nat.pow_lt_pow_right (by decide) (by omega)
  exact (Nat.log2_lt (Nat.ne_of_gt (Nat.pow_pos (by decide)))).mpr h2
theorem fd_hi {i : Int} {n : Nat} (h0 : 0 ≤ i) : i.fdiv n ≤ i := by
  rw [Int.fdiv_eq_ediv_of_nonneg _ (by omega)]
  exact Int.ediv_le_self _ h0
theorem fd_lo {i : Int} {n : Nat} (h0 : 0 ≤ i) : 0 ≤ i.fdiv n := by
  rw [Int.fdiv_eq_ediv_of_nonneg _ (by omega)]
  exact Int.ediv_nonneg h0 (by omega)
theorem fm_lo {i : Int} {n : Nat} (h0 : 0 ≤ i) : 0 ≤ i.fmod n := by
  rw [Int.fmod_eq_emod_of_nonneg _ (by omega)]
  by_cases h : n = 0
  · subst h; simpa using h0
  · exact Int.emod_nonneg _ (by omega)
theorem fm_hi {i : Int} {n : Nat} (h : 0 < n) : i.fmod n < n := by
  rw [Int.fmod_eq_emod_of_nonneg _ (by omega)]
  exact Int.emod_lt_of_pos _ (by omega)
theorem fk_lo {i k : Int} (h : 1 ≤ k) : 0 ≤ i.fmod k := by
  rw [Int.fmod_eq_emod_of_nonneg _ (by omega)]
  exact Int.emod_nonneg _ (by omega)
theorem fk_hi {i k : Int} (h : 1 ≤ k) : i.fmod k < k := by
  rw [Int.fmod_eq_emod_of_nonneg _ (by omega)]
  exact Int.emod_lt_of_pos _ (by omega)
theorem take_goes {w : World} {led : Led} {sa ra : Addr} {k i : Int} {t t' : Tok} {n q : Nat} {vs : List Value} {ns : List Int} (hra : (ra, listOf vs.toArray n) ∈ led) (hi : IntsAre vs ns) (hl : ns.length ≤ 40) (hne : ∀ p ∈ led, p.1 ≠ sa) (h0 : 0 ≤ i) (h9 : i < 200) (k0 : 1 ≤ k) (k9 : k < 30) :
   Goes w 390 10 [.ref sa, .int k t'] ((sa, listOf #[.ref ra, .int i t] q) :: led) (fun h₀ L m s Q => ∀ r t t' h' tk', 0 ≤ r → r < k → Fr h₀ L h' m → News h₀ L h' ((sa, listOf #[.ref ra, .int (i + 1) t'] q) :: led) → Q (.int r t) { s with heap := h', toks := tk' }) := by
  unfold Goes 
  intro prog p loose mean mg mb dp un gd cn cs a' ccd cl outer A₀ base h₀ L m s Q E B F X N T hk hdp hun hret
  have hd1 := fd_lo (n := ns.length) h0
  have hd2 := fd_hi (n := ns.length) h0
  have hd3 := fm_lo (n := ns.length) h0
  have hnn : ns = [] ∨ (0 < ns.length ∧ i.fmod ns.length < ns.length) := by
    cases ns with
    | nil => exact .inl rfl
    | cons a r => exact .inr ⟨Nat.zero_lt_succ _, fm_hi (Nat.zero_lt_succ _)⟩
  have hp7 := p7_ne (i.fdiv ns.length).toNat
  have hq7 := p7_log (n := (i.fdiv ns.length).toNat) (by omega)
  rcases hnn with hnn | ⟨hn1, hn2⟩
  all_goals (
  k_dflt (refine' wpAny_call (code_def (binds := [(Str.ofString "state", Value.ref sa), (Str.ofString "most", Value.int k t')]) ?k1 ?k2 ?k3 ?k4 ?k5 ?kA ?kF ?kK ?k6 ?k7 ?k8 ?k9 ?kB ?_ ?c2 ?c3 ?c4 ?c5); walk_at "my enter")
  walk_at "my steps")
  all_goals (first | (exfalso; subst_vars; simp at hn1; done) | contradiction | (refine hret _ _ _ _ _ ?_ ?_ (by assumption) (cb_drop (by assumption) (fun _ hp => List.Mem.tail _ hp)) <;> first | omega | exact fk_lo k0 | exact fk_hi k0))

noncomputable def loF : List Int → Int
  | [] => 0
  | d :: r => d.fmod 2 + 2 * loF r
noncomputable def hiF : List Int → Int
  | [] => 0
  | d :: r => d.fdiv 2 + 2 * hiF r

noncomputable def LoopFin (h₀ : Heap) (L : Addr) (s : Shared) (fixed : Led) (I : Addr) (J : (Str → Option Value) → Led → Prop) (s₂ : Shared) : Prop :=
  ∃ m' news' h' tk', s₂ = { s with heap := h', toks := tk' } ∧ Fr h₀ L h' m' ∧ News h₀ L h' (fixed ++ news') ∧ (∀ p ∈ news', p.1 ≠ I) ∧ J m' news'
noncomputable def LoopPost (h₀ : Heap) (L : Addr) (s : Shared) (fixed : Led) (I : Addr) (J : (Str → Option Value) → Led → Prop) (Q : Flow → Shared → Prop) (f : Flow) (s₂ : Shared) : Prop :=
  match f with
  | .ret v => Q (.ret v) s₂
  | .brk => Q .next s₂
  | _ => LoopFin h₀ L s fixed I J s₂
theorem loopNext {h₀ : Heap} {L : Addr} {s : Shared} {fixed : Led} {I : Addr} {J : (Str → Option Value) → Led → Prop} {Q : Flow → Shared → Prop} {m' : Str → Option Value} {news' all : Led} {h' : Heap} {tk' : Nat}
    (F : Fr h₀ L h' m') (N : News h₀ L h' all) (hs : ∀ p ∈ fixed ++ news', p ∈ all) (hne : ∀ p ∈ news', p.1 ≠ I) (hJ : J m' news') : LoopPost h₀ L s fixed I J Q .next { s with heap := h', toks := tk' } := ⟨m', news', h', tk', rfl, F, fun p hp => N p (hs p hp), hne, hJ⟩
/-- a loop over a range from nought by ones, by an invariant of any make -/
theorem rng_loop {prog : Program} {w : World} {A : Around} {E : Value → Shared → Prop} {s : Shared} {env : Env} {h₀ : Heap} {x : Str} {body : List Stmt} {Q : Flow → Shared → Prop} {r : Addr} {b : Int} {t₀ u₀ v₀ : Tok} {n : Nat} {m₀ : Str → Option Value} {news : Led}
    (J : Nat → (Str → Option Value) → Led → Prop)
    (hh : A.handled = none) (hr : IsRange s.heap r 0 b 1 t₀ u₀ v₀) (hsmall : Builtin.Range.small 0 b 1 = true) (hn : Builtin.Range.rangeSize 0 b 1 = (n : Int)) (F : Fr h₀ env.locals s.heap m₀) (N : News h₀ env.locals s.heap news) (hj : J 0 m₀ news)
    (turn : ∀ (i : Nat) t m₁ news₁ h tk I o, i < n → J i m₁ news₁ → (∀ p ∈ news₁, p.1 ≠ I) → Fr h₀ env.locals h (fun y => if y = x then some (.int (i : Int) t) else m₁ y) → News h₀ env.locals h ((I, o) :: news₁) →
      wpAny (model prog w) A (execs body env) (LoopPost h₀ env.locals s [(I, o)] I (J (i + 1)) Q) E { s with heap := h, toks := tk })
    (done : ∀ m₁ news₁ h tk, J n m₁ news₁ → Fr h₀ env.locals h m₁ → News h₀ env.locals h news₁ → Q .next { s with heap := h, toks := tk }) :
    wpAny (model prog w) A (pyIter (.ref r)) (fun it s₂ => LoopAtV prog w A h₀ env x body Q E it s₂) E s := by
  refine wpAny_pyIter_range hr hsmall ?_
  have W : Walks prog w A s.heap.objs.size [s.heap.objs.size] [s.heap.objs.size] n (fun i v => i < n ∧ ∃ t, v = .int (0 + i * 1) t)
      (fun i h => IsRangeIter h s.heap.objs.size (0 + (i : Nat) * 1) ((n : Int) - (i : Nat)) 1) := (Walks.range hh _ 0 1 n).bound
  refine ⟨_, _, _, n, _, _, m₀, news, J, rfl, W, ?_, ?_, ?_, (by show IsRangeIter _ _ _ _ _; rw [hn]; simpa using Heap.get?_push_size _ rfl), F.push _, (fun p hp => ⟨Heap.get?_push_of_some _ (N p hp).1, (N p hp).2⟩), hj, ?_, ?_⟩
  · intro hm
    exact absurd F.ns.lt ((List.mem_singleton.mp hm) ▸ Nat.lt_irrefl _)
  · intro b hb
    rw [List.mem_singleton.mp hb]
    exact next_is_new F
  · intro p hp hI
    exact absurd (Heap.lt_size (N p hp).1) ((List.mem_singleton.mp hI) ▸ Nat.lt_irrefl _)
  · rintro i v m₁ news₁ s₁ own ⟨hh', tk', rfl⟩ hin ⟨_, t, rfl⟩ hJ hoff hown _ hall hst' F₁ N₁
    obtain ⟨o, ho⟩ : ∃ o, hh'.get? s.heap.objs.size = some o := ⟨_, hst'⟩
    have hone := own_one hown (fun b hb => .inl (List.mem_singleton.mp hb)) ho N₁
    have hio := hall _ (List.mem_singleton.mpr rfl) (next_is_new F) _ ho
    have e : (0 + (i : Int) * 1) = (i : Int) := by omega
    rw [e] at F₁
    have hne : ∀ p ∈ news₁, p.1 ≠ s.heap.objs.size := fun p hp q => hoff p hp (List.mem_singleton.mpr q)
    refine wpAny_mono (turn i t m₁ news₁ hh' tk' s.heap.objs.size o hin hJ hne F₁ (news_one hio N₁)) (fun f s₂ p => ?_) fun _ _ e => e
    have fin : (∃ m' news' h' tk', s₂ = { s with heap := h', toks := tk' } ∧ Fr h₀ env.locals h' m' ∧ News h₀ env.locals h' ((s.heap.objs.size, o) :: news') ∧ (∀ p ∈ news', p.1 ≠ s.heap.objs.size) ∧ J (i + 1) m' news') → LoopStepU h₀ env.locals [s.heap.objs.size] own (J (i + 1)) { s with heap := hh', toks := tk' } .next s₂ := by
      rintro ⟨m', news', h', tk, rfl, F', N', hn', hJ'⟩
      refine ⟨rfl, h', tk, m', news', rfl, F', fun p hp => ?_, fun p hp hq => hn' p hp (List.mem_singleton.mp hq), hJ'⟩
      rcases List.mem_append.mp hp with hp | hp
      · rw [hone p hp]; exact N' _ (.head _)
      · exact N' _ (.tail _ hp)
    cases f with
    | ret v => exact .ret p
    | brk => exact .brk p
    | next => exact .next (fin p)
    | cont => exact .cont (fin p)
  · rintro h' tk m' news' F' N' _ hJ
    exact done m' news' h' tk hJ F' N'
theorem rng_size {b : Int} (h : 0 ≤ b) : Builtin.Range.rangeSize 0 b 1 = (b.toNat : Int) := by
  unfold Builtin.Range.rangeSize
  rw [if_pos (by decide)]
  split <;> omega
theorem rng_small {b : Int} (h : 0 ≤ b) (h9 : b ≤ 1000) : Builtin.Range.small 0 b 1 = true := small_one (by omega) (by omega) (by omega) (by omega)

theorem p2_bits {n : Nat} (h : n ≤ 3) : Builtin.Int.intBits ((2 : Int) ^ n) ≤ 64 := by
  rcases (by omega : n = 0 ∨ n = 1 ∨ n = 2 ∨ n = 3) with h | h | h | h <;> subst h <;> decide
theorem getD_take {ds : List Int} {j : Nat} (h : j < ds.length) : ds.take (j + 1) = ds.take j ++ [ds.getD j 0] := by
  rw [List.take_add_one, List.getD_eq_getElem?_getD, List.getElem?_eq_getElem h]; rfl
theorem loF_snoc (ds : List Int) (d : Int) : loF (ds ++ [d]) = loF ds + d.fmod 2 * 2 ^ ds.length := by
  induction ds with
  | nil => simp [loF]
  | cons a r ih => simp only [List.cons_append, loF, ih, List.length_cons, Int.pow_succ]; rw [Int.mul_add, ← Int.mul_assoc, ← Int.mul_assoc, Int.mul_comm (d.fmod 2 * 2 ^ r.length) 2, Int.mul_assoc 2, Int.add_assoc]
theorem hiF_snoc (ds : List Int) (d : Int) : hiF (ds ++ [d]) = hiF ds + d.fdiv 2 * 2 ^ ds.length := by
  induction ds with
  | nil => simp [hiF]
  | cons a r ih => simp only [List.cons_append, hiF, ih, List.length_cons, Int.pow_succ]; rw [Int.mul_add, ← Int.mul_assoc, ← Int.mul_assoc, Int.mul_comm (d.fdiv 2 * 2 ^ r.length) 2, Int.mul_assoc 2, Int.add_assoc]
theorem loF_step {ds : List Int} {j : Nat} (h : j < ds.length) : loF (ds.take j) + (ds.getD (j : Int).toNat 0).fmod 2 * 2 ^ (j : Int).toNat = loF (ds.take (j + 1)) := by
  rw [getD_take h, loF_snoc, List.length_take, Nat.min_eq_left (Nat.le_of_lt h)]; rfl
theorem hiF_step {ds : List Int} {j : Nat} (h : j < ds.length) : hiF (ds.take j) + (ds.getD (j : Int).toNat 0).fdiv 2 * 2 ^ (j : Int).toNat = hiF (ds.take (j + 1)) := by
  rw [getD_take h, hiF_snoc, List.length_take, Nat.min_eq_left (Nat.le_of_lt h)]; rfl
theorem tok_some {v : Option Value} {a b : Int} {t : Tok} (e : a = b) (h : v = some (.int a t)) : ∃ t, v = some (.int b t) := by subst e; exact ⟨t, h⟩

noncomputable def Jvc (ds : List Int) (da : Addr) (led : Led) (j : Nat) (m : Str → Option Value) (news : Led) : Prop := news = led ∧ m (Str.ofString "digits_of") = some (.ref da) ∧ (∃ t, m (Str.ofString "low") = some (.int (loF (ds.take j)) t)) ∧ (∃ t, m (Str.ofString "high") = some (.int (hiF (ds.take j)) t))
theorem vc_loop {prog : Program} {w : World} {A : Around} {E : Value → Shared → Prop} {s : Shared} {env : Env} {h₀ : Heap} {x : Str} {body : List Stmt} {Q : Flow → Shared → Prop} {r : Addr} {t₀ u₀ v₀ : Tok} {m₀ : Str → Option Value} {led : Led} {ds : List Int} {da : Addr}
    (hh : A.handled = none) (hr : IsRange s.heap r 0 (ds.length : Int) 1 t₀ u₀ v₀) (h3 : ds.length ≤ 3) (F : Fr h₀ env.locals s.heap m₀) (N : News h₀ env.locals s.heap led) (hj : Jvc ds da led 0 m₀ led)
    (turn : ∀ (j : Nat) (t : Tok) (t0 : Tok) (t1 : Tok) (m₁ : Str → Option Value) (h : Heap) (tk : Nat) (I : Addr) (o : Obj), j < ds.length → m₁ (Str.ofString "digits_of") = some (.ref da) → m₁ (Str.ofString "low") = some (.int (loF (ds.take j)) t0) → m₁ (Str.ofString "high") = some (.int (hiF (ds.take j)) t1) → (∀ p ∈ led, p.1 ≠ I) → Fr h₀ env.locals h (fun y => if y = x then some (.int (j : Int) t) else m₁ y) → News h₀ env.locals h ((I, o) :: led) →
      wpAny (model prog w) A (execs body env) (LoopPost h₀ env.locals s [(I, o)] I (Jvc ds da led (j + 1)) Q) E { s with heap := h, toks := tk })
    (done : ∀ (t0 : Tok) (t1 : Tok) (m₁ : Str → Option Value) (h : Heap) (tk : Nat), m₁ (Str.ofString "digits_of") = some (.ref da) → m₁ (Str.ofString "low") = some (.int (loF (ds.take ds.length)) t0) → m₁ (Str.ofString "high") = some (.int (hiF (ds.take ds.length)) t1) → Fr h₀ env.locals h m₁ → News h₀ env.locals h led → Q .next { s with heap := h, toks := tk }) :
    wpAny (model prog w) A (pyIter (.ref r)) (fun it s₂ => LoopAtV prog w A h₀ env x body Q E it s₂) E s := by
  refine rng_loop (Jvc ds da led) hh hr (rng_small (by omega) (by omega)) (rng_size (by omega)) F N hj ?_ ?_
  · rintro j t m₁ news₁ h tk I o hv ⟨rfl, k0, ⟨u0, c0⟩, ⟨u1, c1⟩⟩ hne F' N'
    exact turn j t u0 u1 m₁ h tk I o (by omega) k0 c0 c1 hne F' N'
  · rintro m₁ news₁ h tk ⟨rfl, k0, ⟨u0, c0⟩, ⟨u1, c1⟩⟩ F' N'
    exact done u0 u1 m₁ h tk k0 c0 c1 F' N'
theorem vc_next {ds : List Int} {da : Addr} {led all : Led} {h₀ h' : Heap} {L I : Addr} {o : Obj} {s : Shared} {Q : Flow → Shared → Prop} {m' : Str → Option Value} {tk' j : Nat}
    (F : Fr h₀ L h' m') (N : News h₀ L h' all) (hs : ∀ p ∈ (I, o) :: led, p ∈ all) (hne : ∀ p ∈ led, p.1 ≠ I) (hm : m' (Str.ofString "digits_of") = some (.ref da)) (hn : (∃ t, m' (Str.ofString "low") = some (.int (loF (ds.take (j + 1))) t)) ∧ (∃ t, m' (Str.ofString "high") = some (.int (hiF (ds.take (j + 1))) t))) :
    LoopPost h₀ L s [(I, o)] I (Jvc ds da led (j + 1)) Q .next { s with heap := h', toks := tk' } :=
  loopNext F N (fun p hp => hs p hp) hne ⟨rfl, hm, hn⟩
theorem vector_goes {w : World} {led : Led} {da : Addr} {k : Nat} {vs : List Value} {ds : List Int} {x : Int} (hda : (da, listOf vs.toArray k) ∈ led) (hi : IntsAre vs ds) (hx : (ds.length : Int) = x) (h1 : 1 ≤ x) (h3 : x ≤ 3) :
    Goes w 397 10 [.ref da] led (RetT led x (loF ds) (hiF ds)) := by
  unfold Goes RetT
  intro prog p loose mean mg mb dp un gd cn cs a' ccd cl outer A₀ base h₀ L m s Q E B F X N T hk hdp hun hret
  subst hx
  have h33 : ds.length ≤ 3 := by omega
  k_dflt (refine' wpAny_call (code_def (binds := [(Str.ofString "digits_of", Value.ref da)]) ?k1 ?k2 ?k3 ?k4 ?k5 ?kA ?kF ?kK ?k6 ?k7 ?k8 ?k9 ?kB ?_ ?c2 ?c3 ?c4 ?c5); walk_at "my enter")
  walk_at "my walk"
  walk_at "my for"
  walk_at "my walk"
  (rename IsRange _ _ _ _ _ _ _ _ => rgX)
  refine vc_loop (ds := ds) (da := da) rfl rgX h33 (by assumption) (by assumption) ⟨rfl, rfl, ⟨_, rfl⟩, ⟨_, rfl⟩⟩ ?turn ?done
  case turn =>
    intro j t t0 t1 m₁ h tk I o hj a1 a2 a3 hne F1 N1
    refine post_gen fun P1 hP1 => ?_
    have hp2 := p2_ne (j : Int).toNat
    have hq2 := p2_log (n := (j : Int).toNat) (by omega)
    have hb2 := p2_bits (n := (j : Int).toNat) (by omega)
    walk_at "my steps"
    all_goals refine hP1 _ _ ?_
    all_goals exact vc_next (by assumption) (by assumption) (by walk_at "my sub") hne (by exact a1) (by exact ⟨tok_some (loF_step hj) rfl, tok_some (hiF_step hj) rfl⟩)
  case done =>
    intro t0 t1 m₁ h tk a1 a2 a3 F1 N1
    rw [List.take_length] at a2 a3
    walk_at "my steps"
    all_goals (walk_at "my end"; all_goals (first | rfl))
noncomputable def lcF (a b i : Int) : Int := (a.fdiv (2 ^ i.toNat)).fmod 2 + (b.fdiv (2 ^ i.toNat)).fmod 2 * 2
theorem lcode_goes {w : World} {led : Led} {u : Addr} {x a b i : Int} {t1 t2 t3 t : Tok} (hu : (u, V3 x a b t1 t2 t3) ∈ led) (h0 : 0 ≤ i) (h9 : i < 10) : Goes w 404 10 [Value.ref u, Value.int i t] led (RetV led (.int (lcF a b i))) := by
  unfold Goes RetV
  intro prog p loose mean mg mb dp un gd cn cs a' ccd cl outer A₀ base h₀ L m s Q E B F X N T hk hdp hun hret
  have hp2 := p2_ne i.toNat
  have hq2 := p2_log (n := i.toNat) (by omega)
  k_dflt (refine' wpAny_call (code_def (binds := [(Str.ofString "v", Value.ref u), (Str.ofString "spot", Value.int i t)]) ?k1 ?k2 ?k3 ?k4 ?k5 ?kA ?kF ?kK ?k6 ?k7 ?k8 ?k9 ?kB ?_ ?c2 ?c3 ?c4 ?c5); walk_at "my enter")
  walk_at "my steps"
  all_goals (walk_at "my end"; all_goals (first | rfl | (simp [lcF]; done) | (simp [lcF]; omega)))

noncomputable def whU : List Int → Int
  | [] => 0
  | d :: r => d + 2 * whU r
noncomputable def lastF : List Int → Int
  | [] => 0
  | [d] => d
  | _ :: e :: r => lastF (e :: r)
noncomputable def whF (ds : List Int) (sg : Bool) : Int := if (sg && (lastF ds == 1)) = true then whU ds - 2 ^ ds.length else whU ds

theorem whU_snoc (ds : List Int) (d : Int) : whU (ds ++ [d]) = whU ds + d * 2 ^ ds.length := by
  induction ds with
  | nil => simp [whU]
  | cons a r ih => simp only [List.cons_append, whU, ih, List.length_cons, Int.pow_succ]; rw [Int.mul_add, ← Int.mul_assoc, ← Int.mul_assoc, Int.mul_comm (d * 2 ^ r.length) 2, Int.mul_assoc 2, Int.add_assoc]
theorem whU_step {ds : List Int} {j : Nat} (h : j < ds.length) : whU (ds.take j) + ds.getD (j : Int).toNat 0 * 2 ^ (j : Int).toNat = whU (ds.take (j + 1)) := by
  rw [getD_take h, whU_snoc, List.length_take, Nat.min_eq_left (Nat.le_of_lt h)]; rfl
theorem lastF_at : ∀ {ds : List Int}, 1 ≤ ds.length → ds.getD ((ds.length : Int) - 1).toNat 0 = lastF ds
  | [d], _ => rfl
  | a :: e :: r, _ => by
    have h := lastF_at (ds := e :: r) (by simp)
    have e1 : ((((a :: e :: r : List Int).length : Nat) : Int) - 1).toNat = ((((e :: r : List Int).length : Nat) : Int) - 1).toNat + 1 := by simp only [List.length_cons]; omega
    rw [e1]
    exact h

noncomputable def Jwh (ds : List Int) (da : Addr) (sg : Bool) (led : Led) (j : Nat) (m : Str → Option Value) (news : Led) : Prop := news = led ∧ m (Str.ofString "digits_of") = some (.ref da) ∧ m (Str.ofString "signed") = some (.bool sg) ∧ (∃ t, m (Str.ofString "total") = some (.int (whU (ds.take j)) t))
theorem wh_loop {prog : Program} {w : World} {A : Around} {E : Value → Shared → Prop} {s : Shared} {env : Env} {h₀ : Heap} {x : Str} {body : List Stmt} {Q : Flow → Shared → Prop} {r : Addr} {t₀ u₀ v₀ : Tok} {m₀ : Str → Option Value} {led : Led} {ds : List Int} {da : Addr} {sg : Bool}
    (hh : A.handled = none) (hr : IsRange s.heap r 0 (ds.length : Int) 1 t₀ u₀ v₀) (h3 : ds.length ≤ 3) (F : Fr h₀ env.locals s.heap m₀) (N : News h₀ env.locals s.heap led) (hj : Jwh ds da sg led 0 m₀ led)
    (turn : ∀ (j : Nat) (t : Tok) (t0 : Tok) (m₁ : Str → Option Value) (h : Heap) (tk : Nat) (I : Addr) (o : Obj), j < ds.length → m₁ (Str.ofString "digits_of") = some (.ref da) → m₁ (Str.ofString "signed") = some (.bool sg) → m₁ (Str.ofString "total") = some (.int (whU (ds.take j)) t0) → (∀ p ∈ led, p.1 ≠ I) → Fr h₀ env.locals h (fun y => if y = x then some (.int (j : Int) t) else m₁ y) → News h₀ env.locals h ((I, o) :: led) →
      wpAny (model prog w) A (execs body env) (LoopPost h₀ env.locals s [(I, o)] I (Jwh ds da sg led (j + 1)) Q) E { s with heap := h, toks := tk })
    (done : ∀ (t0 : Tok) (m₁ : Str → Option Value) (h : Heap) (tk : Nat), m₁ (Str.ofString "digits_of") = some (.ref da) → m₁ (Str.ofString "signed") = some (.bool sg) → m₁ (Str.ofString "total") = some (.int (whU (ds.take ds.length)) t0) → Fr h₀ env.locals h m₁ → News h₀ env.locals h led → Q .next { s with heap := h, toks := tk }) :
    wpAny (model prog w) A (pyIter (.ref r)) (fun it s₂ => LoopAtV prog w A h₀ env x body Q E it s₂) E s := by
  refine rng_loop (Jwh ds da sg led) hh hr (rng_small (by omega) (by omega)) (rng_size (by omega)) F N hj ?_ ?_
  · rintro j t m₁ news₁ h tk I o hv ⟨rfl, k0, k1, ⟨u0, c0⟩⟩ hne F' N'
    exact turn j t u0 m₁ h tk I o (by omega) k0 k1 c0 hne F' N'
  · rintro m₁ news₁ h tk ⟨rfl, k0, k1, ⟨u0, c0⟩⟩ F' N'
    exact done u0 m₁ h tk k0 k1 c0 F' N'
theorem wh_next {ds : List Int} {da : Addr} {sg : Bool} {led all : Led} {h₀ h' : Heap} {L I : Addr} {o : Obj} {s : Shared} {Q : Flow → Shared → Prop} {m' : Str → Option Value} {tk' j : Nat}
    (F : Fr h₀ L h' m') (N : News h₀ L h' all) (hs : ∀ p ∈ (I, o) :: led, p ∈ all) (hne : ∀ p ∈ led, p.1 ≠ I) (hm : m' (Str.ofString "digits_of") = some (.ref da) ∧ m' (Str.ofString "signed") = some (.bool sg)) (hn : (∃ t, m' (Str.ofString "total") = some (.int (whU (ds.take (j + 1))) t))) :
    LoopPost h₀ L s [(I, o)] I (Jwh ds da sg led (j + 1)) Q .next { s with heap := h', toks := tk' } :=
  loopNext F N (fun p hp => hs p hp) hne (by obtain ⟨k0, k1⟩ := hm; exact ⟨rfl, k0, k1, hn⟩)
theorem whole_goes {w : World} {led : Led} {da : Addr} {k : Nat} {vs : List Value} {ds : List Int} {sg : Bool} (hda : (da, listOf vs.toArray k) ∈ led) (hi : IntsAre vs ds) (hx : 1 ≤ ds.length) (h3 : ds.length ≤ 3) (hb : ∀ d ∈ ds, 0 ≤ d ∧ d < 2) :
    Goes w 411 10 [.ref da, .bool sg] led (RetV led (.int (whF ds sg))) := by
  unfold Goes RetV
  intro prog p loose mean mg mb dp un gd cn cs a' ccd cl outer A₀ base h₀ L m s Q E B F X N T hk hdp hun hret
  k_dflt (refine' wpAny_call (code_def (binds := [(Str.ofString "digits_of", Value.ref da), (Str.ofString "signed", Value.bool sg)]) ?k1 ?k2 ?k3 ?k4 ?k5 ?kA ?kF ?kK ?k6 ?k7 ?k8 ?k9 ?kB ?_ ?c2 ?c3 ?c4 ?c5); walk_at "my enter")
  walk_at "my walk"
  walk_at "my for"
  walk_at "my walk"
  (rename IsRange _ _ _ _ _ _ _ _ => rgX)
  refine wh_loop (ds := ds) (da := da) (sg := sg) rfl rgX h3 (by assumption) (by assumption) ⟨rfl, rfl, rfl, ⟨_, rfl⟩⟩ ?turn ?done
  case turn =>
    intro j t t0 m₁ h tk I o hj a1 a2 a3 hne F1 N1
    refine post_gen fun P1 hP1 => ?_
    have hp2 := p2_ne (j : Int).toNat
    have hq2 := p2_log (n := (j : Int).toNat) (by omega)
    have hb2 := p2_bits (n := (j : Int).toNat) (by omega)
    walk_at "my steps"
    all_goals refine hP1 _ _ ?_
    all_goals exact wh_next (by assumption) (by assumption) (by walk_at "my sub") hne (by exact ⟨a1, a2⟩) (by exact tok_some (whU_step hj) rfl)
  case done =>
    intro t0 m₁ h tk a1 a2 a3 F1 N1
    rw [List.take_length] at a3
    have hl := lastF_at hx
    have hp2 := p2_ne (ds.length : Int).toNat
    have hq2 := p2_log (n := (ds.length : Int).toNat) (by omega)
    walk_at "my steps"
    all_goals (walk_at "my end"; all_goals (first | rfl | (simp_all [whF]; done)))

theorem sum_led {prog : Program} {w : World} {A : Around} {E : Value → Shared → Prop} {s : Shared} {h₀ : Heap} {L l : Addr} {m : Str → Option Value} {news : List (Addr × Obj)} {vs : List Value} {ns : List Int} {n : Nat} {Q : Value → Shared → Prop} (hh : A.handled = none) (F : Fr h₀ L s.heap m) (N : News h₀ L s.heap news) (hm : (l, W.listOf vs.toArray n) ∈ news) (hi : IntsAre vs ns)
    (h : ∀ h' tk t', Fr h₀ L h' m → News h₀ L h' news → Q (.int ns.sum t') { s with heap := h', toks := tk }) :
    wpAny (model prog w) A (call (.builtin "sum") [.ref l]) Q E s := by
  have hl : s.heap.IsList l vs.toArray := News.isList N hm
  obtain ⟨xs, hx⟩ := hi.allInts.items
  have hn : numsOf vs.toArray.toList = ns := by rw [show vs.toArray.toList = vs from rfl, hi.numsOf]
  rw [hx] at hl hn
  rw [nums_intItems] at hn
  refine sum_intListG hh hl fun h' tk t' hk => ?_
  have := h h' tk t' (F.keeps hk) (N.grown hk)
  rw [preSum_eq, List.take_of_length_le (by simp), hn]
  exact this
noncomputable abbrev RetP (led : Led) (x : Int) (dv : Tok → Value) : RetTy := fun h₀ L m s Q => ∀ c t1 t2 h' tk', Fr h₀ L h' m → News h₀ L h' ((c, TU [.int x t1, dv t2]) :: led) → (∀ p ∈ led, p.1 < c) → Q (.ref c) { s with heap := h', toks := tk' }
noncomputable abbrev RetPN (led : Led) (x : Int) (_ : Value) : RetTy := fun h₀ L m s Q => ∀ (c : Addr) (t1 t2 : Tok) (h' : Heap) (tk' : Nat), Fr h₀ L h' m → News h₀ L h' ((c, TU [.int x t1, .none]) :: led) → (∀ p ∈ led, p.1 < c) → Q (.ref c) { s with heap := h', toks := tk' }
section
variable {h₀ h' : Heap} {L : Addr} {m : Str → Option Value} {news led : List (Addr × Obj)} {s : Shared} {Q : Value → Shared → Prop} {tk' : Nat}
theorem retP {x y d e : Int} {c : Addr} {t1 t2 : Tok} (hret : ∀ c t1 t2 h' tk', Fr h₀ L h' m → News h₀ L h' ((c, TU [.int x t1, .int d t2]) :: led) → (∀ p ∈ led, p.1 < c) → Q (.ref c) { s with heap := h', toks := tk' })
    (F : Fr h₀ L h' m) (N : News h₀ L h' news) (hm : (c, TU [.int y t1, .int e t2]) ∈ news) (hs : ∀ p ∈ led, p ∈ news) (l : AllLt c led) (e1 : y = x) (e2 : e = d) : Q (.ref c) { s with heap := h', toks := tk' } := by
  subst e1 e2
  refine hret c t1 t2 h' tk' F (fun p hp => ?_) (allLt_to l)
  rcases List.mem_cons.mp hp with rfl | hp
  · exact N _ hm
  · exact N _ (hs p hp)
theorem retPN {x y : Int} {c : Addr} {t1 : Tok} (hret : ∀ (c : Addr) (t1 t2 : Tok) (h' : Heap) (tk' : Nat), Fr h₀ L h' m → News h₀ L h' ((c, TU [.int x t1, .none]) :: led) → (∀ p ∈ led, p.1 < c) → Q (.ref c) { s with heap := h', toks := tk' })
    (F : Fr h₀ L h' m) (N : News h₀ L h' news) (hm : (c, TU [.int y t1, .none]) ∈ news) (hs : ∀ p ∈ led, p ∈ news) (l : AllLt c led) (e1 : y = x) : Q (.ref c) { s with heap := h', toks := tk' } := by
  subst e1
  refine hret c t1 0 h' tk' F (fun p hp => ?_) (allLt_to l)
  rcases List.mem_cons.mp hp with rfl | hp
  · exact N _ hm
  · exact N _ (hs p hp)
end
noncomputable def oneD (op : Str) (ds : List Int) : Int := if (op == Str.ofString "~") = true then 2 ^ (ds.length : Int).toNat - 1 - whF ds false else if (op == Str.ofString "-") = true then - whF ds false else if (op == Str.ofString "!") = true then if ds.sum = 0 then 1 else 0 else if (op == Str.ofString "&") = true then if ds.sum = ds.length then 1 else 0 else if (op == Str.ofString "~&") = true then if ds.sum < ds.length then 1 else 0 else if (op == Str.ofString "|") = true then if 0 < ds.sum then 1 else 0 else if (op == Str.ofString "~|") = true then if ds.sum = 0 then 1 else 0 else if (op == Str.ofString "^") = true then if ds.sum.fmod 2 = 1 then 1 else 0 else if ds.sum.fmod 2 = 0 then 1 else 0
theorem oneD_0 (ds : List Int) : oneD (Str.ofString "~") ds = 2 ^ (ds.length : Int).toNat - 1 - whF ds false := rfl
theorem oneD_1 (ds : List Int) : oneD (Str.ofString "-") ds = - whF ds false := rfl
theorem oneD_2 (ds : List Int) : oneD (Str.ofString "!") ds = if ds.sum = 0 then 1 else 0 := rfl
theorem oneD_3 (ds : List Int) : oneD (Str.ofString "&") ds = if ds.sum = ds.length then 1 else 0 := rfl
theorem oneD_4 (ds : List Int) : oneD (Str.ofString "~&") ds = if ds.sum < ds.length then 1 else 0 := rfl
theorem oneD_5 (ds : List Int) : oneD (Str.ofString "|") ds = if 0 < ds.sum then 1 else 0 := rfl
theorem oneD_6 (ds : List Int) : oneD (Str.ofString "~|") ds = if ds.sum = 0 then 1 else 0 := rfl
theorem oneD_7 (ds : List Int) : oneD (Str.ofString "^") ds = if ds.sum.fmod 2 = 1 then 1 else 0 := rfl
theorem oneD_8 (ds : List Int) : oneD (Str.ofString "~^") ds = if ds.sum.fmod 2 = 0 then 1 else 0 := rfl
theorem un_cls {op : Str} (hop : op ∈ unOps) : op = Str.ofString "~" ∨ op = Str.ofString "-" ∨ (op = Str.ofString "!" ∨ op = Str.ofString "&" ∨ op = Str.ofString "~&" ∨ op = Str.ofString "|" ∨ op = Str.ofString "~|" ∨ op = Str.ofString "^" ∨ op = Str.ofString "~^") := by
  have k : (unOps.all fun op => decide (op = Str.ofString "~" ∨ op = Str.ofString "-" ∨ (op = Str.ofString "!" ∨ op = Str.ofString "&" ∨ op = Str.ofString "~&" ∨ op = Str.ofString "|" ∨ op = Str.ofString "~|" ∨ op = Str.ofString "^" ∨ op = Str.ofString "~^"))) = true := by decide +kernel
  exact of_decide_eq_true (List.all_eq_true.mp k op hop)
theorem un7_f {op : Str} {x : Int} (h : op = Str.ofString "!" ∨ op = Str.ofString "&" ∨ op = Str.ofString "~&" ∨ op = Str.ofString "|" ∨ op = Str.ofString "~|" ∨ op = Str.ofString "^" ∨ op = Str.ofString "~^") : unX op x = 1 ∧ (op == Str.ofString "~") = false ∧ (op == Str.ofString "-") = false := by
  rcases h with rfl | rfl | rfl | rfl | rfl | rfl | rfl <;> exact ⟨rfl, by decide +kernel, by decide +kernel⟩
theorem ret_p {h₀ : Heap} {L : Addr} {m : Str → Option Value} {s : Shared} {Q : Value → Shared → Prop} {led : Led} {x d X D : Int} (H : RetP led X (.int D) h₀ L m s Q) (e1 : X = x) (e2 : D = d) : RetP led x (.int d) h₀ L m s Q := by
  subst e1 e2
  exact H
theorem In_led {prog : Program} {w : World} {A : Around} {E : Value → Shared → Prop} {s : Shared} {h₀ : Heap} {L : Addr} {news : List (Addr × Obj)} {l : Addr} {vs : List Value} {xs : List Str} {n : Nat} {x : Str} {t : Tok} {b : Bool} {Q : Value → Shared → Prop}
    (N : News h₀ L s.heap news) (ha : (l, W.listOf vs.toArray n) ∈ news) (hi : StrsAre vs xs) (hb : (xs.any fun y => y == x) = b) (h : Q (.bool b) s) : wpAny (model prog w) A (compareOp .In (.str x t) (.ref l)) Q E s := by
  subst hb
  exact in_list_strs (News.isList N ha) hi h
theorem NotIn_led {prog : Program} {w : World} {A : Around} {E : Value → Shared → Prop} {s : Shared} {h₀ : Heap} {L : Addr} {news : List (Addr × Obj)} {l : Addr} {vs : List Value} {xs : List Str} {n : Nat} {x : Str} {t : Tok} {b : Bool} {Q : Value → Shared → Prop}
    (N : News h₀ L s.heap news) (ha : (l, W.listOf vs.toArray n) ∈ news) (hi : StrsAre vs xs) (hb : (!xs.any fun y => y == x) = b) (h : Q (.bool b) s) : wpAny (model prog w) A (compareOp .NotIn (.str x t) (.ref l)) Q E s := by
  subst hb
  exact notin_list_strs (News.isList N ha) hi h

noncomputable def quotL (m n : Int) : Int := if (decide (m < 0) != decide (n < 0)) = true then -Int.fdiv (if m < 0 then -m else m) (if n < 0 then -n else n) else Int.fdiv (if m < 0 then -m else m) (if n < 0 then -n else n)
theorem whU_lo {ds : List Int} (hb : ∀ d ∈ ds, 0 ≤ d ∧ d < 2) : 0 ≤ whU ds := by
  induction ds with
  | nil => exact Int.le_refl _
  | cons d r ih =>
    have h1 := hb d (by simp)
    have h2 := ih fun e he => hb e (List.mem_cons_of_mem _ he)
    simp only [whU]; omega
theorem whU_hi {ds : List Int} (hb : ∀ d ∈ ds, 0 ≤ d ∧ d < 2) : whU ds < 2 ^ ds.length := by
  induction ds with
  | nil => decide
  | cons d r ih =>
    have h1 := hb d (by simp)
    have h2 := ih fun e he => hb e (List.mem_cons_of_mem _ he)
    simp only [whU, List.length_cons, Int.pow_succ]; omega
theorem p2_le3 {n : Nat} (h : n ≤ 3) : (2 : Int) ^ n ≤ 8 := by
  rcases (by omega : n = 0 ∨ n = 1 ∨ n = 2 ∨ n = 3) with h | h | h | h <;> subst h <;> decide
theorem whF_lo {ds : List Int} {sg : Bool} (h3 : ds.length ≤ 3) (hb : ∀ d ∈ ds, 0 ≤ d ∧ d < 2) : -8 ≤ whF ds sg := by
  have h1 := whU_lo hb
  have h2 := p2_le3 h3
  unfold whF
  split <;> omega
theorem whF_hi {ds : List Int} {sg : Bool} (h3 : ds.length ≤ 3) (hb : ∀ d ∈ ds, 0 ≤ d ∧ d < 2) : whF ds sg < 8 := by
  have h1 := whU_hi hb
  have h2 := p2_le3 h3
  have h4 : (0 : Int) < 2 ^ ds.length := Int.pow_pos (by decide)
  unfold whF
  split <;> omega
theorem whF_nn {ds : List Int} (hb : ∀ d ∈ ds, 0 ≤ d ∧ d < 2) : 0 ≤ whF ds false := whU_lo hb
theorem sg8_f {op : Str} (h : op = Str.ofString "<" ∨ op = Str.ofString "<=" ∨ op = Str.ofString ">" ∨ op = Str.ofString ">=" ∨ op = Str.ofString "==" ∨ op = Str.ofString "!=" ∨ op = Str.ofString "&&" ∨ op = Str.ofString "||") : (!([Str.ofString "<<", Str.ofString "<<<", Str.ofString ">>"].any fun y => y == op)) = true ∧ (!([Str.ofString "<<", Str.ofString "<<<", Str.ofString ">>", Str.ofString ">>>"].any fun y => y == op)) = true ∧ ([Str.ofString "<", Str.ofString "<=", Str.ofString ">", Str.ofString ">=", Str.ofString "==", Str.ofString "!=", Str.ofString "&&", Str.ofString "||"].any fun y => y == op) = true := by
  rcases h with rfl | rfl | rfl | rfl | rfl | rfl | rfl | rfl <;> decide +kernel
theorem op7_f {op : Str} (h : op = Str.ofString "+" ∨ op = Str.ofString "-" ∨ op = Str.ofString "*" ∨ op = Str.ofString "&" ∨ op = Str.ofString "|" ∨ op = Str.ofString "^" ∨ op = Str.ofString "~^") : (!([Str.ofString "<<", Str.ofString "<<<", Str.ofString ">>"].any fun y => y == op)) = true ∧ (!([Str.ofString "<<", Str.ofString "<<<", Str.ofString ">>", Str.ofString ">>>"].any fun y => y == op)) = true ∧ ([Str.ofString "<", Str.ofString "<=", Str.ofString ">", Str.ofString ">=", Str.ofString "==", Str.ofString "!=", Str.ofString "&&", Str.ofString "||"].any fun y => y == op) = false ∧ ([Str.ofString "/", Str.ofString "%"].any fun y => y == op) = false ∧ (op == Str.ofString "/") = false ∧ (op == Str.ofString "%") = false ∧ ([Str.ofString "<<", Str.ofString "<<<"].any fun y => y == op) = false ∧ ([Str.ofString ">>", Str.ofString ">>>"].any fun y => y == op) = false := by
  rcases h with rfl | rfl | rfl | rfl | rfl | rfl | rfl <;> decide +kernel
theorem dz_f {op : Str} (h : op = Str.ofString "/" ∨ op = Str.ofString "%") : (!([Str.ofString "<<", Str.ofString "<<<", Str.ofString ">>"].any fun y => y == op)) = true ∧ (!([Str.ofString "<<", Str.ofString "<<<", Str.ofString ">>", Str.ofString ">>>"].any fun y => y == op)) = true ∧ ([Str.ofString "<", Str.ofString "<=", Str.ofString ">", Str.ofString ">=", Str.ofString "==", Str.ofString "!=", Str.ofString "&&", Str.ofString "||"].any fun y => y == op) = false ∧ ([Str.ofString "/", Str.ofString "%"].any fun y => y == op) = true := by
  rcases h with rfl | rfl <;> decide +kernel
theorem sl_f {op : Str} (h : op = Str.ofString "<<" ∨ op = Str.ofString "<<<") : (!([Str.ofString "<<", Str.ofString "<<<", Str.ofString ">>"].any fun y => y == op)) = false ∧ (!([Str.ofString "<<", Str.ofString "<<<", Str.ofString ">>", Str.ofString ">>>"].any fun y => y == op)) = false ∧ ([Str.ofString "<", Str.ofString "<=", Str.ofString ">", Str.ofString ">=", Str.ofString "==", Str.ofString "!=", Str.ofString "&&", Str.ofString "||"].any fun y => y == op) = false ∧ ([Str.ofString "/", Str.ofString "%"].any fun y => y == op) = false ∧ (op == Str.ofString "/") = false ∧ (op == Str.ofString "%") = false ∧ ([Str.ofString "<<", Str.ofString "<<<"].any fun y => y == op) = true := by
  rcases h with rfl | rfl <;> decide +kernel
theorem sr_f {op : Str} (h : op = Str.ofString ">>" ∨ op = Str.ofString ">>>") : (!([Str.ofString "<<", Str.ofString "<<<", Str.ofString ">>"].any fun y => y == op)) = (op == Str.ofString ">>>") ∧ (!([Str.ofString "<<", Str.ofString "<<<", Str.ofString ">>", Str.ofString ">>>"].any fun y => y == op)) = false ∧ ([Str.ofString "<", Str.ofString "<=", Str.ofString ">", Str.ofString ">=", Str.ofString "==", Str.ofString "!=", Str.ofString "&&", Str.ofString "||"].any fun y => y == op) = false ∧ ([Str.ofString "/", Str.ofString "%"].any fun y => y == op) = false ∧ (op == Str.ofString "/") = false ∧ (op == Str.ofString "%") = false ∧ ([Str.ofString "<<", Str.ofString "<<<"].any fun y => y == op) = false ∧ ([Str.ofString ">>", Str.ofString ">>>"].any fun y => y == op) = true := by
  rcases h with rfl | rfl <;> decide +kernel
noncomputable def sgD (op : Str) (m n : Int) : Int := if (op == Str.ofString "<") = true then (if m < n then 1 else 0) else if (op == Str.ofString "<=") = true then (if m ≤ n then 1 else 0) else if (op == Str.ofString ">") = true then (if n < m then 1 else 0) else if (op == Str.ofString ">=") = true then (if n ≤ m then 1 else 0) else if (op == Str.ofString "==") = true then (if m = n then 1 else 0) else if (op == Str.ofString "!=") = true then (if m ≠ n then 1 else 0) else if (op == Str.ofString "&&") = true then (if m ≠ 0 ∧ n ≠ 0 then 1 else 0) else (if m ≠ 0 ∨ n ≠ 0 then 1 else 0)
noncomputable def opD (op : Str) (m n : Int) : Int := if (op == Str.ofString "+") = true then (m + n) else if (op == Str.ofString "-") = true then (m - n) else if (op == Str.ofString "*") = true then (m * n) else if (op == Str.ofString "&") = true then (Builtin.bitAnd m n) else if (op == Str.ofString "|") = true then (Builtin.bitOr m n) else if (op == Str.ofString "^") = true then (Builtin.bitXor m n) else (-1 - Builtin.bitXor m n)
theorem sgD_0 (m n : Int) : sgD (Str.ofString "<") m n = if m < n then 1 else 0 := rfl
theorem sgD_1 (m n : Int) : sgD (Str.ofString "<=") m n = if m ≤ n then 1 else 0 := rfl
theorem sgD_2 (m n : Int) : sgD (Str.ofString ">") m n = if n < m then 1 else 0 := rfl
theorem sgD_3 (m n : Int) : sgD (Str.ofString ">=") m n = if n ≤ m then 1 else 0 := rfl
theorem sgD_4 (m n : Int) : sgD (Str.ofString "==") m n = if m = n then 1 else 0 := rfl
theorem sgD_5 (m n : Int) : sgD (Str.ofString "!=") m n = if m ≠ n then 1 else 0 := rfl
theorem sgD_6 (m n : Int) : sgD (Str.ofString "&&") m n = if m ≠ 0 ∧ n ≠ 0 then 1 else 0 := rfl
theorem sgD_7 (m n : Int) : sgD (Str.ofString "||") m n = if m ≠ 0 ∨ n ≠ 0 then 1 else 0 := rfl
theorem opD_0 (m n : Int) : opD (Str.ofString "+") m n = m + n := rfl
theorem opD_1 (m n : Int) : opD (Str.ofString "-") m n = m - n := rfl
theorem opD_2 (m n : Int) : opD (Str.ofString "*") m n = m * n := rfl
theorem opD_3 (m n : Int) : opD (Str.ofString "&") m n = Builtin.bitAnd m n := rfl
theorem opD_4 (m n : Int) : opD (Str.ofString "|") m n = Builtin.bitOr m n := rfl
theorem opD_5 (m n : Int) : opD (Str.ofString "^") m n = Builtin.bitXor m n := rfl
theorem opD_6 (m n : Int) : opD (Str.ofString "~^") m n = -1 - Builtin.bitXor m n := rfl

noncomputable def JoinP (r : Bool) (s : Shared) (h₀ : Heap) (L : Addr) (m : Str → Option Value) (news : List (Addr × Obj)) (v : Value) (s' : Shared) : Prop := ∃ h' tk', v = .bool r ∧ s' = { s with heap := h', toks := tk' } ∧ Fr h₀ L h' m ∧ News h₀ L h' news
theorem sgn_join {prog : Program} {w : World} {A : Around} {E : Value → Shared → Prop} {s : Shared} {h₀ : Heap} {L : Addr} {m : Str → Option Value} {news : List (Addr × Obj)} {e : PySem.Expr} {env : Env} {r R : Bool} {Q : Value → Shared → Prop}
    (_ : r = R) (F : Fr h₀ L s.heap m) (N : News h₀ L s.heap news)
    (h1 : wpAny (model prog w) A (eval e env) (JoinP r s h₀ L m news) E s)
    (h2 : ∀ h' tk', Fr h₀ L h' m → News h₀ L h' news → Q (.bool r) { s with heap := h', toks := tk' }) : wpAny (model prog w) A (eval e env) Q E s :=
  wpAny_mono h1 (fun v s' ⟨h', tk', e1, e2, F', N'⟩ => by subst e1 e2; exact h2 h' tk' F' N') (fun _ _ e => e)
theorem sgn_end {s : Shared} {h₀ h' : Heap} {tk' : Nat} {L : Addr} {m : Str → Option Value} {news : List (Addr × Obj)} {a r : Bool} (e : a = r) (F : Fr h₀ L h' m) (N : News h₀ L h' news) :
    JoinP r s h₀ L m news (.bool a) { s with heap := h', toks := tk' } := ⟨h', tk', by rw [e], rfl, F, N⟩

noncomputable def dueV (o : Option Int) (t : Tok) : Value := match o with
  | some d => .int d t
  | none => .none
noncomputable abbrev RetQ (led : Led) (x : Int) (d : Option Int) : RetTy := fun h₀ L m s Q => ∀ (c : Addr) (t1 t2 : Tok) (h' : Heap) (tk' : Nat), Fr h₀ L h' m → News h₀ L h' ((c, TU [.int x t1, dueV d t2]) :: led) → (∀ p ∈ led, p.1 < c) → Q (.ref c) { s with heap := h', toks := tk' }
theorem ret_pq {h₀ : Heap} {L : Addr} {m : Str → Option Value} {s : Shared} {Q : Value → Shared → Prop} {led : Led} {x d X : Int} {D : Option Int} (H : RetQ led X D h₀ L m s Q) (e : X = x ∧ D = some d) : RetP led x (.int d) h₀ L m s Q := by
  obtain ⟨rfl, rfl⟩ := e
  exact H
theorem ret_pn {h₀ : Heap} {L : Addr} {m : Str → Option Value} {s : Shared} {Q : Value → Shared → Prop} {led : Led} {x X : Int} {D : Option Int} (H : RetQ led X D h₀ L m s Q) (e : X = x ∧ D = none) : RetPN led x .none h₀ L m s Q := by
  obtain ⟨rfl, rfl⟩ := e
  exact H
noncomputable def twoD (op : Str) (ds es : List Int) (sg : Bool) : Option Int := if (op == Str.ofString "|") = true then some (opD (Str.ofString "|") (whF ds sg) (whF es sg)) else if (op == Str.ofString "+") = true then some (opD (Str.ofString "+") (whF ds sg) (whF es sg)) else if (op == Str.ofString "-") = true then some (opD (Str.ofString "-") (whF ds sg) (whF es sg)) else if (op == Str.ofString "*") = true then some (opD (Str.ofString "*") (whF ds sg) (whF es sg)) else if (op == Str.ofString "/") = true then (if whF es sg = 0 then none else some (quotL (whF ds sg) (whF es sg))) else if (op == Str.ofString "%") = true then (if whF es sg = 0 then none else some (whF ds sg - whF es sg * quotL (whF ds sg) (whF es sg))) else if (op == Str.ofString "<<") = true then some (whF ds false * 2 ^ (if (ds.length : Int) < whF es false then (ds.length : Int) else whF es false).toNat) else if (op == Str.ofString "<<<") = true then some (whF ds false * 2 ^ (if (ds.length : Int) < whF es false then (ds.length : Int) else whF es false).toNat) else if (op == Str.ofString ">>") = true then some ((whF ds false).fdiv (2 ^ (if (ds.length : Int) < whF es false then (ds.length : Int) else whF es false).toNat)) else if (op == Str.ofString ">>>") = true then some ((whF ds sg).fdiv (2 ^ (if (ds.length : Int) < whF es false then (ds.length : Int) else whF es false).toNat)) else if (op == Str.ofString "<") = true then some (sgD (Str.ofString "<") (whF ds sg) (whF es sg)) else if (op == Str.ofString "<=") = true then some (sgD (Str.ofString "<=") (whF ds sg) (whF es sg)) else if (op == Str.ofString ">") = true then some (sgD (Str.ofString ">") (whF ds sg) (whF es sg)) else if (op == Str.ofString ">=") = true then some (sgD (Str.ofString ">=") (whF ds sg) (whF es sg)) else if (op == Str.ofString "==") = true then some (sgD (Str.ofString "==") (whF ds sg) (whF es sg)) else if (op == Str.ofString "!=") = true then some (sgD (Str.ofString "!=") (whF ds sg) (whF es sg)) else if (op == Str.ofString "&") = true then some (opD (Str.ofString "&") (whF ds sg) (whF es sg)) else if (op == Str.ofString "^") = true then some (opD (Str.ofString "^") (whF ds sg) (whF es sg)) else if (op == Str.ofString "~^") = true then some (opD (Str.ofString "~^") (whF ds sg) (whF es sg)) else if (op == Str.ofString "&&") = true then some (sgD (Str.ofString "&&") (whF ds sg) (whF es sg)) else some (sgD (Str.ofString "||") (whF ds sg) (whF es sg))
section
variable {op : Str} {ds es : List Int} {sg : Bool}
theorem sg8_d (h : op = Str.ofString "<" ∨ op = Str.ofString "<=" ∨ op = Str.ofString ">" ∨ op = Str.ofString ">=" ∨ op = Str.ofString "==" ∨ op = Str.ofString "!=" ∨ op = Str.ofString "&&" ∨ op = Str.ofString "||") : binX op ds.length = 1 ∧ twoD op ds es sg = some (sgD op (whF ds sg) (whF es sg)) := by
  rcases h with rfl | rfl | rfl | rfl | rfl | rfl | rfl | rfl <;> exact ⟨by kernel_rfl!, by kernel_rfl!⟩
theorem op7_d (h : op = Str.ofString "+" ∨ op = Str.ofString "-" ∨ op = Str.ofString "*" ∨ op = Str.ofString "&" ∨ op = Str.ofString "|" ∨ op = Str.ofString "^" ∨ op = Str.ofString "~^") : binX op ds.length = ds.length ∧ twoD op ds es sg = some (opD op (whF ds sg) (whF es sg)) := by
  rcases h with rfl | rfl | rfl | rfl | rfl | rfl | rfl <;> exact ⟨by kernel_rfl!, by kernel_rfl!⟩
theorem dz_d (h : op = Str.ofString "/" ∨ op = Str.ofString "%") (hz : whF es sg = 0) : binX op ds.length = ds.length ∧ twoD op ds es sg = none := by
  rcases h with rfl | rfl
  · exact ⟨by kernel_rfl!, (by kernel_rfl! : twoD (Str.ofString "/") ds es sg = (if whF es sg = 0 then none else some (quotL (whF ds sg) (whF es sg)))).trans (if_pos hz)⟩
  · exact ⟨by kernel_rfl!, (by kernel_rfl! : twoD (Str.ofString "%") ds es sg = (if whF es sg = 0 then none else some (whF ds sg - whF es sg * quotL (whF ds sg) (whF es sg)))).trans (if_pos hz)⟩
theorem dn_d0 (hz : whF es sg ≠ 0) : binX (Str.ofString "/") ds.length = ds.length ∧ twoD (Str.ofString "/") ds es sg = some (quotL (whF ds sg) (whF es sg)) :=
  ⟨by kernel_rfl!, (by kernel_rfl! : twoD (Str.ofString "/") ds es sg = (if whF es sg = 0 then none else some (quotL (whF ds sg) (whF es sg)))).trans (if_neg hz)⟩
theorem dn_d1 (hz : whF es sg ≠ 0) : binX (Str.ofString "%") ds.length = ds.length ∧ twoD (Str.ofString "%") ds es sg = some (whF ds sg - whF es sg * quotL (whF ds sg) (whF es sg)) :=
  ⟨by kernel_rfl!, (by kernel_rfl! : twoD (Str.ofString "%") ds es sg = (if whF es sg = 0 then none else some (whF ds sg - whF es sg * quotL (whF ds sg) (whF es sg)))).trans (if_neg hz)⟩
theorem sl_d (h : op = Str.ofString "<<" ∨ op = Str.ofString "<<<") : binX op ds.length = ds.length ∧ twoD op ds es sg = some (whF ds false * 2 ^ (if (ds.length : Int) < whF es false then (ds.length : Int) else whF es false).toNat) := by
  rcases h with rfl | rfl <;> exact ⟨by kernel_rfl!, by kernel_rfl!⟩
theorem sr_d (h : op = Str.ofString ">>" ∨ op = Str.ofString ">>>") : binX op ds.length = ds.length ∧ twoD op ds es sg = some ((whF ds (sg && op == Str.ofString ">>>")).fdiv (2 ^ (if (ds.length : Int) < whF es false then (ds.length : Int) else whF es false).toNat)) := by
  rcases h with rfl | rfl <;> cases sg <;> exact ⟨by kernel_rfl!, by kernel_rfl!⟩
end
theorem pair_cls {op : Str} (hop : op ∈ pairOps) : (op = Str.ofString "<" ∨ op = Str.ofString "<=" ∨ op = Str.ofString ">" ∨ op = Str.ofString ">=" ∨ op = Str.ofString "==" ∨ op = Str.ofString "!=" ∨ op = Str.ofString "&&" ∨ op = Str.ofString "||") ∨ (op = Str.ofString "+" ∨ op = Str.ofString "-" ∨ op = Str.ofString "*" ∨ op = Str.ofString "&" ∨ op = Str.ofString "|" ∨ op = Str.ofString "^" ∨ op = Str.ofString "~^") ∨ (op = Str.ofString "/" ∨ op = Str.ofString "%") ∨ (op = Str.ofString "<<" ∨ op = Str.ofString "<<<") ∨ (op = Str.ofString ">>" ∨ op = Str.ofString ">>>") := by
  have k : (pairOps.all fun op => decide ((op = Str.ofString "<" ∨ op = Str.ofString "<=" ∨ op = Str.ofString ">" ∨ op = Str.ofString ">=" ∨ op = Str.ofString "==" ∨ op = Str.ofString "!=" ∨ op = Str.ofString "&&" ∨ op = Str.ofString "||") ∨ (op = Str.ofString "+" ∨ op = Str.ofString "-" ∨ op = Str.ofString "*" ∨ op = Str.ofString "&" ∨ op = Str.ofString "|" ∨ op = Str.ofString "^" ∨ op = Str.ofString "~^") ∨ (op = Str.ofString "/" ∨ op = Str.ofString "%") ∨ (op = Str.ofString "<<" ∨ op = Str.ofString "<<<") ∨ (op = Str.ofString ">>" ∨ op = Str.ofString ">>>"))) = true := by decide +kernel
  exact of_decide_eq_true (List.all_eq_true.mp k op hop)
theorem one_goes {w : World} {led : Led} {op : Str} {da : Addr} {k : Nat} {vs : List Value} {ds : List Int} {t : Tok} (hda : (da, listOf vs.toArray k) ∈ led) (hi : IntsAre vs ds) (hx : 1 ≤ ds.length) (h3 : ds.length ≤ 3) (hb : ∀ d ∈ ds, 0 ≤ d ∧ d < 2) (hop : op ∈ unOps) : Goes w 425 12 [.str op t, .ref da] led (RetP led (unX op ds.length) (.int (oneD op ds))) := by
  unfold Goes RetP
  intro prog p loose mean mg mb dp un gd cn cs a' ccd cl outer A₀ base h₀ L m s Q E B F X N T hk hdp hun hret
  k_dflt (refine' wpAny_call (code_def (binds := [(Str.ofString "op", Value.str op t), (Str.ofString "digits_of", Value.ref da)]) ?k1 ?k2 ?k3 ?k4 ?k5 ?kA ?kF ?kK ?k6 ?k7 ?k8 ?k9 ?kB ?_ ?c2 ?c3 ?c4 ?c5); walk_at "my enter")
  walk_at "my if"
  rcases un_cls hop with rfl | rfl | hop7
  · have hret := ret_p hret (rfl : unX (Str.ofString "~") ds.length = ds.length) rfl
    walk_at "my steps"
    all_goals (walk_at "my endP"; all_goals (first | rfl | (simp only [oneD_0, oneD_1, oneD_2, oneD_3, oneD_4, oneD_5, oneD_6, oneD_7, oneD_8]; first | done | rfl | (simp [*]; done) | (simp_all; done) | (simp_all; omega) | omega)))
  · have hret := ret_p hret (rfl : unX (Str.ofString "-") ds.length = ds.length) rfl
    walk_at "my steps"
    all_goals (walk_at "my endP"; all_goals (first | rfl | (simp only [oneD_0, oneD_1, oneD_2, oneD_3, oneD_4, oneD_5, oneD_6, oneD_7, oneD_8]; first | done | rfl | (simp [*]; done) | (simp_all; done) | (simp_all; omega) | omega)))
  · obtain ⟨f1, f2, f3⟩ := un7_f (x := ds.length) hop7
    have hret := ret_p hret f1 rfl
    walk_at "my steps"
    all_goals (walk_at "my endP"; all_goals (first | rfl | (simp only [oneD_0, oneD_1, oneD_2, oneD_3, oneD_4, oneD_5, oneD_6, oneD_7, oneD_8]; first | done | rfl | (simp [*]; done) | (simp_all; done) | (simp_all; omega) | omega)))
theorem two_goes {w : World} {led : Led} {op : Str} {sg : Bool} {la ra : Addr} {k k2 : Nat} {vs vs2 : List Value} {ds es : List Int} {t : Tok} (hla : (la, listOf vs.toArray k) ∈ led) (hra : (ra, listOf vs2.toArray k2) ∈ led) (hi : IntsAre vs ds) (hi2 : IntsAre vs2 es) (hx : 1 ≤ ds.length) (h3 : ds.length ≤ 3) (hl : es.length = ds.length) (hb : ∀ d ∈ ds, 0 ≤ d ∧ d < 2) (hb2 : ∀ d ∈ es, 0 ≤ d ∧ d < 2) (hop : op ∈ pairOps) : Goes w 418 12 [.str op t, .ref la, .ref ra, .bool sg] led (RetQ led (binX op ds.length) (twoD op ds es sg)) := by
  unfold Goes RetQ
  intro prog p loose mean mg mb dp un gd cn cs a' ccd cl outer A₀ base h₀ L m s Q E B F X N T hk hdp hun hret
  have hx2 : 1 ≤ es.length := by omega
  have h32 : es.length ≤ 3 := by omega
  obtain ⟨r1, hr1⟩ : ∃ r : Bool, r = (sg && !([Str.ofString "<<", Str.ofString "<<<", Str.ofString ">>"].any fun y => y == op)) := ⟨_, rfl⟩
  obtain ⟨r2, hr2⟩ : ∃ r : Bool, r = (sg && !([Str.ofString "<<", Str.ofString "<<<", Str.ofString ">>", Str.ofString ">>>"].any fun y => y == op)) := ⟨_, rfl⟩
  have w1 := whF_lo (sg := r1) h3 hb
  have w2 := whF_hi (sg := r1) h3 hb
  have w3 := whF_lo (sg := r2) h32 hb2
  have w4 := whF_hi (sg := r2) h32 hb2
  k_dflt (refine' wpAny_call (code_def (binds := [(Str.ofString "op", Value.str op t), (Str.ofString "left", Value.ref la), (Str.ofString "right", Value.ref ra), (Str.ofString "signed", Value.bool sg)]) ?k1 ?k2 ?k3 ?k4 ?k5 ?kA ?kF ?kK ?k6 ?k7 ?k8 ?k9 ?kB ?_ ?c2 ?c3 ?c4 ?c5); walk_at "my enter")
  walk_at "my if"
  refine' sgn_join hr1 ?F ?N ?h1 ?_
  case F => k_asm
  case N => k_asm
  case h1 =>
    subst hr1
    clear hr2
    cases sg <;> walk_at "my steps" <;> exact sgn_end rfl (by assumption) (by first | assumption | exact cb_drop (by assumption) (by walk_at "my sub"))
  intro h9 tk9 F9 N9
  (try dsimp only)
  (try k_sweep)
  (try k_fold)
  walk_at "my if"
  refine' sgn_join hr2 ?F ?N ?h1 ?_
  case F => k_asm
  case N => k_asm
  case h1 =>
    subst hr2
    clear hr1
    cases sg <;> walk_at "my steps" <;> exact sgn_end rfl (by assumption) (by first | assumption | exact cb_drop (by assumption) (by walk_at "my sub"))
  intro h9 tk9 F9 N9
  (try dsimp only)
  (try k_sweep)
  (try k_fold)
  walk_at "my if"
  rcases pair_cls hop with hop8 | hop7 | hd | hd | hd
  · obtain ⟨f1, f2, f3⟩ := sg8_f hop8
    rw [f1, Bool.and_true] at hr1
    rw [f2, Bool.and_true] at hr2
    have hret := ret_pq hret (sg8_d hop8)
    subst r1 r2
    walk_at "my steps"
    all_goals (walk_at "my endP"; all_goals (first | rfl | (simp only [sgD_0, sgD_1, sgD_2, sgD_3, sgD_4, sgD_5, sgD_6, sgD_7]; first | done | rfl | rw [if_pos (by omega)] | rw [if_neg (by omega)] | (simp_all; done))))
  · obtain ⟨f1, f2, f3, f4, f5, f6, f7, f8⟩ := op7_f hop7
    rw [f1, Bool.and_true] at hr1
    rw [f2, Bool.and_true] at hr2
    have hret := ret_pq hret (op7_d hop7)
    subst r1 r2
    walk_at "my steps"
    all_goals (walk_at "my endP"; all_goals (first | rfl | (simp only [opD_0, opD_1, opD_2, opD_3, opD_4, opD_5, opD_6]; first | done | rfl | rw [if_pos (by omega)] | rw [if_neg (by omega)] | (simp_all; done))))
  · obtain ⟨f1, f2, f3, f4⟩ := dz_f hd
    rw [f1, Bool.and_true] at hr1
    rw [f2, Bool.and_true] at hr2
    subst r1 r2
    rcases Decidable.em (whF es sg = 0) with hz | hz
    · have hret := ret_pn hret (dz_d hd hz)
      walk_at "my steps"
      all_goals (walk_at "my endP"; all_goals (first | rfl | (simp only [quotL]; first | rfl | rw [if_pos (by assumption)] | rw [if_neg (by assumption)] | (simp [*]; done))))
    · rcases hd with rfl | rfl
      · have hret := ret_pq hret (dn_d0 hz)
        walk_at "my steps"
        all_goals (walk_at "my endP"; all_goals (first | rfl | (simp only [quotL]; first | rfl | rw [if_pos (by assumption)] | rw [if_neg (by assumption)] | (simp [*]; done))))
      · have hret := ret_pq hret (dn_d1 hz)
        walk_at "my steps"
        all_goals (walk_at "my endP"; all_goals (first | rfl | (simp only [quotL]; first | rfl | rw [if_pos (by assumption)] | rw [if_neg (by assumption)] | (simp [*]; done))))
  · obtain ⟨f1, f2, f3, f4, f5, f6, f7⟩ := sl_f hd
    rw [f1, Bool.and_false] at hr1
    rw [f2, Bool.and_false] at hr2
    have hret := ret_pq hret (sl_d hd)
    subst r1 r2
    have w6 := whF_nn hb2
    walk_at "my steps"
    all_goals (walk_at "my endP"; all_goals (first | rfl | (simp only [quotL]; first | rfl | rw [if_pos (by assumption)] | rw [if_neg (by assumption)] | (simp [*]; done))))
  · obtain ⟨f1, f2, f3, f4, f5, f6, f7, f8⟩ := sr_f hd
    rw [f1] at hr1
    rw [f2, Bool.and_false] at hr2
    have hret := ret_pq hret (sr_d hd)
    rw [← hr1] at hret
    subst r2
    have w6 := whF_nn hb2
    walk_at "my steps"
    all_goals (walk_at "my endP"; all_goals (first | rfl | (simp only [quotL]; first | rfl | rw [if_pos (by assumption)] | rw [if_neg (by assumption)] | (simp [*]; done))))

/-- a loop over a list of the ledger that no turn changes, by an invariant of any make -/
theorem lst_loop {prog : Program} {w : World} {A : Around} {E : Value → Shared → Prop} {s : Shared} {env : Env} {h₀ : Heap} {x : Str} {body : List Stmt} {Q : Flow → Shared → Prop} {l : Addr} {vs : List Value} {k : Nat} {m₀ : Str → Option Value} {news all : Led}
    (J : Nat → (Str → Option Value) → Led → Prop)
    (hh : A.handled = none) (F : Fr h₀ env.locals s.heap m₀) (NA : News h₀ env.locals s.heap all) (hl : (l, W.listOf vs.toArray k) ∈ all) (N : News h₀ env.locals s.heap news) (hj : J 0 m₀ news)
    (turn : ∀ (i : Nat) v m₁ news₁ h tk I o, vs[i]? = some v → J i m₁ news₁ → (∀ p ∈ news₁, p.1 ≠ I) → l ≠ I → Fr h₀ env.locals h (fun y => if y = x then some v else m₁ y) → News h₀ env.locals h ((I, o) :: (l, W.listOf vs.toArray k) :: news₁) →
      wpAny (model prog w) A (execs body env) (LoopPost h₀ env.locals s [(I, o), (l, W.listOf vs.toArray k)] I (J (i + 1)) Q) E { s with heap := h, toks := tk })
    (done : ∀ m₁ news₁ h tk, J vs.length m₁ news₁ → Fr h₀ env.locals h m₁ → News h₀ env.locals h news₁ → Q .next { s with heap := h, toks := tk }) :
    wpAny (model prog w) A (pyIter (.ref l)) (fun it s₂ => LoopAtV prog w A h₀ env x body Q E it s₂) E s := by
  have hls : s.heap.IsList l vs.toArray := News.isList NA hl
  have hlt : l < s.heap.objs.size := Heap.lt_size (NA _ hl).1
  have hne : l ≠ s.heap.objs.size := Nat.ne_of_lt hlt
  refine wpAny_pyIter_list hls ?_
  have WW := Walks.list (prog := prog) (w := w) hh s.heap.objs.size l hne vs.toArray
  have hlen : vs.toArray.size = vs.length := by simp
  rw [hlen] at WW
  let J' : Nat → (Str → Option Value) → Led → Prop := fun i m₁ n₁ => ∃ news₁, n₁ = (l, W.listOf vs.toArray k) :: news₁ ∧ J i m₁ news₁
  refine ⟨_, _, _, vs.length, _, _, m₀, (l, W.listOf vs.toArray k) :: news, J', rfl, WW, ?_, ?_, ?_, ⟨⟨_, Heap.get?_push_size _ rfl, rfl, rfl⟩, hls.at fun o e => Heap.get?_push_of_some _ e⟩, F.push _, ?_, ⟨_, rfl, hj⟩, ?_, ?_⟩
  · intro hm
    rcases List.mem_cons.mp hm with e | hm
    · exact absurd F.ns.lt (e ▸ Nat.lt_irrefl _)
    · exact (NA _ hl).2.1 (List.mem_singleton.mp hm).symm
  · intro b hb
    rw [List.mem_singleton.mp hb]
    exact next_is_new F
  · intro p hp hI
    rcases List.mem_cons.mp hp with rfl | hp
    · exact hne (List.mem_singleton.mp hI)
    · exact absurd (Heap.lt_size (N p hp).1) ((List.mem_singleton.mp hI) ▸ Nat.lt_irrefl _)
  · intro p hp
    rcases List.mem_cons.mp hp with rfl | hp
    · exact ⟨Heap.get?_push_of_some _ (NA _ hl).1, (NA _ hl).2⟩
    · exact ⟨Heap.get?_push_of_some _ (N p hp).1, (N p hp).2⟩
  · rintro i v m₁ n₁ s₁ own ⟨hh', tk', rfl⟩ hin hP ⟨news₁, rfl, hJ⟩ hoff hown hget hall hst' F₁ N₁
    obtain ⟨o, ho⟩ : ∃ o, hh'.get? s.heap.objs.size = some o := by
      obtain ⟨⟨o, ho, _⟩, _⟩ := hst'
      exact ⟨o, ho⟩
    have hio := hall _ (.head _) (next_is_new F) _ ho
    have hlo : hh'.get? l = some (W.listOf vs.toArray k) := (N₁ (l, W.listOf vs.toArray k) (List.mem_append_right _ (.head _))).1
    have hne' : ∀ p ∈ news₁, p.1 ≠ s.heap.objs.size := fun p hp q => hoff p (.tail _ hp) (List.mem_singleton.mpr q)
    have N₂ : News h₀ env.locals hh' ((s.heap.objs.size, o) :: (l, W.listOf vs.toArray k) :: news₁) := by
      intro p hp
      rcases List.mem_cons.mp hp with rfl | hp
      · exact N₁ _ (List.mem_append_left _ hio)
      · exact N₁ _ (List.mem_append_right _ hp)
    have hone : ∀ p ∈ own, p = (s.heap.objs.size, o) ∨ p = (l, W.listOf vs.toArray k) := by
      intro p hp
      have h3 := N₁ p (List.mem_append_left _ hp)
      rcases List.mem_cons.mp (hown p hp) with e1 | e1
      · left
        have h4 := h3.1
        rw [e1, ho] at h4
        exact Prod.ext e1 (Option.some.inj h4).symm
      · right
        have e2 := List.mem_singleton.mp e1
        have h4 := h3.1
        rw [e2, hlo] at h4
        exact Prod.ext e2 (Option.some.inj h4).symm
    have hP' : vs[i]? = some v := by simpa using hP
    refine wpAny_mono (turn i v m₁ news₁ hh' tk' s.heap.objs.size o hP' hJ hne' hne F₁ N₂) (fun f s₂ p => ?_) fun _ _ e => e
    have fin : (∃ m' news' h' tk', s₂ = { s with heap := h', toks := tk' } ∧ Fr h₀ env.locals h' m' ∧ News h₀ env.locals h' ((s.heap.objs.size, o) :: (l, W.listOf vs.toArray k) :: news') ∧ (∀ p ∈ news', p.1 ≠ s.heap.objs.size) ∧ J (i + 1) m' news') → LoopStepU h₀ env.locals [s.heap.objs.size] own (J' (i + 1)) { s with heap := hh', toks := tk' } .next s₂ := by
      rintro ⟨m', news', h', tk, rfl, F', N', hn', hJ'⟩
      refine ⟨rfl, h', tk, m', (l, W.listOf vs.toArray k) :: news', rfl, F', fun p hp => ?_, fun p hp hq => ?_, _, rfl, hJ'⟩
      · rcases List.mem_append.mp hp with hp | hp
        · rcases hone p hp with e | e
          · rw [e]; exact N' _ (.head _)
          · rw [e]; exact N' _ (.tail _ (.head _))
        · exact N' _ (.tail _ hp)
      · rcases List.mem_cons.mp hp with rfl | hp
        · exact hne (List.mem_singleton.mp hq)
        · exact hn' p hp (List.mem_singleton.mp hq)
    cases f with
    | ret v => exact .ret p
    | brk => exact .brk p
    | next => exact .next (fin p)
    | cont => exact .cont (fin p)
  · rintro h' tk m' n' F' N' _ ⟨news', rfl, hJ⟩
    exact done m' news' h' tk hJ F' fun p hp => N' p (.tail _ hp)

noncomputable def FillB (d b : Int) : Prop := (b = 0 ∨ b = 1) ∧ (d < 2 → b = d)
inductive FillR : List Int → List Int → Prop
  | nil : FillR [] []
  | cons {d b : Int} {ds bs : List Int} : FillB d b → FillR ds bs → FillR (d :: ds) (b :: bs)
theorem FillR.snoc {ds bs : List Int} {d b : Int} (h : FillR ds bs) (hb : FillB d b) : FillR (ds ++ [d]) (bs ++ [b]) := by
  induction h with
  | nil => exact .cons hb .nil
  | cons h1 _ ih => exact .cons h1 ih
theorem FillR.length {ds bs : List Int} (h : FillR ds bs) : bs.length = ds.length := by
  induction h with
  | nil => rfl
  | cons _ _ ih => simp [ih]
theorem FillR.bits {ds bs : List Int} (h : FillR ds bs) : ∀ b ∈ bs, 0 ≤ b ∧ b < 2 := by
  induction h with
  | nil => intro b hb; cases hb
  | cons h1 _ ih =>
    intro b hb
    rcases List.mem_cons.mp hb with rfl | hb
    · have := h1.1; omega
    · exact ih b hb
/-- a value that is a list of ints, one filling of the digits -/
noncomputable def RowAt (news : Led) (ds : List Int) (v : Value) : Prop := ∃ a vs bs k, v = .ref a ∧ (a, W.listOf (List.toArray vs) k) ∈ news ∧ IntsAre vs bs ∧ FillR ds bs
theorem RowAt.mono {news news' : Led} {ds : List Int} {v : Value} (h : RowAt news ds v) (hs : ∀ p ∈ news, p ∈ news') : RowAt news' ds v := by
  obtain ⟨a, vs, bs, k, e, hm, hi, hf⟩ := h
  exact ⟨a, vs, bs, k, e, hs _ hm, hi, hf⟩
/-- the answer: a list of rows -/
noncomputable abbrev RetF (led : Led) (ds : List Int) : RetTy := fun h₀ L m s Q => ∀ (c : Addr) (rs : List Value) (k : Nat) (more : Led) (h' : Heap) (tk' : Nat), Fr h₀ L h' m → News h₀ L h' more → (∀ p ∈ led, p ∈ more) → (c, W.listOf rs.toArray k) ∈ more → (∀ v ∈ rs, RowAt more ds v) → Q (.ref c) { s with heap := h', toks := tk' }

/-- what the two inner loops keep: the list that grows stands at the ledger's head -/
noncomputable def JJ (ds : List Int) (da M : Addr) (d : Int) (t : Tok) (i : Nat) (keep rest : Led) (row : Option Value) (c : Nat) (m : Str → Option Value) (news : Led) : Prop :=
  m (Str.ofString "digits_of") = some (.ref da) ∧ m (Str.ofString "code_of") = some (.int d t) ∧ m (Str.ofString "more") = some (.ref M) ∧ (∀ v, row = some v → m (Str.ofString "row") = some v) ∧
  ∃ ms k rest', news = (M, W.listOf (List.toArray ms) k) :: (keep ++ rest') ∧ (∀ p ∈ rest', p.1 ≠ M) ∧ (∀ p ∈ rest', ∀ q ∈ keep, p.1 ≠ q.1) ∧ (∀ p ∈ rest, p ∈ rest') ∧ ms.length ≤ c ∧ ∀ v ∈ ms, RowAt rest' (ds.take i ++ [d]) v
noncomputable def J1 (led : Led) (ds : List Int) (da : Addr) (i : Nat) (m : Str → Option Value) (news : Led) : Prop :=
  m (Str.ofString "digits_of") = some (.ref da) ∧ ∃ R rs k, m (Str.ofString "rows") = some (.ref R) ∧ (R, W.listOf (List.toArray rs) k) ∈ news ∧ rs.length ≤ 2 ^ i ∧ (∀ v ∈ rs, RowAt news (ds.take i) v) ∧ ∀ p ∈ led, p ∈ news
theorem IntsAre.at' {vs : List Value} {ns : List Int} (h : IntsAre vs ns) {i : Nat} {v : Value} (e : vs[i]? = some v) : ∃ n t, v = .int n t ∧ ns[i]? = some n := by
  have hl : i < vs.length := by
    rcases Nat.lt_or_ge i vs.length with h1 | h1
    · exact h1
    · rw [List.getElem?_eq_none h1] at e; cases e
  have hl2 : i < ns.length := by rw [← h.length]; exact hl
  obtain ⟨t, ht⟩ := h.get i ns[i] (by simp [hl2])
  rw [ht] at e
  exact ⟨_, t, (Option.some.inj e).symm, by simp [hl2]⟩

theorem ints_snoc {vs : List Value} {ns : List Int} {b : Int} {t : Tok} (h : IntsAre vs ns) : IntsAre (vs ++ [.int b t]) (ns ++ [b]) := by
  induction h with
  | nil => exact .cons b t .nil
  | cons n u _ ih => exact .cons n u ih
theorem news_pk {h₀ h : Heap} {L : Addr} {x a b m c : Addr × Obj} {r : Led} (N : News h₀ L h (x :: a :: b :: m :: c :: r)) : News h₀ L h (m :: ([a, c] ++ r)) := by
  intro p hp
  simp only [List.cons_append, List.nil_append, List.mem_cons] at hp
  rcases hp with rfl | rfl | rfl | hp
  · exact N _ (.tail _ (.tail _ (.tail _ (.head _))))
  · exact N _ (.tail _ (.head _))
  · exact N _ (.tail _ (.tail _ (.tail _ (.tail _ (.head _)))))
  · exact N _ (.tail _ (.tail _ (.tail _ (.tail _ (.tail _ hp)))))
theorem add_led {prog : Program} {w : World} {A : Around} {E : Value → Shared → Prop} {s : Shared} {h₀ : Heap} {L : Addr} {m : Str → Option Value} {news : Led} {a b : Addr} {vs ws : List Value} {n k : Nat} {Q : Value → Shared → Prop}
    (F : Fr h₀ L s.heap m) (N : News h₀ L s.heap news) (ha : (a, W.listOf vs.toArray n) ∈ news) (hb : (b, W.listOf ws.toArray k) ∈ news) (hz : vs.length + ws.length ≤ 1000)
    (h : ∀ D h', Fr h₀ L h' m → News h₀ L h' ((D, W.listOf (vs ++ ws).toArray 0) :: news) → (∀ p ∈ news, p.1 < D) → Q (.ref D) { s with heap := h' }) :
    wpAny (model prog w) A (binaryOp .Add (.ref a) (.ref b)) Q E s :=
  add_lists (vs := vs) (ws := ws) (hsz := by rw [sizeLine_eq]; omega) F N (News.isList N ha) (News.isList N hb) (fun h' F' N' => h _ h' F' N' fun p hp => Heap.lt_size (N p hp).1)
theorem mid_next {ds : List Int} {da : Addr} {d : Int} {t : Tok} {i c : Nat} {rest : Led} {row : Option Value} {h₀ h' : Heap} {L M C B I3 L3 I2 I : Addr} {oB o3 o2 o lo3 : Obj} {s : Shared} {Q : Flow → Shared → Prop} {m' : Str → Option Value} {ms3 vs' : List Value} {bs : List Int} {kc k4 k5 tk' : Nat} {rest3 : Led} {b : Int} {t' : Tok}
    (F : Fr h₀ L h' m') (N : News h₀ L h' ((C, W.listOf (vs' ++ [Value.int b t']).toArray kc) :: (B, oB) :: (I3, o3) :: (L3, lo3) :: (M, W.listOf (ms3.toArray.push (.ref C)) k5) :: (I2, o2) :: (I, o) :: rest3))
    (hc1 : m' (Str.ofString "digits_of") = some (.ref da)) (hc2 : m' (Str.ofString "code_of") = some (.int d t)) (hc3 : m' (Str.ofString "more") = some (.ref M)) (hc4 : ∀ v, row = some v → m' (Str.ofString "row") = some v)
    (hd1 : ∀ p ∈ rest3, p.1 ≠ M) (hdk : ∀ p ∈ rest3, ∀ q ∈ [(I2, o2), (I, o)], p.1 ≠ q.1) (hdr : ∀ p ∈ rest, p ∈ rest3) (hd3 : ms3.length ≤ c) (hd4 : ∀ v ∈ ms3, RowAt rest3 (ds.take i ++ [d]) v)
    (hne3 : ∀ p ∈ (M, W.listOf ms3.toArray k4) :: (I2, o2) :: (I, o) :: rest3, p.1 ≠ I3) (hib : IntsAre vs' bs) (hfb : FillR (ds.take i) bs) (hb : FillB d b)
    (n1 : C ≠ I3) (n2 : C ≠ M) (n3 : C ≠ I2) (n4 : B ≠ I3) (n5 : B ≠ M) (n6 : B ≠ I2) (n7 : C ≠ I) (n8 : B ≠ I) :
    LoopPost h₀ L s [(I3, o3), (L3, lo3)] I3 (JJ ds da M d t i [(I2, o2), (I, o)] rest row (c + 1)) Q .next { s with heap := h', toks := tk' } := by
  refine loopNext (news' := (M, W.listOf (List.toArray (ms3 ++ [Value.ref C])) k5) :: ([(I2, o2), (I, o)] ++ ((C, W.listOf (vs' ++ [Value.int b t']).toArray kc) :: (B, oB) :: rest3))) F N ?_ ?_ ?_
  · intro p hp
    simp only [List.push_toArray, List.cons_append, List.nil_append, List.mem_cons] at hp ⊢
    rcases hp with h | h | h | h | h | h | h | h <;> simp [h]
  · intro p hp
    simp only [List.cons_append, List.nil_append, List.mem_cons] at hp
    rcases hp with rfl | rfl | rfl | rfl | rfl | h
    · exact (hne3 _ (List.Mem.head _) : M ≠ I3)
    · exact hne3 _ (.tail _ (.head _))
    · exact hne3 _ (.tail _ (.tail _ (.head _)))
    · exact n1
    · exact n4
    · exact hne3 _ (.tail _ (.tail _ (.tail _ h)))
  · refine ⟨hc1, hc2, hc3, hc4, _, _, _, rfl, ?_, ?_, ?_, ?_, ?_⟩
    · intro p hp
      simp only [List.mem_cons] at hp
      rcases hp with rfl | rfl | h
      · exact n2
      · exact n5
      · exact hd1 p h
    · intro p hp q hq
      simp only [List.mem_cons, List.not_mem_nil, or_false] at hp hq
      rcases hp with rfl | rfl | h
      · rcases hq with rfl | rfl
        · exact n3
        · exact n7
      · rcases hq with rfl | rfl
        · exact n6
        · exact n8
      · exact hdk p h q (by simp only [List.mem_cons, List.not_mem_nil, or_false]; exact hq)
    · exact fun p hp => .tail _ (.tail _ (hdr p hp))
    · simp; omega
    · intro v hv
      rcases List.mem_append.mp hv with hv | hv
      · exact (hd4 v hv).mono fun p hp => .tail _ (.tail _ hp)
      · exact ⟨C, _, _, _, List.mem_singleton.mp hv, .head _, ints_snoc hib, hfb.snoc hb⟩
theorem mid_done {ds : List Int} {da : Addr} {d : Int} {t : Tok} {i c c' : Nat} {rest rest2 : Led} {h₀ h' : Heap} {L M I2 I R : Addr} {o2 o lo : Obj} {s : Shared} {Q : Flow → Shared → Prop} {m' : Str → Option Value} {ms3 : List Value} {k4 tk' : Nat} {rest3 : Led}
    (F : Fr h₀ L h' m') (N : News h₀ L h' ((M, W.listOf ms3.toArray k4) :: ([(I2, o2), (I, o)] ++ rest3)))
    (hc1 : m' (Str.ofString "digits_of") = some (.ref da)) (hc2 : m' (Str.ofString "code_of") = some (.int d t)) (hc3 : m' (Str.ofString "more") = some (.ref M))
    (hd1 : ∀ p ∈ rest3, p.1 ≠ M) (hdk : ∀ p ∈ rest3, ∀ q ∈ [(I2, o2), (I, o)], p.1 ≠ q.1) (hdr : ∀ p ∈ rest2, p ∈ rest3) (hb2 : ∀ p ∈ rest, p ∈ rest2) (hd3 : ms3.length ≤ c) (hcc : c ≤ c') (hd4 : ∀ v ∈ ms3, RowAt rest3 (ds.take i ++ [d]) v)
    (hR : (R, lo) ∈ rest2) (n1 : M ≠ I2) (n2 : I ≠ I2) :
    LoopPost h₀ L s [(I2, o2), (R, lo)] I2 (JJ ds da M d t i [(I, o)] rest none c') Q .next { s with heap := h', toks := tk' } := by
  refine loopNext (news' := (M, W.listOf ms3.toArray k4) :: ([(I, o)] ++ rest3)) F N ?_ ?_ ?_
  · intro p hp
    simp only [List.cons_append, List.nil_append, List.mem_cons] at hp ⊢
    rcases hp with h | h | h | h | h
    · simp [h]
    · rw [h]; exact .inr (.inr (.inr (hdr _ hR)))
    · simp [h]
    · simp [h]
    · simp [h]
  · intro p hp
    simp only [List.cons_append, List.nil_append, List.mem_cons] at hp
    rcases hp with rfl | rfl | h
    · exact n1
    · exact n2
    · exact hdk p h _ (.head _)
  · exact ⟨hc1, hc2, hc3, (fun _ e => nomatch e), _, _, _, rfl, hd1, (fun p hp q hq => hdk p hp q (.tail _ hq)), fun p hp => hdr p (hb2 p hp), Nat.le_trans hd3 hcc, hd4⟩
theorem out_done {led : Led} {ds : List Int} {da : Addr} {d : Int} {i c : Nat} {news₁ : Led} {h₀ h' : Heap} {L M I : Addr} {o lo : Obj} {s : Shared} {Q : Flow → Shared → Prop} {m' : Str → Option Value} {ms : List Value} {k tk' : Nat} {rest2 : Led}
    (F : Fr h₀ L h' m') (N : News h₀ L h' ((M, W.listOf ms.toArray k) :: ([(I, o)] ++ rest2)))
    (hc1 : m' (Str.ofString "digits_of") = some (.ref da)) (hc3 : m' (Str.ofString "rows") = some (.ref M)) (hd : ds[i]? = some d) (hled : ∀ p ∈ led, p ∈ news₁)
    (hbk : ∀ p ∈ rest2, ∀ q ∈ [(I, o)], p.1 ≠ q.1) (hb2 : ∀ p ∈ (da, lo) :: news₁, p ∈ rest2) (hb3 : ms.length ≤ c) (hcc : c ≤ 2 ^ (i + 1)) (hb4 : ∀ v ∈ ms, RowAt rest2 (ds.take i ++ [d]) v) (n1 : M ≠ I) :
    LoopPost h₀ L s [(I, o), (da, lo)] I (J1 led ds da (i + 1)) Q .next { s with heap := h', toks := tk' } := by
  refine loopNext (news' := (M, W.listOf ms.toArray k) :: rest2) F N ?_ ?_ ?_
  · intro p hp
    simp only [List.cons_append, List.nil_append, List.mem_cons] at hp ⊢
    rcases hp with h | h | h | h
    · simp [h]
    · rw [h]; exact .inr (.inr (hb2 _ (.head _)))
    · simp [h]
    · simp [h]
  · intro p hp
    rcases List.mem_cons.mp hp with rfl | h
    · exact n1
    · exact hbk p h _ (.head _)
  · have e : ds.take (i + 1) = ds.take i ++ [d] := by rw [List.take_add_one, hd]; rfl
    refine ⟨hc1, M, ms, k, hc3, .head _, Nat.le_trans hb3 hcc, ?_, fun p hp => .tail _ (hb2 _ (.tail _ (hled p hp)))⟩
    rw [e]
    exact fun v hv => (hb4 v hv).mono fun p hp => .tail _ hp
theorem bit_one {d : Int} {t : Tok} {q : Nat} {v : Value} (hd : d < 2) (h0 : 0 ≤ d) (e : [Value.int d t][q]? = some v) : ∃ b t', v = .int b t' ∧ FillB d b := by
  rcases q with _ | q
  · cases e; exact ⟨_, _, rfl, by omega, fun _ => rfl⟩
  · cases e
theorem bit_two {d : Int} {t1 t2 : Tok} {q : Nat} {v : Value} (hd : 2 ≤ d) (e : [Value.int 0 t1, Value.int 1 t2][q]? = some v) : ∃ b t', v = .int b t' ∧ FillB d b := by
  rcases q with _ | _ | q
  · cases e; exact ⟨_, _, rfl, .inl rfl, fun h => by omega⟩
  · cases e; exact ⟨_, _, rfl, .inr rfl, fun h => by omega⟩
  · cases e
theorem mid_loop {prog : Program} {w : World} {A : Around} {E : Value → Shared → Prop} {s : Shared} {env : Env} {h₀ : Heap} {x : Str} {body : List Stmt} {Q : Flow → Shared → Prop} {l : Addr} {vs : List Value} {k kM : Nat} {m₀ : Str → Option Value} {all : Led}
    (ds : List Int) (da : Addr) (d : Int) (t : Tok) (i : Nat) (keep rest : Led) (row : Option Value) (step c₀ : Nat) {M : Addr} {ms : List Value} {rest' : Led}
    (hh : A.handled = none) (F : Fr h₀ env.locals s.heap m₀) (NA : News h₀ env.locals s.heap all) (hl : (l, W.listOf vs.toArray k) ∈ all) (N : News h₀ env.locals s.heap ((M, W.listOf (List.toArray ms) kM) :: rest')) (hj : JJ ds da M d t i keep rest row c₀ m₀ ((M, W.listOf (List.toArray ms) kM) :: rest'))
    (turn : ∀ (j : Nat) v m₁ news₁ h tk I o, vs[j]? = some v → JJ ds da M d t i keep rest row (c₀ + step * j) m₁ news₁ → (∀ p ∈ news₁, p.1 ≠ I) → l ≠ I → Fr h₀ env.locals h (fun y => if y = x then some v else m₁ y) → News h₀ env.locals h ((I, o) :: (l, W.listOf vs.toArray k) :: news₁) →
      wpAny (model prog w) A (execs body env) (LoopPost h₀ env.locals s [(I, o), (l, W.listOf vs.toArray k)] I (JJ ds da M d t i keep rest row (c₀ + step * (j + 1))) Q) E { s with heap := h, toks := tk })
    (done : ∀ m₁ news₁ h tk, JJ ds da M d t i keep rest row (c₀ + step * vs.length) m₁ news₁ → Fr h₀ env.locals h m₁ → News h₀ env.locals h news₁ → Q .next { s with heap := h, toks := tk }) :
    wpAny (model prog w) A (pyIter (.ref l)) (fun it s₂ => LoopAtV prog w A h₀ env x body Q E it s₂) E s :=
  lst_loop (fun j => JJ ds da M d t i keep rest row (c₀ + step * j)) hh F NA hl N (by simpa using hj) turn done
theorem fillings_goes {w : World} {led : Led} {da : Addr} {k : Nat} {vs : List Value} {ds : List Int} (hda : (da, W.listOf vs.toArray k) ∈ led) (hi : IntsAre vs ds) (h6 : ds.length ≤ 6) (hb : ∀ d ∈ ds, 0 ≤ d ∧ d < 4) : Goes w 432 10 [.ref da] led (RetF led ds) := by
  unfold Goes RetF
  intro prog p loose mean mg mb dp un gd cn cs a' ccd cl outer A₀ base h₀ L m s Q E B F X N T hk hdp hun hret
  k_dflt (refine' wpAny_call (code_def (binds := [(Str.ofString "digits_of", Value.ref da)]) ?k1 ?k2 ?k3 ?k4 ?k5 ?kA ?kF ?kK ?k6 ?k7 ?k8 ?k9 ?kB ?_ ?c2 ?c3 ?c4 ?c5); walk_at "my enter")
  walk_at "my walk"
  walk_at "my for"
  walk1
  rename Fr _ _ _ _ => F0
  rename News _ _ _ _ => N0
  refine lst_loop (J1 led ds da) rfl (by assumption) (by assumption) (by k_mem) (by assumption) ?hj ?turn ?done
  case hj => exact ⟨rfl, _, [_], _, rfl, .head _, Nat.le_refl _, (fun v hv => ⟨_, [], [], 0, List.mem_singleton.mp hv, .tail _ (.head _), .nil, .nil⟩), fun p hp => .tail _ (.tail _ hp)⟩
  case turn =>
    intro i v m₁ news₁ h tk I o hv hJ hne hlI F1 N1
    refine post_gen fun P1 hP1 => ?_
    obtain ⟨d, t, rfl, hd⟩ := IntsAre.at' hi hv
    obtain ⟨hm1, R, rs, k1, hm2, hR, hlen, hrows, hled⟩ := hJ
    walk_at "my walk"
    walk_at "my for"
    walk1
    refine' mid_loop ds da d t i [(I, o)] ((da, W.listOf vs.toArray k) :: news₁) none 2 0 rfl ?kF ?kA ?kl ?kN ?hj2 ?turn2 ?done2
    case kN => assumption
    case kF => assumption
    case kA => assumption
    case kl => exact .tail _ (.tail _ (.tail _ hR))
    case hj2 => exact ⟨hm1, rfl, rfl, (fun _ e => nomatch e), [], 0, (da, W.listOf vs.toArray k) :: news₁, rfl, allLt_ne (by walk_at "my lt"), (fun p hp q hq => by rw [List.mem_singleton.mp hq]; rcases List.mem_cons.mp hp with rfl | hp; exact hlI; exact hne p hp), fun p hp => hp, Nat.le_refl _, fun v hv => nomatch hv⟩
    case turn2 =>
      intro j v2 m₂ news₂ h2 tk2 I2 o2 hv2 hJ2 hne2 hlI2 F2 N2
      refine post_gen fun P2 hP2 => ?_
      obtain ⟨ha1, ha2, ha3, ha4, ms, k2, rest2, rfl, hb1, hbk, hb2, hb3, hb4⟩ := hJ2
      obtain ⟨a, vs', bs, k3, rfl, hra, hib, hfb⟩ := hrows v2 (List.mem_of_getElem? hv2)
      simp only [List.cons_append, List.nil_append] at N2 hne2
      have hi6 : i < 6 := by
        rcases Nat.lt_or_ge i ds.length with h1 | h1
        · omega
        · rw [List.getElem?_eq_none h1] at hd; cases hd
      have h64 : 2 ^ i ≤ 64 := Nat.pow_le_pow_right (by decide) (by omega : i ≤ 6)
      have hj64 : j < rs.length := by
        rcases Nat.lt_or_ge j rs.length with h1 | h1
        · exact h1
        · rw [List.getElem?_eq_none h1] at hv2; cases hv2
      have hRM := neN (hb1 _ (hb2 _ (.tail _ hR)))
      have hI2 := neN (hne2 _ (.head _))
      have hII2 := neN (hne2 _ (.tail _ (.head _)))
      dsimp only at hI2 hII2 hRM
      rcases Int.lt_or_le d 2 with hd2 | hd2
      all_goals (
        walk_at "my walk"
        walk_at "my for"
        walk_at "my walk"
        refine' mid_loop ds da d t i [(I2, o2), (I, o)] rest2 (some (.ref a)) 1 (0 + 2 * j) rfl ?kF ?kA ?kl ?kN ?hj3 ?turn3 ?done3
        case kA => assumption
        case kF => assumption
        case kl => exact .head _
        case kN => exact news_pk (by assumption)
        case hj3 => exact ⟨ha1, ha2, ha3, (fun v e => by cases e; rfl), ms, k2, rest2, rfl, hb1, (fun p hp q hq => by rcases List.mem_cons.mp hq with rfl | hq; exact hne2 p (.tail _ (.tail _ hp)); exact hbk p hp q hq), fun p hp => hp, hb3, hb4⟩
        case turn3 =>
          intro q v3 m₃ news₃ h3 tk3 I3 o3 hv3 hJ3 hne3 hlI3 F3 N3
          refine post_gen fun P3 hP3 => ?_
          obtain ⟨hc1, hc2, hc3, hc4, ms3, k4, rest3, rfl, hd1, hdk, hdr, hd3, hd4⟩ := hJ3
          have hbit : ∃ b t', v3 = .int b t' ∧ FillB d b := by first | exact bit_one hd2 (hb d (List.mem_of_getElem? hd)).1 hv3 | exact bit_two hd2 hv3
          obtain ⟨b, t', rfl, hfb3⟩ := hbit
          have hrow := hc4 _ rfl
          have hq2 : q ≤ 2 := by
            rcases Nat.lt_or_ge q 2 with h1 | h1
            · omega
            · rw [List.getElem?_eq_none (by simp; omega)] at hv3; cases hv3
          have hra3 := hdr _ (hb2 _ (.tail _ hra))
          simp only [List.cons_append, List.nil_append] at N3 hne3
          have hvl : vs'.length ≤ 6 := by rw [hib.length, hfb.length, List.length_take]; omega
          have hI3 := neN (hne3 _ (.head _))
          dsimp only at hI3
          walk_at "my steps"
          refine hP3 _ _ ?_
          exact mid_next (by assumption) (by assumption) (by exact hc1) (by exact hc2) (by exact hc3) (by exact hc4) hd1 hdk hdr hd3 hd4 hne3 hib hfb hfb3 (by refine neN ?_; omega) (by refine neN ?_; omega) (by refine neN ?_; omega) (by refine neN ?_; omega) (by refine neN ?_; omega) (by refine neN ?_; omega) (by refine neN ?_; omega) (by refine neN ?_; omega)
        case done3 =>
          intro m₃ news₃ h3 tk3 hJ3 F3 N3
          obtain ⟨hc1, hc2, hc3, hc4, ms3, k4, rest3, rfl, hd1, hdk, hdr, hd3, hd4⟩ := hJ3
          walk_at "my walk"
          refine hP2 _ _ ?_
          exact mid_done (by assumption) (by assumption) hc1 hc2 hc3 hd1 hdk hdr hb2 hd3 (by simp; omega) hd4 (hb2 _ (.tail _ hR)) hI2 hII2)
    case done2 =>
      intro m₂ news₂ h2 tk2 hJ2 F2 N2
      obtain ⟨ha1, ha2, ha3, ha4, ms, k2, rest2, rfl, hb1, hbk, hb2, hb3, hb4⟩ := hJ2
      walk_at "my walk"
      refine hP1 _ _ ?_
      exact out_done (by assumption) (by assumption) (by exact ha1) (by exact rfl) hd hled hbk hb2 hb3 (by rw [Nat.pow_succ]; omega) hb4 (by refine neN ?_; omega)
  case done =>
    intro m₁ news₁ h tk hJ F1 N1
    obtain ⟨hm1, R, rs, k1, hm2, hR, hlen, hrows, hled⟩ := hJ
    walk_at "my steps"
    have e : vs.length = ds.length := hi.length
    rw [e, List.take_length] at hrows
    exact hret _ _ _ _ _ _ (by assumption) (by assumption) hled hR hrows

noncomputable def bt (n i : Int) : Int := (n.fdiv (2 ^ i.toNat)).fmod 2
theorem lcF_bt (a b i : Int) : lcF a b i = bt a i + bt b i * 2 := rfl
/-- one told bit against the whole number's -/
noncomputable def OkC (u c : Int) (due : Option Int) (i : Int) : Prop := match due with
  | none => u = 0 → c = 3
  | some d => (c < 2 → c = bt d i) ∧ (u = 0 → c ≤ 1)
theorem OkC.three {u i : Int} {due : Option Int} (hu : u ≠ 0 ∨ due = none) : OkC u 3 due i := by
  cases due with
  | none => exact fun _ => rfl
  | some d => exact ⟨fun h => absurd h (by decide), fun h => by rcases hu with hu | hu; exact absurd h hu; cases hu⟩
noncomputable def ckN (c : Int) (due : Option Int) (i : Int) : Bool := match due with
  | none => c == 3
  | some d => c == bt d i && decide (c ≤ 1)
theorem OkC.known {u c i : Int} {due : Option Int} (h : ckN c due i = true) : OkC u c due i := by
  cases due with
  | none => exact fun _ => by simpa [ckN] using h
  | some d =>
    simp only [ckN, Bool.and_eq_true, beq_iff_eq, decide_eq_true_eq] at h
    exact ⟨fun _ => h.1, fun _ => h.2⟩
noncomputable def ckU (k : Bool) (c d i : Int) : Bool := (decide (2 ≤ c) || c == bt d i) && (!k || decide (c ≤ 1))
theorem OkC.both {u c d i : Int} {k : Bool} (h : ckU k c d i = true) (hk : u = 0 → k = true) : OkC u c (some d) i := by
  simp only [ckU, Bool.and_eq_true, Bool.or_eq_true, Bool.not_eq_true', beq_iff_eq, decide_eq_true_eq] at h
  refine ⟨fun h2 => h.1.resolve_left (by omega), fun hu => h.2.resolve_left (by rw [hk hu]; decide)⟩
noncomputable def pd : List (Int × Int) := [(0, 0), (1, 1), (2, 0), (2, 1), (3, 0), (3, 1)]
noncomputable def VP : Nat → List (List Int × List Int)
  | 0 => [([], [])]
  | n + 1 => pd.flatMap fun p => (VP n).map fun q => (p.1 :: q.1, p.2 :: q.2)
theorem pd_mem {d b : Int} (h : FillB d b) (h0 : 0 ≤ d) (h4 : d < 4) : (d, b) ∈ pd := by
  obtain ⟨hb, hd⟩ := h
  rcases (by omega : d = 0 ∨ d = 1 ∨ d = 2 ∨ d = 3) with h | h | h | h <;> subst h
  · rw [hd (by decide)]; decide
  · rw [hd (by decide)]; decide
  · rcases hb with h | h <;> subst h <;> decide
  · rcases hb with h | h <;> subst h <;> decide
theorem VP_mem {ds bs : List Int} (h : FillR ds bs) (hd : ∀ d ∈ ds, 0 ≤ d ∧ d < 4) : (ds, bs) ∈ VP ds.length := by
  induction h with
  | nil => exact List.mem_singleton.mpr rfl
  | @cons d b ds bs h1 _ ih =>
    have h2 := hd d (by simp)
    refine List.mem_flatMap.mpr ⟨(d, b), pd_mem h1 h2.1 h2.2, List.mem_map.mpr ⟨(ds, bs), ih fun e he => hd e (List.mem_cons_of_mem _ he), rfl⟩⟩
noncomputable def chkV (P : List Int → List Int → Bool) : Bool := ((VP 1).all fun q => P q.1 q.2) && ((VP 2).all fun q => P q.1 q.2) && ((VP 3).all fun q => P q.1 q.2)
theorem len3 {n : Nat} (h1 : 1 ≤ n) (h3 : n ≤ 3) : n = 1 ∨ n = 2 ∨ n = 3 := by omega
theorem chkV_use {P : List Int → List Int → Bool} (h : chkV P = true) {ds bs : List Int} (hf : FillR ds bs) (hd : ∀ d ∈ ds, 0 ≤ d ∧ d < 4) (h1 : 1 ≤ ds.length) (h3 : ds.length ≤ 3) : P ds bs = true := by
  simp only [chkV, Bool.and_eq_true] at h
  have hm := VP_mem hf hd
  rcases len3 h1 h3 with e | e | e <;> rw [e] at hm
  · exact List.all_eq_true.mp h.1.1 _ hm
  · exact List.all_eq_true.mp h.1.2 _ hm
  · exact List.all_eq_true.mp h.2 _ hm
noncomputable def DV : Nat → List (List Int)
  | 0 => [[]]
  | n + 1 => [0, 1, 2, 3].flatMap fun p => (DV n).map fun q => p :: q
noncomputable def BV : Nat → List (List Int)
  | 0 => [[]]
  | n + 1 => [0, 1].flatMap fun p => (BV n).map fun q => p :: q
theorem DV_mem {ds : List Int} (hd : ∀ d ∈ ds, 0 ≤ d ∧ d < 4) : ds ∈ DV ds.length := by
  induction ds with
  | nil => exact List.mem_singleton.mpr rfl
  | cons d ds ih =>
    have h2 := hd d (by simp)
    exact List.mem_flatMap.mpr ⟨d, by simp; omega, List.mem_map.mpr ⟨ds, ih fun e he => hd e (List.mem_cons_of_mem _ he), rfl⟩⟩
theorem BV_mem {ds : List Int} (hd : ∀ d ∈ ds, 0 ≤ d ∧ d < 2) : ds ∈ BV ds.length := by
  induction ds with
  | nil => exact List.mem_singleton.mpr rfl
  | cons d ds ih =>
    have h2 := hd d (by simp)
    exact List.mem_flatMap.mpr ⟨d, by simp; omega, List.mem_map.mpr ⟨ds, ih fun e he => hd e (List.mem_cons_of_mem _ he), rfl⟩⟩
noncomputable def chkB (P : List Int → Bool) : Bool := (BV 1).all P && (BV 2).all P && (BV 3).all P
theorem chkB_use {P : List Int → Bool} (h : chkB P = true) {bs : List Int} (hb : ∀ d ∈ bs, 0 ≤ d ∧ d < 2) (h1 : 1 ≤ bs.length) (h3 : bs.length ≤ 3) : P bs = true := by
  simp only [chkB, Bool.and_eq_true] at h
  have hm := BV_mem hb
  rcases len3 h1 h3 with e | e | e <;> rw [e] at hm
  · exact List.all_eq_true.mp h.1.1 _ hm
  · exact List.all_eq_true.mp h.1.2 _ hm
  · exact List.all_eq_true.mp h.2 _ hm
noncomputable def chkD (P : List Int → Bool) : Bool := (DV 1).all P && (DV 2).all P && (DV 3).all P
theorem chkD_use {P : List Int → Bool} (h : chkD P = true) {bs : List Int} (hb : ∀ d ∈ bs, 0 ≤ d ∧ d < 4) (h1 : 1 ≤ bs.length) (h3 : bs.length ≤ 3) : P bs = true := by
  simp only [chkD, Bool.and_eq_true] at h
  have hm := DV_mem hb
  rcases len3 h1 h3 with e | e | e <;> rw [e] at hm
  · exact List.all_eq_true.mp h.1.1 _ hm
  · exact List.all_eq_true.mp h.1.2 _ hm
  · exact List.all_eq_true.mp h.2 _ hm
noncomputable def chkBB (P : List Int → List Int → Bool) : Bool := ((BV 1).all fun p => (BV 1).all fun q => P p q) && ((BV 2).all fun p => (BV 2).all fun q => P p q) && ((BV 3).all fun p => (BV 3).all fun q => P p q)
theorem chkBB_use {P : List Int → List Int → Bool} (h : chkBB P = true) {bs cs : List Int} (hb : ∀ d ∈ bs, 0 ≤ d ∧ d < 2) (hc : ∀ d ∈ cs, 0 ≤ d ∧ d < 2) (hl : cs.length = bs.length) (h1 : 1 ≤ bs.length) (h3 : bs.length ≤ 3) : P bs cs = true := by
  simp only [chkBB, Bool.and_eq_true] at h
  have hm := BV_mem hb
  have hm2 := BV_mem hc
  rw [hl] at hm2
  rcases len3 h1 h3 with e | e | e <;> rw [e] at hm hm2
  · exact List.all_eq_true.mp (List.all_eq_true.mp h.1.1 _ hm) _ hm2
  · exact List.all_eq_true.mp (List.all_eq_true.mp h.1.2 _ hm) _ hm2
  · exact List.all_eq_true.mp (List.all_eq_true.mp h.2 _ hm) _ hm2
noncomputable def chkDB (P : List Int → List Int → Bool) : Bool := ((DV 1).all fun p => (BV 1).all fun q => P p q) && ((DV 2).all fun p => (BV 2).all fun q => P p q) && ((DV 3).all fun p => (BV 3).all fun q => P p q)
theorem chkDB_use {P : List Int → List Int → Bool} (h : chkDB P = true) {bs cs : List Int} (hb : ∀ d ∈ bs, 0 ≤ d ∧ d < 4) (hc : ∀ d ∈ cs, 0 ≤ d ∧ d < 2) (hl : cs.length = bs.length) (h1 : 1 ≤ bs.length) (h3 : bs.length ≤ 3) : P bs cs = true := by
  simp only [chkDB, Bool.and_eq_true] at h
  have hm := DV_mem hb
  have hm2 := BV_mem hc
  rw [hl] at hm2
  rcases len3 h1 h3 with e | e | e <;> rw [e] at hm hm2
  · exact List.all_eq_true.mp (List.all_eq_true.mp h.1.1 _ hm) _ hm2
  · exact List.all_eq_true.mp (List.all_eq_true.mp h.1.2 _ hm) _ hm2
  · exact List.all_eq_true.mp (List.all_eq_true.mp h.2 _ hm) _ hm2
noncomputable def i3 (x : Int) : List Int := ([0, 1, 2] : List Int).filter fun i => decide (i < x)
theorem i3_mem {i x : Int} (h0 : 0 ≤ i) (hx : i < x) (x3 : x ≤ 3) : i ∈ i3 x := by
  simp only [i3, List.mem_filter, List.mem_cons, List.not_mem_nil, or_false, decide_eq_true_eq]
  omega
/-- what holds of a digits' list and one filling -/
structure Good (u : Int) (ds bs : List Int) : Prop where
  fill : FillR ds bs
  dig : ∀ d ∈ ds, 0 ≤ d ∧ d < 4
  one : 1 ≤ ds.length
  three : ds.length ≤ 3
  known : u = 0 → ∀ d ∈ ds, d < 2
theorem lohi : chkD (fun ds => decide (0 ≤ loF ds) && decide (loF ds < 8) && decide (0 ≤ hiF ds) && decide (hiF ds < 8)) = true := by decide +kernel
theorem lohi_of {ds : List Int} (hd : ∀ d ∈ ds, 0 ≤ d ∧ d < 4) (h1 : 1 ≤ ds.length) (h3 : ds.length ≤ 3) : 0 ≤ loF ds ∧ loF ds < 8 ∧ 0 ≤ hiF ds ∧ hiF ds < 8 := by
  have h := chkD_use lohi hd h1 h3
  simp only [Bool.and_eq_true, decide_eq_true_eq] at h
  exact ⟨h.1.1.1, h.1.1.2, h.1.2, h.2⟩
theorem Good.hi0 {u : Int} {ds bs : List Int} (G : Good u ds bs) (hu : u = 0) : hiF ds = 0 := by
  have hk := G.known hu
  have hd := G.dig
  clear G
  induction ds with
  | nil => rfl
  | cons d r ih =>
    have h1 := hk d (by simp)
    have h2 := hd d (by simp)
    have h3 := ih (fun e he => hk e (List.mem_cons_of_mem _ he)) (fun e he => hd e (List.mem_cons_of_mem _ he))
    simp only [hiF, h3]
    rcases (by omega : d = 0 ∨ d = 1) with h | h <;> subst h <;> decide
theorem kn_ck : chkV (fun ds bs => !(hiF ds == 0) || (ds == bs)) = true := by decide +kernel
theorem Good.eq {u : Int} {ds bs : List Int} (G : Good u ds bs) (h : hiF ds = 0) : ds = bs := by
  have k := chkV_use kn_ck G.fill G.dig G.one G.three
  simpa [h] using k
theorem Good.len {u : Int} {ds bs : List Int} (G : Good u ds bs) : bs.length = ds.length := G.fill.length
theorem Good.bits {u : Int} {ds bs : List Int} (G : Good u ds bs) : ∀ b ∈ bs, 0 ≤ b ∧ b < 2 := G.fill.bits
theorem mask_three {x i : Int} (h0 : 0 ≤ i) (hx : i < x) (x3 : x ≤ 3) : lcF (maskF x) (maskF x) i = 3 := by
  have k : ∀ x ∈ ([1, 2, 3] : List Int), ∀ i ∈ i3 x, lcF (maskF x) (maskF x) i = 3 := by decide +kernel
  exact k x (by simp; omega) i (i3_mem h0 hx x3)

theorem kn1 : chkBB (fun ds es => [true, false].all fun sg => (i3 (ds.length : Int)).all fun i => ckN (lcF (arA (ds.length : Int) (hiF ds) (hiF es) ((loF ds) + (loF es))) (arB (ds.length : Int) (hiF ds) (hiF es)) i) (some ((whF ds sg) + (whF es sg))) i) = true := by decide +kernel
theorem ok1 {u i : Int} {ds es bs cs : List Int} {sg : Bool} (G : Good u ds bs) (H : Good u es cs) (hl : es.length = ds.length) (h0 : 0 ≤ i) (hx : i < (ds.length : Int)) : OkC u (lcF (arA (ds.length : Int) (hiF ds) (hiF es) ((loF ds) + (loF es))) (arB (ds.length : Int) (hiF ds) (hiF es)) i) (some ((whF bs sg) + (whF cs sg))) i := by
  by_cases hk : hiF ds = 0 ∧ hiF es = 0
  · have e1 := G.eq hk.1
    have e2 := H.eq hk.2
    have hb := G.bits
    have hc := H.bits
    subst e1 e2
    have k := chkBB_use kn1 hb hc hl G.one G.three
    simp only [List.all_eq_true] at k
    exact .known (k sg (by cases sg <;> decide) i (i3_mem h0 hx (by have := G.three; omega)))
  · simp only [arA, arB, cmpA, cmpB, if_neg hk]
    rw [mask_three h0 hx (by have := G.three; omega)]
    exact .three (.inl fun hu => hk ⟨G.hi0 hu, H.hi0 hu⟩)

theorem kn2 : chkBB (fun ds es => [true, false].all fun sg => (i3 (ds.length : Int)).all fun i => ckN (lcF (arA (ds.length : Int) (hiF ds) (hiF es) ((loF ds) - (loF es))) (arB (ds.length : Int) (hiF ds) (hiF es)) i) (some ((whF ds sg) - (whF es sg))) i) = true := by decide +kernel
theorem ok2 {u i : Int} {ds es bs cs : List Int} {sg : Bool} (G : Good u ds bs) (H : Good u es cs) (hl : es.length = ds.length) (h0 : 0 ≤ i) (hx : i < (ds.length : Int)) : OkC u (lcF (arA (ds.length : Int) (hiF ds) (hiF es) ((loF ds) - (loF es))) (arB (ds.length : Int) (hiF ds) (hiF es)) i) (some ((whF bs sg) - (whF cs sg))) i := by
  by_cases hk : hiF ds = 0 ∧ hiF es = 0
  · have e1 := G.eq hk.1
    have e2 := H.eq hk.2
    have hb := G.bits
    have hc := H.bits
    subst e1 e2
    have k := chkBB_use kn2 hb hc hl G.one G.three
    simp only [List.all_eq_true] at k
    exact .known (k sg (by cases sg <;> decide) i (i3_mem h0 hx (by have := G.three; omega)))
  · simp only [arA, arB, cmpA, cmpB, if_neg hk]
    rw [mask_three h0 hx (by have := G.three; omega)]
    exact .three (.inl fun hu => hk ⟨G.hi0 hu, H.hi0 hu⟩)

theorem kn3 : chkBB (fun ds es => [true, false].all fun sg => (i3 (ds.length : Int)).all fun i => ckN (lcF (arA (ds.length : Int) (hiF ds) (hiF es) ((loF ds) * (loF es))) (arB (ds.length : Int) (hiF ds) (hiF es)) i) (some ((whF ds sg) * (whF es sg))) i) = true := by decide +kernel
theorem ok3 {u i : Int} {ds es bs cs : List Int} {sg : Bool} (G : Good u ds bs) (H : Good u es cs) (hl : es.length = ds.length) (h0 : 0 ≤ i) (hx : i < (ds.length : Int)) : OkC u (lcF (arA (ds.length : Int) (hiF ds) (hiF es) ((loF ds) * (loF es))) (arB (ds.length : Int) (hiF ds) (hiF es)) i) (some ((whF bs sg) * (whF cs sg))) i := by
  by_cases hk : hiF ds = 0 ∧ hiF es = 0
  · have e1 := G.eq hk.1
    have e2 := H.eq hk.2
    have hb := G.bits
    have hc := H.bits
    subst e1 e2
    have k := chkBB_use kn3 hb hc hl G.one G.three
    simp only [List.all_eq_true] at k
    exact .known (k sg (by cases sg <;> decide) i (i3_mem h0 hx (by have := G.three; omega)))
  · simp only [arA, arB, cmpA, cmpB, if_neg hk]
    rw [mask_three h0 hx (by have := G.three; omega)]
    exact .three (.inl fun hu => hk ⟨G.hi0 hu, H.hi0 hu⟩)

theorem kn4 : chkBB (fun ds es => [true, false].all fun sg => (i3 (ds.length : Int)).all fun i => ckN (lcF (dvA (ds.length : Int) (hiF ds) (hiF es) (toIntF (ds.length : Int) (loF es) sg) (quotF (toIntF (ds.length : Int) (loF ds) sg) (toIntF (ds.length : Int) (loF es) sg))) (dvB (ds.length : Int) (hiF ds) (hiF es) (toIntF (ds.length : Int) (loF es) sg)) i) ((if whF es sg = 0 then none else some (quotL (whF ds sg) (whF es sg)))) i) = true := by decide +kernel
theorem ok4 {u i : Int} {ds es bs cs : List Int} {sg : Bool} (G : Good u ds bs) (H : Good u es cs) (hl : es.length = ds.length) (h0 : 0 ≤ i) (hx : i < (ds.length : Int)) : OkC u (lcF (dvA (ds.length : Int) (hiF ds) (hiF es) (toIntF (ds.length : Int) (loF es) sg) (quotF (toIntF (ds.length : Int) (loF ds) sg) (toIntF (ds.length : Int) (loF es) sg))) (dvB (ds.length : Int) (hiF ds) (hiF es) (toIntF (ds.length : Int) (loF es) sg)) i) ((if whF cs sg = 0 then none else some (quotL (whF bs sg) (whF cs sg)))) i := by
  by_cases hk : hiF ds = 0 ∧ hiF es = 0
  · have e1 := G.eq hk.1
    have e2 := H.eq hk.2
    have hb := G.bits
    have hc := H.bits
    subst e1 e2
    have k := chkBB_use kn4 hb hc hl G.one G.three
    simp only [List.all_eq_true] at k
    exact .known (k sg (by cases sg <;> decide) i (i3_mem h0 hx (by have := G.three; omega)))
  · have hk2 : ¬ (hiF ds = 0 ∧ hiF es = 0 ∧ toIntF (ds.length : Int) (loF es) sg ≠ 0) := fun h => hk ⟨h.1, h.2.1⟩
    simp only [dvA, dvB, if_neg hk2]
    rw [mask_three h0 hx (by have := G.three; omega)]
    exact .three (.inl fun hu => hk ⟨G.hi0 hu, H.hi0 hu⟩)

theorem kn5 : chkBB (fun ds es => [true, false].all fun sg => (i3 (ds.length : Int)).all fun i => ckN (lcF (dvA (ds.length : Int) (hiF ds) (hiF es) (toIntF (ds.length : Int) (loF es) sg) (toIntF (ds.length : Int) (loF ds) sg - toIntF (ds.length : Int) (loF es) sg * quotF (toIntF (ds.length : Int) (loF ds) sg) (toIntF (ds.length : Int) (loF es) sg))) (dvB (ds.length : Int) (hiF ds) (hiF es) (toIntF (ds.length : Int) (loF es) sg)) i) ((if whF es sg = 0 then none else some (whF ds sg - whF es sg * quotL (whF ds sg) (whF es sg)))) i) = true := by decide +kernel
theorem ok5 {u i : Int} {ds es bs cs : List Int} {sg : Bool} (G : Good u ds bs) (H : Good u es cs) (hl : es.length = ds.length) (h0 : 0 ≤ i) (hx : i < (ds.length : Int)) : OkC u (lcF (dvA (ds.length : Int) (hiF ds) (hiF es) (toIntF (ds.length : Int) (loF es) sg) (toIntF (ds.length : Int) (loF ds) sg - toIntF (ds.length : Int) (loF es) sg * quotF (toIntF (ds.length : Int) (loF ds) sg) (toIntF (ds.length : Int) (loF es) sg))) (dvB (ds.length : Int) (hiF ds) (hiF es) (toIntF (ds.length : Int) (loF es) sg)) i) ((if whF cs sg = 0 then none else some (whF bs sg - whF cs sg * quotL (whF bs sg) (whF cs sg)))) i := by
  by_cases hk : hiF ds = 0 ∧ hiF es = 0
  · have e1 := G.eq hk.1
    have e2 := H.eq hk.2
    have hb := G.bits
    have hc := H.bits
    subst e1 e2
    have k := chkBB_use kn5 hb hc hl G.one G.three
    simp only [List.all_eq_true] at k
    exact .known (k sg (by cases sg <;> decide) i (i3_mem h0 hx (by have := G.three; omega)))
  · have hk2 : ¬ (hiF ds = 0 ∧ hiF es = 0 ∧ toIntF (ds.length : Int) (loF es) sg ≠ 0) := fun h => hk ⟨h.1, h.2.1⟩
    simp only [dvA, dvB, if_neg hk2]
    rw [mask_three h0 hx (by have := G.three; omega)]
    exact .three (.inl fun hu => hk ⟨G.hi0 hu, H.hi0 hu⟩)

theorem kn10 : chkBB (fun ds es => [true, false].all fun sg => (i3 1).all fun i => ckN (lcF (cmpA (hiF ds) (hiF es) (if ordF (toIntF (ds.length : Int) (loF ds) sg) (toIntF (ds.length : Int) (loF es) sg) < 0 then 1 else 0)) (cmpB (hiF ds) (hiF es)) i) (some (if (whF ds sg) < (whF es sg) then 1 else 0)) i) = true := by decide +kernel
theorem ok10 {u i : Int} {ds es bs cs : List Int} {sg : Bool} (G : Good u ds bs) (H : Good u es cs) (hl : es.length = ds.length) (h0 : 0 ≤ i) (hx : i < 1) : OkC u (lcF (cmpA (hiF ds) (hiF es) (if ordF (toIntF (ds.length : Int) (loF ds) sg) (toIntF (ds.length : Int) (loF es) sg) < 0 then 1 else 0)) (cmpB (hiF ds) (hiF es)) i) (some (if (whF bs sg) < (whF cs sg) then 1 else 0)) i := by
  by_cases hk : hiF ds = 0 ∧ hiF es = 0
  · have e1 := G.eq hk.1
    have e2 := H.eq hk.2
    have hb := G.bits
    have hc := H.bits
    subst e1 e2
    have k := chkBB_use kn10 hb hc hl G.one G.three
    simp only [List.all_eq_true] at k
    exact .known (k sg (by cases sg <;> decide) i (i3_mem h0 hx (by have := G.three; omega)))
  · simp only [arA, arB, cmpA, cmpB, if_neg hk]
    rw [mask_three h0 hx (by have := G.three; omega)]
    exact .three (.inl fun hu => hk ⟨G.hi0 hu, H.hi0 hu⟩)

theorem kn11 : chkBB (fun ds es => [true, false].all fun sg => (i3 1).all fun i => ckN (lcF (cmpA (hiF ds) (hiF es) (if ordF (toIntF (ds.length : Int) (loF ds) sg) (toIntF (ds.length : Int) (loF es) sg) ≤ 0 then 1 else 0)) (cmpB (hiF ds) (hiF es)) i) (some (if (whF ds sg) ≤ (whF es sg) then 1 else 0)) i) = true := by decide +kernel
theorem ok11 {u i : Int} {ds es bs cs : List Int} {sg : Bool} (G : Good u ds bs) (H : Good u es cs) (hl : es.length = ds.length) (h0 : 0 ≤ i) (hx : i < 1) : OkC u (lcF (cmpA (hiF ds) (hiF es) (if ordF (toIntF (ds.length : Int) (loF ds) sg) (toIntF (ds.length : Int) (loF es) sg) ≤ 0 then 1 else 0)) (cmpB (hiF ds) (hiF es)) i) (some (if (whF bs sg) ≤ (whF cs sg) then 1 else 0)) i := by
  by_cases hk : hiF ds = 0 ∧ hiF es = 0
  · have e1 := G.eq hk.1
    have e2 := H.eq hk.2
    have hb := G.bits
    have hc := H.bits
    subst e1 e2
    have k := chkBB_use kn11 hb hc hl G.one G.three
    simp only [List.all_eq_true] at k
    exact .known (k sg (by cases sg <;> decide) i (i3_mem h0 hx (by have := G.three; omega)))
  · simp only [arA, arB, cmpA, cmpB, if_neg hk]
    rw [mask_three h0 hx (by have := G.three; omega)]
    exact .three (.inl fun hu => hk ⟨G.hi0 hu, H.hi0 hu⟩)

theorem kn12 : chkBB (fun ds es => [true, false].all fun sg => (i3 1).all fun i => ckN (lcF (cmpA (hiF ds) (hiF es) (if ordF (toIntF (ds.length : Int) (loF es) sg) (toIntF (ds.length : Int) (loF ds) sg) < 0 then 1 else 0)) (cmpB (hiF ds) (hiF es)) i) (some (if (whF es sg) < (whF ds sg) then 1 else 0)) i) = true := by decide +kernel
theorem ok12 {u i : Int} {ds es bs cs : List Int} {sg : Bool} (G : Good u ds bs) (H : Good u es cs) (hl : es.length = ds.length) (h0 : 0 ≤ i) (hx : i < 1) : OkC u (lcF (cmpA (hiF ds) (hiF es) (if ordF (toIntF (ds.length : Int) (loF es) sg) (toIntF (ds.length : Int) (loF ds) sg) < 0 then 1 else 0)) (cmpB (hiF ds) (hiF es)) i) (some (if (whF cs sg) < (whF bs sg) then 1 else 0)) i := by
  by_cases hk : hiF ds = 0 ∧ hiF es = 0
  · have e1 := G.eq hk.1
    have e2 := H.eq hk.2
    have hb := G.bits
    have hc := H.bits
    subst e1 e2
    have k := chkBB_use kn12 hb hc hl G.one G.three
    simp only [List.all_eq_true] at k
    exact .known (k sg (by cases sg <;> decide) i (i3_mem h0 hx (by have := G.three; omega)))
  · simp only [arA, arB, cmpA, cmpB, if_neg hk]
    rw [mask_three h0 hx (by have := G.three; omega)]
    exact .three (.inl fun hu => hk ⟨G.hi0 hu, H.hi0 hu⟩)

theorem kn13 : chkBB (fun ds es => [true, false].all fun sg => (i3 1).all fun i => ckN (lcF (cmpA (hiF ds) (hiF es) (if ordF (toIntF (ds.length : Int) (loF es) sg) (toIntF (ds.length : Int) (loF ds) sg) ≤ 0 then 1 else 0)) (cmpB (hiF ds) (hiF es)) i) (some (if (whF es sg) ≤ (whF ds sg) then 1 else 0)) i) = true := by decide +kernel
theorem ok13 {u i : Int} {ds es bs cs : List Int} {sg : Bool} (G : Good u ds bs) (H : Good u es cs) (hl : es.length = ds.length) (h0 : 0 ≤ i) (hx : i < 1) : OkC u (lcF (cmpA (hiF ds) (hiF es) (if ordF (toIntF (ds.length : Int) (loF es) sg) (toIntF (ds.length : Int) (loF ds) sg) ≤ 0 then 1 else 0)) (cmpB (hiF ds) (hiF es)) i) (some (if (whF cs sg) ≤ (whF bs sg) then 1 else 0)) i := by
  by_cases hk : hiF ds = 0 ∧ hiF es = 0
  · have e1 := G.eq hk.1
    have e2 := H.eq hk.2
    have hb := G.bits
    have hc := H.bits
    subst e1 e2
    have k := chkBB_use kn13 hb hc hl G.one G.three
    simp only [List.all_eq_true] at k
    exact .known (k sg (by cases sg <;> decide) i (i3_mem h0 hx (by have := G.three; omega)))
  · simp only [arA, arB, cmpA, cmpB, if_neg hk]
    rw [mask_three h0 hx (by have := G.three; omega)]
    exact .three (.inl fun hu => hk ⟨G.hi0 hu, H.hi0 hu⟩)

theorem at_ck : chkV (fun ds bs => (i3 ds.length).all fun i => (pd.any fun p => ds.getD i.toNat 0 == p.1 && bs.getD i.toNat 0 == p.2)) = true := by decide +kernel
theorem Good.at {u : Int} {ds bs : List Int} (G : Good u ds bs) {i : Int} (h0 : 0 ≤ i) (hx : i < (ds.length : Int)) : (ds.getD i.toNat 0, bs.getD i.toNat 0) ∈ pd := by
  have k := chkV_use at_ck G.fill G.dig G.one G.three
  simp only [List.all_eq_true] at k
  have k2 := k i (i3_mem h0 hx (by have := G.three; omega))
  simp only [List.any_eq_true, Bool.and_eq_true, beq_iff_eq] at k2
  obtain ⟨p, hp, e1, e2⟩ := k2
  rw [e1, e2]; exact hp
theorem Good.at2 {u : Int} {ds bs : List Int} (G : Good u ds bs) {i : Int} (h0 : 0 ≤ i) (hx : i < (ds.length : Int)) (hu : u = 0) : ds.getD i.toNat 0 < 2 := by
  have hi : i.toNat < ds.length := by omega
  rw [List.getD_eq_getElem?_getD, List.getElem?_eq_getElem hi]
  exact G.known hu _ (List.getElem_mem hi)
theorem lb_ck : chkD (fun ds => (i3 ds.length).all fun i => bt (loF ds) i == (ds.getD i.toNat 0).fmod 2 && bt (hiF ds) i == (ds.getD i.toNat 0).fdiv 2) = true := by decide +kernel
theorem Good.lb {u : Int} {ds bs : List Int} (G : Good u ds bs) {i : Int} (h0 : 0 ≤ i) (hx : i < (ds.length : Int)) : bt (loF ds) i = (ds.getD i.toNat 0).fmod 2 ∧ bt (hiF ds) i = (ds.getD i.toNat 0).fdiv 2 := by
  have k := chkD_use lb_ck G.dig G.one G.three
  simp only [List.all_eq_true] at k
  have k2 := k i (i3_mem h0 hx (by have := G.three; omega))
  simpa only [Bool.and_eq_true, beq_iff_eq] using k2
theorem wb_ck : chkB (fun ds => [true, false].all fun sg => (i3 ds.length).all fun i => bt (whF ds sg) i == ds.getD i.toNat 0) = true := by decide +kernel
theorem Good.wb {u : Int} {ds bs : List Int} (G : Good u ds bs) (sg : Bool) {i : Int} (h0 : 0 ≤ i) (hx : i < (ds.length : Int)) : bt (whF bs sg) i = bs.getD i.toNat 0 := by
  have hl := G.len
  have k := chkB_use wb_ck G.bits (by have := G.one; omega) (by have := G.three; omega)
  simp only [List.all_eq_true] at k
  have k2 := k sg (by cases sg <;> decide) i (i3_mem h0 (by omega) (by have := G.three; omega))
  simpa only [beq_iff_eq] using k2
noncomputable def r8 : List Int := (List.range 8).map fun (n : Nat) => (n : Int)
noncomputable def r16 : List Int := (List.range 16).map fun (n : Nat) => (n : Int) - 8
theorem r8_mem {n : Int} (h0 : 0 ≤ n) (h8 : n < 8) : n ∈ r8 := List.mem_map.mpr ⟨n.toNat, List.mem_range.mpr (by omega), by omega⟩
theorem r16_mem {m : Int} (m0 : -8 ≤ m) (m8 : m < 8) : m ∈ r16 := List.mem_map.mpr ⟨(m + 8).toNat, List.mem_range.mpr (by omega), by omega⟩
theorem bt_ck : (r16.all fun m => r16.all fun n => [0, 1, 2].all fun i => bt (Builtin.bitAnd m n) i == bt m i * bt n i && bt (Builtin.bitOr m n) i == bt m i + bt n i - bt m i * bt n i && bt (Builtin.bitXor m n) i == bt m i + bt n i - 2 * (bt m i * bt n i) && bt (-1 - m) i == 1 - bt m i) = true := by decide +kernel
theorem rg_ck : (r8.all fun m => r8.all fun n => decide (0 ≤ Builtin.bitAnd m n) && decide (Builtin.bitAnd m n < 8) && decide (0 ≤ Builtin.bitOr m n) && decide (Builtin.bitOr m n < 8) && decide (0 ≤ Builtin.bitXor m n) && decide (Builtin.bitXor m n < 8)) = true := by decide +kernel
theorem rs_ck : (r16.all fun m => r16.all fun n => decide (-8 ≤ Builtin.bitXor m n) && decide (Builtin.bitXor m n < 8)) = true := by decide +kernel
theorem bt_all {m n i : Int} (m0 : -8 ≤ m) (m8 : m < 8) (n0 : -8 ≤ n) (n8 : n < 8) (h0 : 0 ≤ i) (h3 : i < 3) : bt (Builtin.bitAnd m n) i = bt m i * bt n i ∧ bt (Builtin.bitOr m n) i = bt m i + bt n i - bt m i * bt n i ∧ bt (Builtin.bitXor m n) i = bt m i + bt n i - 2 * (bt m i * bt n i) ∧ bt (-1 - m) i = 1 - bt m i := by
  have k := bt_ck
  simp only [List.all_eq_true] at k
  have k2 := k m (r16_mem m0 m8) n (r16_mem n0 n8) i (by simp only [List.mem_cons, List.not_mem_nil, or_false]; omega)
  simp only [Bool.and_eq_true, beq_iff_eq] at k2
  exact ⟨k2.1.1.1, k2.1.1.2, k2.1.2, k2.2⟩
/-- a number of three bits -/
structure R8 (m : Int) : Prop where
  lo : 0 ≤ m
  hi : m < 8
theorem R8.ops {m n : Int} (a : R8 m) (b : R8 n) : R8 (Builtin.bitAnd m n) ∧ R8 (Builtin.bitOr m n) ∧ R8 (Builtin.bitXor m n) := by
  have k := rg_ck
  simp only [List.all_eq_true] at k
  have k2 := k m (r8_mem a.lo a.hi) n (r8_mem b.lo b.hi)
  simp only [Bool.and_eq_true, decide_eq_true_eq] at k2
  exact ⟨⟨k2.1.1.1.1.1, k2.1.1.1.1.2⟩, ⟨k2.1.1.1.2, k2.1.1.2⟩, ⟨k2.1.2, k2.2⟩⟩
theorem R8.and {m n : Int} (a : R8 m) (b : R8 n) : R8 (Builtin.bitAnd m n) := (a.ops b).1
theorem R8.or {m n : Int} (a : R8 m) (b : R8 n) : R8 (Builtin.bitOr m n) := (a.ops b).2.1
theorem R8.xor {m n : Int} (a : R8 m) (b : R8 n) : R8 (Builtin.bitXor m n) := (a.ops b).2.2
theorem R8.bAnd {m n i : Int} (a : R8 m) (b : R8 n) (h0 : 0 ≤ i) (h3 : i < 3) : bt (Builtin.bitAnd m n) i = bt m i * bt n i := (bt_all (by have := a.lo; omega) a.hi (by have := b.lo; omega) b.hi h0 h3).1
theorem R8.bOr {m n i : Int} (a : R8 m) (b : R8 n) (h0 : 0 ≤ i) (h3 : i < 3) : bt (Builtin.bitOr m n) i = bt m i + bt n i - bt m i * bt n i := (bt_all (by have := a.lo; omega) a.hi (by have := b.lo; omega) b.hi h0 h3).2.1
theorem R8.bXor {m n i : Int} (a : R8 m) (b : R8 n) (h0 : 0 ≤ i) (h3 : i < 3) : bt (Builtin.bitXor m n) i = bt m i + bt n i - 2 * (bt m i * bt n i) := (bt_all (by have := a.lo; omega) a.hi (by have := b.lo; omega) b.hi h0 h3).2.2.1
theorem R8.mask {x : Int} (h1 : 1 ≤ x) (h3 : x ≤ 3) : R8 (maskF x) := by
  rcases (by omega : x = 1 ∨ x = 2 ∨ x = 3) with h | h | h <;> subst h <;> exact ⟨by decide, by decide⟩
theorem bt_mask {x i : Int} (h0 : 0 ≤ i) (hx : i < x) (x3 : x ≤ 3) : bt (maskF x) i = 1 := by
  have k : ∀ x ∈ ([1, 2, 3] : List Int), ∀ i ∈ i3 x, bt (maskF x) i = 1 := by decide +kernel
  exact k x (by simp; omega) i (i3_mem h0 hx x3)
theorem Good.rlo {u : Int} {ds bs : List Int} (G : Good u ds bs) : R8 (loF ds) := ⟨(lohi_of G.dig G.one G.three).1, (lohi_of G.dig G.one G.three).2.1⟩
theorem Good.rhi {u : Int} {ds bs : List Int} (G : Good u ds bs) : R8 (hiF ds) := ⟨(lohi_of G.dig G.one G.three).2.2.1, (lohi_of G.dig G.one G.three).2.2.2⟩
theorem bt_dueAnd {m n i : Int} (m0 : -8 ≤ m) (m8 : m < 8) (n0 : -8 ≤ n) (n8 : n < 8) (h0 : 0 ≤ i) (h3 : i < 3) : bt (-1 - Builtin.bitXor m n) i = 1 - (bt m i + bt n i - 2 * (bt m i * bt n i)) := by
  have k := rs_ck
  simp only [List.all_eq_true] at k
  have k2 := k m (r16_mem m0 m8) n (r16_mem n0 n8)
  simp only [Bool.and_eq_true, decide_eq_true_eq] at k2
  have h1 := (bt_all k2.1 k2.2 (by decide : (-8 : Int) ≤ 0) (by decide) h0 h3).2.2.2
  rw [h1, (bt_all m0 m8 n0 n8 h0 h3).2.2.1]
/-- one place of a bitwise operator: d, e digits; b, c bits -/
noncomputable def pdAll (F : Int → Int → Int) (D : Int → Int → Int) : Bool := pd.all fun p => pd.all fun q => (decide (2 ≤ F p.1 q.1) || F p.1 q.1 == D p.2 q.2) && (!(decide (p.1 < 2) && decide (q.1 < 2)) || decide (F p.1 q.1 ≤ 1))
theorem pdAll_use {F D : Int → Int → Int} (h : pdAll F D = true) {u i w : Int} {d e b c : Int} (h1 : (d, b) ∈ pd) (h2 : (e, c) ∈ pd) (hu : u = 0 → d < 2 ∧ e < 2) (hw : bt w i = D b c) : OkC u (F d e) (some w) i := by
  simp only [pdAll, List.all_eq_true] at h
  have k := h _ h1 _ h2
  simp only [Bool.and_eq_true, Bool.or_eq_true, Bool.not_eq_true', beq_iff_eq, decide_eq_true_eq] at k
  refine ⟨fun h2 => ?_, fun h3 => ?_⟩
  · rw [hw]; exact k.1.resolve_left (by omega)
  · obtain ⟨a1, a2⟩ := hu h3
    exact k.2.resolve_left (by simp [a1, a2])

theorem pl16 : pdAll (fun d e => (((d.fmod 2) + (d.fdiv 2) - (d.fmod 2) * (d.fdiv 2)) * ((e.fmod 2) + (e.fdiv 2) - (e.fmod 2) * (e.fdiv 2))) + ((((d.fmod 2) + (d.fdiv 2) - (d.fmod 2) * (d.fdiv 2)) * ((e.fmod 2) + (e.fdiv 2) - (e.fmod 2) * (e.fdiv 2))) * ((d.fdiv 2) + (e.fdiv 2) - (d.fdiv 2) * (e.fdiv 2))) * 2) (fun b c => b * c) = true := by decide +kernel
theorem ok16 {u i : Int} {ds es bs cs : List Int} {sg : Bool} (G : Good u ds bs) (H : Good u es cs) (hl : es.length = ds.length) (h0 : 0 ≤ i) (hx : i < (ds.length : Int)) : OkC u (lcF (anA (loF ds) (hiF ds) (loF es) (hiF es)) (anB (loF ds) (hiF ds) (loF es) (hiF es)) i) (some (Builtin.bitAnd (whF bs sg) (whF cs sg))) i := by
  have x3 : (ds.length : Int) ≤ 3 := by have := G.three; omega
  have h3 : i < 3 := by omega
  have ra := G.rlo
  have rb := G.rhi
  have rc := H.rlo
  have rd := H.rhi
  have rm := R8.mask (x := (ds.length : Int)) (by have := G.one; omega) x3
  obtain ⟨g1, g2⟩ := G.lb h0 hx
  obtain ⟨g3, g4⟩ := H.lb h0 (by omega : i < (es.length : Int))
  have gm := bt_mask h0 hx x3
  have w1 := whF_lo (sg := sg) (by rw [G.len]; exact G.three) G.bits
  have w2 := whF_hi (sg := sg) (by rw [G.len]; exact G.three) G.bits
  have w3 := whF_lo (sg := sg) (by rw [H.len]; exact H.three) H.bits
  have w4 := whF_hi (sg := sg) (by rw [H.len]; exact H.three) H.bits
  have e1 := G.wb sg h0 hx
  have e2 := H.wb sg h0 (by omega : i < (es.length : Int))
  have hw := (bt_all w1 w2 w3 w4 h0 h3).1
  rw [e1, e2] at hw
  have key := pdAll_use pl16 (G.at h0 hx) (H.at h0 (by omega)) (fun hu => ⟨G.at2 h0 hx hu, H.at2 h0 (by omega) hu⟩) hw
  (try dsimp only at key)
  rw [← g1, ← g2, ← g3, ← g4] at key
  rw [lcF_bt]; unfold anB anA
  rw [((ra.or rb).and (rc.or rd)).bAnd (rb.or rd) h0 h3, (ra.or rb).bAnd (rc.or rd) h0 h3, ra.bOr rb h0 h3, rc.bOr rd h0 h3, rb.bOr rd h0 h3]
  exact key

theorem pl0 : pdAll (fun d e => (((d.fmod 2) + (d.fdiv 2) - (d.fmod 2) * (d.fdiv 2)) + ((e.fmod 2) + (e.fdiv 2) - (e.fmod 2) * (e.fdiv 2)) - ((d.fmod 2) + (d.fdiv 2) - (d.fmod 2) * (d.fdiv 2)) * ((e.fmod 2) + (e.fdiv 2) - (e.fmod 2) * (e.fdiv 2))) + ((((d.fmod 2) + (d.fdiv 2) - (d.fmod 2) * (d.fdiv 2)) + ((e.fmod 2) + (e.fdiv 2) - (e.fmod 2) * (e.fdiv 2)) - ((d.fmod 2) + (d.fdiv 2) - (d.fmod 2) * (d.fdiv 2)) * ((e.fmod 2) + (e.fdiv 2) - (e.fmod 2) * (e.fdiv 2))) + ((((d.fmod 2) + (d.fdiv 2) - (d.fmod 2) * (d.fdiv 2)) * ((d.fdiv 2) + 1 - 2 * ((d.fdiv 2) * 1))) + (((e.fmod 2) + (e.fdiv 2) - (e.fmod 2) * (e.fdiv 2)) * ((e.fdiv 2) + 1 - 2 * ((e.fdiv 2) * 1))) - (((d.fmod 2) + (d.fdiv 2) - (d.fmod 2) * (d.fdiv 2)) * ((d.fdiv 2) + 1 - 2 * ((d.fdiv 2) * 1))) * (((e.fmod 2) + (e.fdiv 2) - (e.fmod 2) * (e.fdiv 2)) * ((e.fdiv 2) + 1 - 2 * ((e.fdiv 2) * 1)))) - 2 * ((((d.fmod 2) + (d.fdiv 2) - (d.fmod 2) * (d.fdiv 2)) + ((e.fmod 2) + (e.fdiv 2) - (e.fmod 2) * (e.fdiv 2)) - ((d.fmod 2) + (d.fdiv 2) - (d.fmod 2) * (d.fdiv 2)) * ((e.fmod 2) + (e.fdiv 2) - (e.fmod 2) * (e.fdiv 2))) * ((((d.fmod 2) + (d.fdiv 2) - (d.fmod 2) * (d.fdiv 2)) * ((d.fdiv 2) + 1 - 2 * ((d.fdiv 2) * 1))) + (((e.fmod 2) + (e.fdiv 2) - (e.fmod 2) * (e.fdiv 2)) * ((e.fdiv 2) + 1 - 2 * ((e.fdiv 2) * 1))) - (((d.fmod 2) + (d.fdiv 2) - (d.fmod 2) * (d.fdiv 2)) * ((d.fdiv 2) + 1 - 2 * ((d.fdiv 2) * 1))) * (((e.fmod 2) + (e.fdiv 2) - (e.fmod 2) * (e.fdiv 2)) * ((e.fdiv 2) + 1 - 2 * ((e.fdiv 2) * 1)))))) * 2) (fun b c => b + c - b * c) = true := by decide +kernel
theorem ok0 {u i : Int} {ds es bs cs : List Int} {sg : Bool} (G : Good u ds bs) (H : Good u es cs) (hl : es.length = ds.length) (h0 : 0 ≤ i) (hx : i < (ds.length : Int)) : OkC u (lcF (orA (loF ds) (hiF ds) (loF es) (hiF es)) (orB (ds.length : Int) (loF ds) (hiF ds) (loF es) (hiF es)) i) (some (Builtin.bitOr (whF bs sg) (whF cs sg))) i := by
  have x3 : (ds.length : Int) ≤ 3 := by have := G.three; omega
  have h3 : i < 3 := by omega
  have ra := G.rlo
  have rb := G.rhi
  have rc := H.rlo
  have rd := H.rhi
  have rm := R8.mask (x := (ds.length : Int)) (by have := G.one; omega) x3
  obtain ⟨g1, g2⟩ := G.lb h0 hx
  obtain ⟨g3, g4⟩ := H.lb h0 (by omega : i < (es.length : Int))
  have gm := bt_mask h0 hx x3
  have w1 := whF_lo (sg := sg) (by rw [G.len]; exact G.three) G.bits
  have w2 := whF_hi (sg := sg) (by rw [G.len]; exact G.three) G.bits
  have w3 := whF_lo (sg := sg) (by rw [H.len]; exact H.three) H.bits
  have w4 := whF_hi (sg := sg) (by rw [H.len]; exact H.three) H.bits
  have e1 := G.wb sg h0 hx
  have e2 := H.wb sg h0 (by omega : i < (es.length : Int))
  have hw := (bt_all w1 w2 w3 w4 h0 h3).2.1
  rw [e1, e2] at hw
  have key := pdAll_use pl0 (G.at h0 hx) (H.at h0 (by omega)) (fun hu => ⟨G.at2 h0 hx hu, H.at2 h0 (by omega) hu⟩) hw
  (try dsimp only at key)
  rw [← g1, ← g2, ← g3, ← g4] at key
  rw [lcF_bt]; unfold orB orA
  rw [((ra.or rb).or (rc.or rd)).bXor (((ra.or rb).and (rb.xor rm)).or ((rc.or rd).and (rd.xor rm))) h0 h3, (ra.or rb).bOr (rc.or rd) h0 h3, ((ra.or rb).and (rb.xor rm)).bOr ((rc.or rd).and (rd.xor rm)) h0 h3, (ra.or rb).bAnd (rb.xor rm) h0 h3, (rc.or rd).bAnd (rd.xor rm) h0 h3, ra.bOr rb h0 h3, rc.bOr rd h0 h3, rb.bXor rm h0 h3, rd.bXor rm h0 h3, gm]
  exact key

theorem pl17 : pdAll (fun d e => (((d.fmod 2) + (e.fmod 2) - 2 * ((d.fmod 2) * (e.fmod 2))) + ((d.fdiv 2) + (e.fdiv 2) - (d.fdiv 2) * (e.fdiv 2)) - ((d.fmod 2) + (e.fmod 2) - 2 * ((d.fmod 2) * (e.fmod 2))) * ((d.fdiv 2) + (e.fdiv 2) - (d.fdiv 2) * (e.fdiv 2))) + ((d.fdiv 2) + (e.fdiv 2) - (d.fdiv 2) * (e.fdiv 2)) * 2) (fun b c => b + c - 2 * (b * c)) = true := by decide +kernel
theorem ok17 {u i : Int} {ds es bs cs : List Int} {sg : Bool} (G : Good u ds bs) (H : Good u es cs) (hl : es.length = ds.length) (h0 : 0 ≤ i) (hx : i < (ds.length : Int)) : OkC u (lcF (xoA (loF ds) (hiF ds) (loF es) (hiF es)) (xoB (hiF ds) (hiF es)) i) (some (Builtin.bitXor (whF bs sg) (whF cs sg))) i := by
  have x3 : (ds.length : Int) ≤ 3 := by have := G.three; omega
  have h3 : i < 3 := by omega
  have ra := G.rlo
  have rb := G.rhi
  have rc := H.rlo
  have rd := H.rhi
  have rm := R8.mask (x := (ds.length : Int)) (by have := G.one; omega) x3
  obtain ⟨g1, g2⟩ := G.lb h0 hx
  obtain ⟨g3, g4⟩ := H.lb h0 (by omega : i < (es.length : Int))
  have gm := bt_mask h0 hx x3
  have w1 := whF_lo (sg := sg) (by rw [G.len]; exact G.three) G.bits
  have w2 := whF_hi (sg := sg) (by rw [G.len]; exact G.three) G.bits
  have w3 := whF_lo (sg := sg) (by rw [H.len]; exact H.three) H.bits
  have w4 := whF_hi (sg := sg) (by rw [H.len]; exact H.three) H.bits
  have e1 := G.wb sg h0 hx
  have e2 := H.wb sg h0 (by omega : i < (es.length : Int))
  have hw := (bt_all w1 w2 w3 w4 h0 h3).2.2.1
  rw [e1, e2] at hw
  have key := pdAll_use pl17 (G.at h0 hx) (H.at h0 (by omega)) (fun hu => ⟨G.at2 h0 hx hu, H.at2 h0 (by omega) hu⟩) hw
  (try dsimp only at key)
  rw [← g1, ← g2, ← g3, ← g4] at key
  rw [lcF_bt]; unfold xoA xoB
  rw [(ra.xor rc).bOr (rb.or rd) h0 h3, ra.bXor rc h0 h3, rb.bOr rd h0 h3]
  exact key

theorem pl18 : pdAll (fun d e => (((((d.fmod 2) + (e.fmod 2) - 2 * ((d.fmod 2) * (e.fmod 2))) + ((d.fdiv 2) + (e.fdiv 2) - (d.fdiv 2) * (e.fdiv 2)) - ((d.fmod 2) + (e.fmod 2) - 2 * ((d.fmod 2) * (e.fmod 2))) * ((d.fdiv 2) + (e.fdiv 2) - (d.fdiv 2) * (e.fdiv 2))) + 1 - 2 * ((((d.fmod 2) + (e.fmod 2) - 2 * ((d.fmod 2) * (e.fmod 2))) + ((d.fdiv 2) + (e.fdiv 2) - (d.fdiv 2) * (e.fdiv 2)) - ((d.fmod 2) + (e.fmod 2) - 2 * ((d.fmod 2) * (e.fmod 2))) * ((d.fdiv 2) + (e.fdiv 2) - (d.fdiv 2) * (e.fdiv 2))) * 1)) + ((d.fdiv 2) + (e.fdiv 2) - (d.fdiv 2) * (e.fdiv 2)) - ((((d.fmod 2) + (e.fmod 2) - 2 * ((d.fmod 2) * (e.fmod 2))) + ((d.fdiv 2) + (e.fdiv 2) - (d.fdiv 2) * (e.fdiv 2)) - ((d.fmod 2) + (e.fmod 2) - 2 * ((d.fmod 2) * (e.fmod 2))) * ((d.fdiv 2) + (e.fdiv 2) - (d.fdiv 2) * (e.fdiv 2))) + 1 - 2 * ((((d.fmod 2) + (e.fmod 2) - 2 * ((d.fmod 2) * (e.fmod 2))) + ((d.fdiv 2) + (e.fdiv 2) - (d.fdiv 2) * (e.fdiv 2)) - ((d.fmod 2) + (e.fmod 2) - 2 * ((d.fmod 2) * (e.fmod 2))) * ((d.fdiv 2) + (e.fdiv 2) - (d.fdiv 2) * (e.fdiv 2))) * 1)) * ((d.fdiv 2) + (e.fdiv 2) - (d.fdiv 2) * (e.fdiv 2))) + ((d.fdiv 2) + (e.fdiv 2) - (d.fdiv 2) * (e.fdiv 2)) * 2) (fun b c => 1 - (b + c - 2 * (b * c))) = true := by decide +kernel
theorem ok18 {u i : Int} {ds es bs cs : List Int} {sg : Bool} (G : Good u ds bs) (H : Good u es cs) (hl : es.length = ds.length) (h0 : 0 ≤ i) (hx : i < (ds.length : Int)) : OkC u (lcF (ntA (ds.length : Int) (xoA (loF ds) (hiF ds) (loF es) (hiF es)) (xoB (hiF ds) (hiF es))) (xoB (hiF ds) (hiF es)) i) (some (-1 - Builtin.bitXor (whF bs sg) (whF cs sg))) i := by
  have x3 : (ds.length : Int) ≤ 3 := by have := G.three; omega
  have h3 : i < 3 := by omega
  have ra := G.rlo
  have rb := G.rhi
  have rc := H.rlo
  have rd := H.rhi
  have rm := R8.mask (x := (ds.length : Int)) (by have := G.one; omega) x3
  obtain ⟨g1, g2⟩ := G.lb h0 hx
  obtain ⟨g3, g4⟩ := H.lb h0 (by omega : i < (es.length : Int))
  have gm := bt_mask h0 hx x3
  have w1 := whF_lo (sg := sg) (by rw [G.len]; exact G.three) G.bits
  have w2 := whF_hi (sg := sg) (by rw [G.len]; exact G.three) G.bits
  have w3 := whF_lo (sg := sg) (by rw [H.len]; exact H.three) H.bits
  have w4 := whF_hi (sg := sg) (by rw [H.len]; exact H.three) H.bits
  have e1 := G.wb sg h0 hx
  have e2 := H.wb sg h0 (by omega : i < (es.length : Int))
  have hw := bt_dueAnd w1 w2 w3 w4 h0 h3
  rw [e1, e2] at hw
  have key := pdAll_use pl18 (G.at h0 hx) (H.at h0 (by omega)) (fun hu => ⟨G.at2 h0 hx hu, H.at2 h0 (by omega) hu⟩) hw
  (try dsimp only at key)
  rw [← g1, ← g2, ← g3, ← g4] at key
  rw [lcF_bt]; unfold ntA xoA xoB
  rw [(((ra.xor rc).or (rb.or rd)).xor rm).bOr (rb.or rd) h0 h3, ((ra.xor rc).or (rb.or rd)).bXor rm h0 h3, (ra.xor rc).bOr (rb.or rd) h0 h3, ra.bXor rc h0 h3, rb.bOr rd h0 h3, gm]
  exact key

theorem tr_ck : chkV (fun ds bs => [true, false].all fun sg => (truthF ds.length (loF ds) (hiF ds) == 0 && whF bs sg == 0) || (truthF ds.length (loF ds) (hiF ds) == 1 && !(whF bs sg == 0)) || (truthF ds.length (loF ds) (hiF ds) == 3 && !(hiF ds == 0))) = true := by decide +kernel
theorem Good.tr {u : Int} {ds bs : List Int} (G : Good u ds bs) (sg : Bool) : (truthF ds.length (loF ds) (hiF ds) = 0 ∧ whF bs sg = 0) ∨ (truthF ds.length (loF ds) (hiF ds) = 1 ∧ whF bs sg ≠ 0) ∨ (truthF ds.length (loF ds) (hiF ds) = 3 ∧ u ≠ 0) := by
  have k := chkV_use tr_ck G.fill G.dig G.one G.three
  simp only [List.all_eq_true] at k
  have k2 := k sg (by cases sg <;> decide)
  simp only [Bool.or_eq_true, Bool.and_eq_true, Bool.not_eq_true', beq_iff_eq, beq_eq_false_iff_ne] at k2
  rcases k2 with (k2 | k2) | k2
  · exact .inl k2
  · exact .inr (.inl k2)
  · exact .inr (.inr ⟨k2.1, fun hu => k2.2 (G.hi0 hu)⟩)
theorem ok19 {u i : Int} {ds es bs cs : List Int} {sg : Bool} (G : Good u ds bs) (H : Good u es cs) (hl : es.length = ds.length) (h0 : 0 ≤ i) (hx : i < 1) : OkC u (lcF (anA (obA (truthF (ds.length : Int) (loF ds) (hiF ds))) (obB (truthF (ds.length : Int) (loF ds) (hiF ds))) (obA (truthF (ds.length : Int) (loF es) (hiF es))) (obB (truthF (ds.length : Int) (loF es) (hiF es)))) (anB (obA (truthF (ds.length : Int) (loF ds) (hiF ds))) (obB (truthF (ds.length : Int) (loF ds) (hiF ds))) (obA (truthF (ds.length : Int) (loF es) (hiF es))) (obB (truthF (ds.length : Int) (loF es) (hiF es)))) i) (some (if (whF bs sg) ≠ 0 ∧ (whF cs sg) ≠ 0 then 1 else 0)) i := by
  obtain rfl : i = 0 := by omega
  have t2 := H.tr sg
  rw [hl] at t2
  rcases G.tr sg with ⟨e1, f1⟩ | ⟨e1, f1⟩ | ⟨e1, f1⟩ <;> rcases t2 with ⟨e2, f2⟩ | ⟨e2, f2⟩ | ⟨e2, f2⟩ <;> rw [e1, e2] <;> (refine ⟨fun hc => ?_, fun hu => ?_⟩) <;> first | (exact absurd hu (by assumption)) | (simp [f1, f2]; decide) | (exfalso; revert hc; decide) | decide
theorem ok20 {u i : Int} {ds es bs cs : List Int} {sg : Bool} (G : Good u ds bs) (H : Good u es cs) (hl : es.length = ds.length) (h0 : 0 ≤ i) (hx : i < 1) : OkC u (lcF (orA (obA (truthF (ds.length : Int) (loF ds) (hiF ds))) (obB (truthF (ds.length : Int) (loF ds) (hiF ds))) (obA (truthF (ds.length : Int) (loF es) (hiF es))) (obB (truthF (ds.length : Int) (loF es) (hiF es)))) (orB 1 (obA (truthF (ds.length : Int) (loF ds) (hiF ds))) (obB (truthF (ds.length : Int) (loF ds) (hiF ds))) (obA (truthF (ds.length : Int) (loF es) (hiF es))) (obB (truthF (ds.length : Int) (loF es) (hiF es)))) i) (some (if (whF bs sg) ≠ 0 ∨ (whF cs sg) ≠ 0 then 1 else 0)) i := by
  obtain rfl : i = 0 := by omega
  have t2 := H.tr sg
  rw [hl] at t2
  rcases G.tr sg with ⟨e1, f1⟩ | ⟨e1, f1⟩ | ⟨e1, f1⟩ <;> rcases t2 with ⟨e2, f2⟩ | ⟨e2, f2⟩ | ⟨e2, f2⟩ <;> rw [e1, e2] <;> (refine ⟨fun hc => ?_, fun hu => ?_⟩) <;> first | (exact absurd hu (by assumption)) | (simp [f1, f2]; decide) | (exfalso; revert hc; decide) | decide

theorem inj_ck : chkBB (fun bs cs => [true, false].all fun sg => (whF bs sg == whF cs sg) == (bs == cs)) = true := by decide +kernel
theorem whF_inj {bs cs : List Int} (sg : Bool) (hb : ∀ d ∈ bs, 0 ≤ d ∧ d < 2) (hc : ∀ d ∈ cs, 0 ≤ d ∧ d < 2) (hl : cs.length = bs.length) (h1 : 1 ≤ bs.length) (h3 : bs.length ≤ 3) : whF bs sg = whF cs sg ↔ bs = cs := by
  have k := chkBB_use inj_ck hb hc hl h1 h3
  simp only [List.all_eq_true] at k
  have k2 := k sg (by cases sg <;> decide)
  rw [beq_iff_eq] at k2
  have : (whF bs sg == whF cs sg) = true ↔ (bs == cs) = true := by rw [k2]
  simpa using this
noncomputable def CV (b : Int) : List Int := if b = 0 then [0, 2, 3] else [1, 2, 3]
noncomputable def CVs : List Int → List (List Int)
  | [] => [[]]
  | b :: r => (CV b).flatMap fun p => (CVs r).map fun q => p :: q
theorem CVs_mem {ds bs : List Int} (h : FillR ds bs) (hd : ∀ d ∈ ds, 0 ≤ d ∧ d < 4) : ds ∈ CVs bs := by
  induction h with
  | nil => exact List.mem_singleton.mpr rfl
  | @cons d b ds bs h1 _ ih =>
    have h2 := hd d (by simp)
    refine List.mem_flatMap.mpr ⟨d, ?_, List.mem_map.mpr ⟨ds, ih fun e he => hd e (List.mem_cons_of_mem _ he), rfl⟩⟩
    obtain ⟨hb, he⟩ := h1
    rcases hb with hb | hb <;> subst hb
    · have : d = 0 ∨ d = 2 ∨ d = 3 := by omega
      simpa [CV] using this
    · have : d = 1 ∨ d = 2 ∨ d = 3 := by omega
      simpa [CV] using this
noncomputable def eqz (ds es : List Int) : Bool := Builtin.bitAnd (Builtin.bitXor (loF ds) (loF es)) (Builtin.bitXor (Builtin.bitOr (hiF ds) (hiF es)) (maskF ds.length)) == 0
theorem eqz_ck : chkB (fun bs => (CVs bs).all fun ds => (CVs bs).all fun es => eqz ds es) = true := by decide +kernel
theorem or0_ck : (r8.all fun m => r8.all fun n => (Builtin.bitOr m n == 0) == (m == 0 && n == 0)) = true := by decide +kernel
theorem or0 {m n : Int} (a : R8 m) (b : R8 n) : Builtin.bitOr m n = 0 ↔ m = 0 ∧ n = 0 := by
  have k := or0_ck
  simp only [List.all_eq_true] at k
  have k2 := k m (r8_mem a.lo a.hi) n (r8_mem b.lo b.hi)
  rw [beq_iff_eq] at k2
  have : (Builtin.bitOr m n == 0) = true ↔ (m == 0 && n == 0) = true := by rw [k2]
  simpa using this
theorem eqk_ck : chkBB (fun ds es => eqz ds es == (ds == es)) = true := by decide +kernel
theorem eq_facts {u : Int} {ds es bs cs : List Int} (G : Good u ds bs) (H : Good u es cs) (hl : es.length = ds.length) (sg : Bool) :
    (eqF ds.length (loF ds) (hiF ds) (loF es) (hiF es) = 0 ∧ whF bs sg ≠ whF cs sg) ∨ (eqF ds.length (loF ds) (hiF ds) (loF es) (hiF es) = 1 ∧ whF bs sg = whF cs sg) ∨ (eqF ds.length (loF ds) (hiF ds) (loF es) (hiF es) = 3 ∧ u ≠ 0) := by
  have hbl := G.len
  have hcl := H.len
  have inj := whF_inj sg G.bits H.bits (by omega) (by have := G.one; omega) (by have := G.three; omega)
  unfold eqF
  split
  case isTrue h =>
    refine .inl ⟨rfl, fun e => h ?_⟩
    have e := inj.mp e
    subst e
    have k := chkB_use eqz_ck G.bits (by have := G.one; omega) (by have := G.three; omega)
    simp only [List.all_eq_true] at k
    have k2 := k _ (CVs_mem G.fill G.dig) _ (CVs_mem H.fill H.dig)
    simpa [eqz] using k2
  case isFalse h =>
    split
    case isTrue h2 =>
      have h2 := (or0 G.rhi H.rhi).mp h2
      have e1 := G.eq h2.1
      have e2 := H.eq h2.2
      have hb := G.bits
      have hc := H.bits
      refine .inr (.inl ⟨rfl, inj.mpr ?_⟩)
      subst e1 e2
      have k := chkBB_use eqk_ck hb hc hl G.one G.three
      rw [beq_iff_eq] at k
      have : eqz ds es = true := by simpa [eqz] using h
      rw [k] at this
      simpa using this
    case isFalse h2 => exact .inr (.inr ⟨rfl, fun hu => h2 ((or0 G.rhi H.rhi).mpr ⟨G.hi0 hu, H.hi0 hu⟩)⟩)
theorem ok14 {u i : Int} {ds es bs cs : List Int} {sg : Bool} (G : Good u ds bs) (H : Good u es cs) (hl : es.length = ds.length) (h0 : 0 ≤ i) (hx : i < 1) : OkC u (lcF (obA (eqF (ds.length : Int) (loF ds) (hiF ds) (loF es) (hiF es))) (obB (eqF (ds.length : Int) (loF ds) (hiF ds) (loF es) (hiF es))) i) (some (if (whF bs sg) = (whF cs sg) then 1 else 0)) i := by
  obtain rfl : i = 0 := by omega
  rcases eq_facts G H hl sg with ⟨e1, f1⟩ | ⟨e1, f1⟩ | ⟨e1, f1⟩ <;> rw [e1] <;> (refine ⟨fun hc => ?_, fun hu => ?_⟩) <;> first | (exact absurd hu (by assumption)) | (simp [f1]; decide) | (exfalso; revert hc; decide) | decide
theorem ok15 {u i : Int} {ds es bs cs : List Int} {sg : Bool} (G : Good u ds bs) (H : Good u es cs) (hl : es.length = ds.length) (h0 : 0 ≤ i) (hx : i < 1) : OkC u (lcF (ntA 1 (obA (eqF (ds.length : Int) (loF ds) (hiF ds) (loF es) (hiF es))) (obB (eqF (ds.length : Int) (loF ds) (hiF ds) (loF es) (hiF es)))) (obB (eqF (ds.length : Int) (loF ds) (hiF ds) (loF es) (hiF es))) i) (some (if (whF bs sg) ≠ (whF cs sg) then 1 else 0)) i := by
  obtain rfl : i = 0 := by omega
  rcases eq_facts G H hl sg with ⟨e1, f1⟩ | ⟨e1, f1⟩ | ⟨e1, f1⟩ <;> rw [e1] <;> (refine ⟨fun hc => ?_, fun hu => ?_⟩) <;> first | (exact absurd hu (by assumption)) | (simp [f1]; decide) | (exfalso; revert hc; decide) | decide

theorem no_x {x c d z i : Int} (hd : d ≠ 0) : slF x c d z = maskF x ∧ srF x c d z = maskF x := ⟨if_pos hd, if_pos hd⟩
noncomputable def spL (ds : List Int) (c i : Int) : Int := if i < c then 0 else ds.getD (i - c).toNat 0
noncomputable def spR (ds : List Int) (c i : Int) : Int := ds.getD (i + c).toNat 0
noncomputable def spA (ds : List Int) (c i : Int) : Int := ds.getD (if i + c < (ds.length : Int) - 1 then i + c else (ds.length : Int) - 1).toNat 0
noncomputable def mnX (x c : Int) : Int := if x < c then x else c

theorem shL_ck : chkDB (fun ds es => (i3 ds.length).all fun i => lcF (slF (ds.length : Int) (loF es) (hiF es) (loF ds)) (slF (ds.length : Int) (loF es) (hiF es) (hiF ds)) i == spL ds (loF es) i) = true := by decide +kernel
theorem sdL_ck : chkBB (fun ds es => (i3 ds.length).all fun i => bt (whF ds false * 2 ^ (mnX ds.length (whF es false)).toNat) i == spL ds (loF es) i) = true := by decide +kernel

theorem shR_ck : chkDB (fun ds es => (i3 ds.length).all fun i => lcF (srF (ds.length : Int) (loF es) (hiF es) (loF ds)) (srF (ds.length : Int) (loF es) (hiF es) (hiF ds)) i == spR ds (loF es) i) = true := by decide +kernel
theorem sdR_ck : chkBB (fun ds es => (i3 ds.length).all fun i => bt ((whF ds false).fdiv (2 ^ (mnX ds.length (whF es false)).toNat)) i == spR ds (loF es) i) = true := by decide +kernel

theorem shN_ck : chkDB (fun ds es => (i3 ds.length).all fun i => lcF (saF (ds.length : Int) (loF ds) (hiF ds) (loF es) (hiF es) (loF ds) 1 false) (saF (ds.length : Int) (loF ds) (hiF ds) (loF es) (hiF es) (hiF ds) 2 false) i == spR ds (loF es) i) = true := by decide +kernel
theorem sdN_ck : chkBB (fun ds es => (i3 ds.length).all fun i => bt ((whF ds false).fdiv (2 ^ (mnX ds.length (whF es false)).toNat)) i == spR ds (loF es) i) = true := by decide +kernel

theorem shA_ck : chkDB (fun ds es => (i3 ds.length).all fun i => lcF (saF (ds.length : Int) (loF ds) (hiF ds) (loF es) (hiF es) (loF ds) 1 true) (saF (ds.length : Int) (loF ds) (hiF ds) (loF es) (hiF es) (hiF ds) 2 true) i == spA ds (loF es) i) = true := by decide +kernel
theorem sdA_ck : chkBB (fun ds es => (i3 ds.length).all fun i => bt ((whF ds true).fdiv (2 ^ (mnX ds.length (whF es false)).toNat)) i == spA ds (loF es) i) = true := by decide +kernel

theorem spL_at {u i c : Int} {ds bs : List Int} (G : Good u ds bs) (h0 : 0 ≤ i) (hx : i < (ds.length : Int)) (c0 : 0 ≤ c) : (spL ds c i < 2 → spL ds c i = spL bs c i) ∧ (u = 0 → spL ds c i ≤ 1) := by
  have hl := G.len
  have h1 := G.one
  have key : ∀ j : Int, 0 ≤ j → (ds.getD j.toNat 0 < 2 → ds.getD j.toNat 0 = bs.getD j.toNat 0) ∧ (u = 0 → ds.getD j.toNat 0 ≤ 1) := by
    intro j j0
    by_cases hj : j < (ds.length : Int)
    · have k := G.at j0 hj
      refine ⟨fun h => ?_, fun hu => by have := G.at2 j0 hj hu; omega⟩
      revert k h
      generalize ds.getD j.toNat 0 = d
      generalize bs.getD j.toNat 0 = b
      intro k h
      simp only [pd, List.mem_cons, List.not_mem_nil, or_false, Prod.mk.injEq] at k
      omega
    · have e1 : ds.getD j.toNat 0 = 0 := by rw [List.getD_eq_getElem?_getD, List.getElem?_eq_none (by omega)]; rfl
      have e2 : bs.getD j.toNat 0 = 0 := by rw [List.getD_eq_getElem?_getD, List.getElem?_eq_none (by omega)]; rfl
      rw [e1, e2]
      exact ⟨fun _ => rfl, fun _ => by decide⟩
  unfold spL
  split
  · exact ⟨fun _ => rfl, fun _ => by decide⟩
  · exact key _ (by omega)

theorem spR_at {u i c : Int} {ds bs : List Int} (G : Good u ds bs) (h0 : 0 ≤ i) (hx : i < (ds.length : Int)) (c0 : 0 ≤ c) : (spR ds c i < 2 → spR ds c i = spR bs c i) ∧ (u = 0 → spR ds c i ≤ 1) := by
  have hl := G.len
  have h1 := G.one
  have key : ∀ j : Int, 0 ≤ j → (ds.getD j.toNat 0 < 2 → ds.getD j.toNat 0 = bs.getD j.toNat 0) ∧ (u = 0 → ds.getD j.toNat 0 ≤ 1) := by
    intro j j0
    by_cases hj : j < (ds.length : Int)
    · have k := G.at j0 hj
      refine ⟨fun h => ?_, fun hu => by have := G.at2 j0 hj hu; omega⟩
      revert k h
      generalize ds.getD j.toNat 0 = d
      generalize bs.getD j.toNat 0 = b
      intro k h
      simp only [pd, List.mem_cons, List.not_mem_nil, or_false, Prod.mk.injEq] at k
      omega
    · have e1 : ds.getD j.toNat 0 = 0 := by rw [List.getD_eq_getElem?_getD, List.getElem?_eq_none (by omega)]; rfl
      have e2 : bs.getD j.toNat 0 = 0 := by rw [List.getD_eq_getElem?_getD, List.getElem?_eq_none (by omega)]; rfl
      rw [e1, e2]
      exact ⟨fun _ => rfl, fun _ => by decide⟩
  exact key _ (by omega)

theorem spA_at {u i c : Int} {ds bs : List Int} (G : Good u ds bs) (h0 : 0 ≤ i) (hx : i < (ds.length : Int)) (c0 : 0 ≤ c) : (spA ds c i < 2 → spA ds c i = spA bs c i) ∧ (u = 0 → spA ds c i ≤ 1) := by
  have hl := G.len
  have h1 := G.one
  have key : ∀ j : Int, 0 ≤ j → (ds.getD j.toNat 0 < 2 → ds.getD j.toNat 0 = bs.getD j.toNat 0) ∧ (u = 0 → ds.getD j.toNat 0 ≤ 1) := by
    intro j j0
    by_cases hj : j < (ds.length : Int)
    · have k := G.at j0 hj
      refine ⟨fun h => ?_, fun hu => by have := G.at2 j0 hj hu; omega⟩
      revert k h
      generalize ds.getD j.toNat 0 = d
      generalize bs.getD j.toNat 0 = b
      intro k h
      simp only [pd, List.mem_cons, List.not_mem_nil, or_false, Prod.mk.injEq] at k
      omega
    · have e1 : ds.getD j.toNat 0 = 0 := by rw [List.getD_eq_getElem?_getD, List.getElem?_eq_none (by omega)]; rfl
      have e2 : bs.getD j.toNat 0 = 0 := by rw [List.getD_eq_getElem?_getD, List.getElem?_eq_none (by omega)]; rfl
      rw [e1, e2]
      exact ⟨fun _ => rfl, fun _ => by decide⟩
  unfold spA
  rw [hl]
  exact key _ (by split <;> omega)
theorem ok6 {u i : Int} {ds es bs cs : List Int} {sg : Bool} (G : Good u ds bs) (H : Good u es cs) (hl : es.length = ds.length) (h0 : 0 ≤ i) (hx : i < (ds.length : Int)) : OkC u (lcF (slF (ds.length : Int) (loF es) (hiF es) (loF ds)) (slF (ds.length : Int) (loF es) (hiF es) (hiF ds)) i) (some (whF bs false * 2 ^ (if (bs.length : Int) < whF cs false then (bs.length : Int) else whF cs false).toNat)) i := by
  have x3 : (ds.length : Int) ≤ 3 := by have := G.three; omega
  by_cases hk : hiF es = 0
  · have e2 := H.eq hk
    have hc := H.bits
    subst e2
    have k1 := chkDB_use shL_ck G.dig hc hl G.one G.three
    have k2 := chkBB_use sdL_ck G.bits hc (by rw [hl, G.len]) (by rw [G.len]; exact G.one) (by rw [G.len]; exact G.three)
    simp only [List.all_eq_true, beq_iff_eq] at k1 k2
    have q1 := k1 i (i3_mem h0 hx x3)
    have q2 := k2 i (i3_mem h0 (by rw [G.len]; exact hx) (by rw [G.len]; exact x3))
    have q3 := spL_at G h0 hx (H.rlo).lo
    rw [hk] at q1 ⊢
    rw [q1]
    refine ⟨fun h => (q3.1 h).trans q2.symm, q3.2⟩
  · rw [(no_x (i := i) hk).1, (no_x (i := i) hk).1, mask_three h0 hx x3]
    exact .three (.inl fun hu => hk (H.hi0 hu))
theorem ok7 {u i : Int} {ds es bs cs : List Int} {sg : Bool} (G : Good u ds bs) (H : Good u es cs) (hl : es.length = ds.length) (h0 : 0 ≤ i) (hx : i < (ds.length : Int)) : OkC u (lcF (slF (ds.length : Int) (loF es) (hiF es) (loF ds)) (slF (ds.length : Int) (loF es) (hiF es) (hiF ds)) i) (some (whF bs false * 2 ^ (if (bs.length : Int) < whF cs false then (bs.length : Int) else whF cs false).toNat)) i := by
  have x3 : (ds.length : Int) ≤ 3 := by have := G.three; omega
  by_cases hk : hiF es = 0
  · have e2 := H.eq hk
    have hc := H.bits
    subst e2
    have k1 := chkDB_use shL_ck G.dig hc hl G.one G.three
    have k2 := chkBB_use sdL_ck G.bits hc (by rw [hl, G.len]) (by rw [G.len]; exact G.one) (by rw [G.len]; exact G.three)
    simp only [List.all_eq_true, beq_iff_eq] at k1 k2
    have q1 := k1 i (i3_mem h0 hx x3)
    have q2 := k2 i (i3_mem h0 (by rw [G.len]; exact hx) (by rw [G.len]; exact x3))
    have q3 := spL_at G h0 hx (H.rlo).lo
    rw [hk] at q1 ⊢
    rw [q1]
    refine ⟨fun h => (q3.1 h).trans q2.symm, q3.2⟩
  · rw [(no_x (i := i) hk).1, (no_x (i := i) hk).1, mask_three h0 hx x3]
    exact .three (.inl fun hu => hk (H.hi0 hu))
theorem ok8 {u i : Int} {ds es bs cs : List Int} {sg : Bool} (G : Good u ds bs) (H : Good u es cs) (hl : es.length = ds.length) (h0 : 0 ≤ i) (hx : i < (ds.length : Int)) : OkC u (lcF (srF (ds.length : Int) (loF es) (hiF es) (loF ds)) (srF (ds.length : Int) (loF es) (hiF es) (hiF ds)) i) (some ((whF bs false).fdiv (2 ^ (if (bs.length : Int) < whF cs false then (bs.length : Int) else whF cs false).toNat))) i := by
  have x3 : (ds.length : Int) ≤ 3 := by have := G.three; omega
  by_cases hk : hiF es = 0
  · have e2 := H.eq hk
    have hc := H.bits
    subst e2
    have k1 := chkDB_use shR_ck G.dig hc hl G.one G.three
    have k2 := chkBB_use sdR_ck G.bits hc (by rw [hl, G.len]) (by rw [G.len]; exact G.one) (by rw [G.len]; exact G.three)
    simp only [List.all_eq_true, beq_iff_eq] at k1 k2
    have q1 := k1 i (i3_mem h0 hx x3)
    have q2 := k2 i (i3_mem h0 (by rw [G.len]; exact hx) (by rw [G.len]; exact x3))
    have q3 := spR_at G h0 hx (H.rlo).lo
    rw [hk] at q1 ⊢
    rw [q1]
    refine ⟨fun h => (q3.1 h).trans q2.symm, q3.2⟩
  · rw [(no_x (i := i) hk).2, (no_x (i := i) hk).2, mask_three h0 hx x3]
    exact .three (.inl fun hu => hk (H.hi0 hu))
theorem ok9 {u i : Int} {ds es bs cs : List Int} {sg : Bool} (G : Good u ds bs) (H : Good u es cs) (hl : es.length = ds.length) (h0 : 0 ≤ i) (hx : i < (ds.length : Int)) : OkC u (lcF (saF (ds.length : Int) (loF ds) (hiF ds) (loF es) (hiF es) (loF ds) 1 sg) (saF (ds.length : Int) (loF ds) (hiF ds) (loF es) (hiF es) (hiF ds) 2 sg) i) (some ((whF bs sg).fdiv (2 ^ (if (bs.length : Int) < whF cs false then (bs.length : Int) else whF cs false).toNat))) i := by
  have x3 : (ds.length : Int) ≤ 3 := by have := G.three; omega
  by_cases hk : hiF es = 0
  · have e2 := H.eq hk
    have hc := H.bits
    subst e2
    cases sg
    · have k1 := chkDB_use shN_ck G.dig hc hl G.one G.three
      have k2 := chkBB_use sdN_ck G.bits hc (by rw [hl, G.len]) (by rw [G.len]; exact G.one) (by rw [G.len]; exact G.three)
      simp only [List.all_eq_true, beq_iff_eq] at k1 k2
      have q1 := k1 i (i3_mem h0 hx x3)
      have q2 := k2 i (i3_mem h0 (by rw [G.len]; exact hx) (by rw [G.len]; exact x3))
      have q3 := spR_at G h0 hx (H.rlo).lo
      rw [hk] at q1 ⊢
      rw [q1]
      refine ⟨fun h => (q3.1 h).trans q2.symm, q3.2⟩
    · have k1 := chkDB_use shA_ck G.dig hc hl G.one G.three
      have k2 := chkBB_use sdA_ck G.bits hc (by rw [hl, G.len]) (by rw [G.len]; exact G.one) (by rw [G.len]; exact G.three)
      simp only [List.all_eq_true, beq_iff_eq] at k1 k2
      have q1 := k1 i (i3_mem h0 hx x3)
      have q2 := k2 i (i3_mem h0 (by rw [G.len]; exact hx) (by rw [G.len]; exact x3))
      have q3 := spA_at G h0 hx (H.rlo).lo
      rw [hk] at q1 ⊢
      rw [q1]
      refine ⟨fun h => (q3.1 h).trans q2.symm, q3.2⟩
  · have e : ¬ (sg = true ∧ hiF es = 0) := fun h => hk h.2
    simp only [saF, if_neg e]
    rw [(no_x (i := i) hk).2, (no_x (i := i) hk).2, mask_three h0 hx x3]
    exact .three (.inl fun hu => hk (H.hi0 hu))

theorem uk0 : chkV (fun ds bs => (i3 (ds.length : Int)).all fun i => ckU (hiF ds == 0) (lcF (ntA (ds.length : Int) (loF ds) (hiF ds)) ((hiF ds)) i) (2 ^ (bs.length : Int).toNat - 1 - whF bs false) i) = true := by decide +kernel
theorem uo0 {u i : Int} {ds bs : List Int} (G : Good u ds bs) (h0 : 0 ≤ i) (hx : i < (ds.length : Int)) : OkC u (lcF (ntA (ds.length : Int) (loF ds) (hiF ds)) ((hiF ds)) i) (some (2 ^ (bs.length : Int).toNat - 1 - whF bs false)) i := by
  have k := chkV_use uk0 G.fill G.dig G.one G.three
  simp only [List.all_eq_true] at k
  exact .both (k i (i3_mem h0 hx (by have := G.three; omega))) (fun hu => by rw [G.hi0 hu]; rfl)

theorem uk1 : chkV (fun ds bs => (i3 (ds.length : Int)).all fun i => ckU (hiF ds == 0) (lcF (arA (ds.length : Int) (hiF ds) 0 (0 - (loF ds))) (arB (ds.length : Int) (hiF ds) 0) i) (- whF bs false) i) = true := by decide +kernel
theorem uo1 {u i : Int} {ds bs : List Int} (G : Good u ds bs) (h0 : 0 ≤ i) (hx : i < (ds.length : Int)) : OkC u (lcF (arA (ds.length : Int) (hiF ds) 0 (0 - (loF ds))) (arB (ds.length : Int) (hiF ds) 0) i) (some (- whF bs false)) i := by
  have k := chkV_use uk1 G.fill G.dig G.one G.three
  simp only [List.all_eq_true] at k
  exact .both (k i (i3_mem h0 hx (by have := G.three; omega))) (fun hu => by rw [G.hi0 hu]; rfl)

theorem uk2 : chkV (fun ds bs => (i3 1).all fun i => ckU (hiF ds == 0) (lcF (ntA 1 (obA (truthF (ds.length : Int) (loF ds) (hiF ds))) (obB (truthF (ds.length : Int) (loF ds) (hiF ds)))) (obB (truthF (ds.length : Int) (loF ds) (hiF ds))) i) (if bs.sum = 0 then 1 else 0) i) = true := by decide +kernel
theorem uo2 {u i : Int} {ds bs : List Int} (G : Good u ds bs) (h0 : 0 ≤ i) (hx : i < 1) : OkC u (lcF (ntA 1 (obA (truthF (ds.length : Int) (loF ds) (hiF ds))) (obB (truthF (ds.length : Int) (loF ds) (hiF ds)))) (obB (truthF (ds.length : Int) (loF ds) (hiF ds))) i) (some (if bs.sum = 0 then 1 else 0)) i := by
  have k := chkV_use uk2 G.fill G.dig G.one G.three
  simp only [List.all_eq_true] at k
  exact .both (k i (i3_mem h0 hx (by have := G.three; omega))) (fun hu => by rw [G.hi0 hu]; rfl)

theorem uk3 : chkV (fun ds bs => (i3 1).all fun i => ckU (hiF ds == 0) (lcF (obA (raF (ds.length : Int) (loF ds) (hiF ds))) (obB (raF (ds.length : Int) (loF ds) (hiF ds))) i) (if bs.sum = bs.length then 1 else 0) i) = true := by decide +kernel
theorem uo3 {u i : Int} {ds bs : List Int} (G : Good u ds bs) (h0 : 0 ≤ i) (hx : i < 1) : OkC u (lcF (obA (raF (ds.length : Int) (loF ds) (hiF ds))) (obB (raF (ds.length : Int) (loF ds) (hiF ds))) i) (some (if bs.sum = bs.length then 1 else 0)) i := by
  have k := chkV_use uk3 G.fill G.dig G.one G.three
  simp only [List.all_eq_true] at k
  exact .both (k i (i3_mem h0 hx (by have := G.three; omega))) (fun hu => by rw [G.hi0 hu]; rfl)

theorem uk4 : chkV (fun ds bs => (i3 1).all fun i => ckU (hiF ds == 0) (lcF (ntA 1 (obA (raF (ds.length : Int) (loF ds) (hiF ds))) (obB (raF (ds.length : Int) (loF ds) (hiF ds)))) (obB (raF (ds.length : Int) (loF ds) (hiF ds))) i) (if bs.sum < bs.length then 1 else 0) i) = true := by decide +kernel
theorem uo4 {u i : Int} {ds bs : List Int} (G : Good u ds bs) (h0 : 0 ≤ i) (hx : i < 1) : OkC u (lcF (ntA 1 (obA (raF (ds.length : Int) (loF ds) (hiF ds))) (obB (raF (ds.length : Int) (loF ds) (hiF ds)))) (obB (raF (ds.length : Int) (loF ds) (hiF ds))) i) (some (if bs.sum < bs.length then 1 else 0)) i := by
  have k := chkV_use uk4 G.fill G.dig G.one G.three
  simp only [List.all_eq_true] at k
  exact .both (k i (i3_mem h0 hx (by have := G.three; omega))) (fun hu => by rw [G.hi0 hu]; rfl)

theorem uk5 : chkV (fun ds bs => (i3 1).all fun i => ckU (hiF ds == 0) (lcF (obA (truthF (ds.length : Int) (loF ds) (hiF ds))) (obB (truthF (ds.length : Int) (loF ds) (hiF ds))) i) (if 0 < bs.sum then 1 else 0) i) = true := by decide +kernel
theorem uo5 {u i : Int} {ds bs : List Int} (G : Good u ds bs) (h0 : 0 ≤ i) (hx : i < 1) : OkC u (lcF (obA (truthF (ds.length : Int) (loF ds) (hiF ds))) (obB (truthF (ds.length : Int) (loF ds) (hiF ds))) i) (some (if 0 < bs.sum then 1 else 0)) i := by
  have k := chkV_use uk5 G.fill G.dig G.one G.three
  simp only [List.all_eq_true] at k
  exact .both (k i (i3_mem h0 hx (by have := G.three; omega))) (fun hu => by rw [G.hi0 hu]; rfl)

theorem uk6 : chkV (fun ds bs => (i3 1).all fun i => ckU (hiF ds == 0) (lcF (ntA 1 (obA (truthF (ds.length : Int) (loF ds) (hiF ds))) (obB (truthF (ds.length : Int) (loF ds) (hiF ds)))) (obB (truthF (ds.length : Int) (loF ds) (hiF ds))) i) (if bs.sum = 0 then 1 else 0) i) = true := by decide +kernel
theorem uo6 {u i : Int} {ds bs : List Int} (G : Good u ds bs) (h0 : 0 ≤ i) (hx : i < 1) : OkC u (lcF (ntA 1 (obA (truthF (ds.length : Int) (loF ds) (hiF ds))) (obB (truthF (ds.length : Int) (loF ds) (hiF ds)))) (obB (truthF (ds.length : Int) (loF ds) (hiF ds))) i) (some (if bs.sum = 0 then 1 else 0)) i := by
  have k := chkV_use uk6 G.fill G.dig G.one G.three
  simp only [List.all_eq_true] at k
  exact .both (k i (i3_mem h0 hx (by have := G.three; omega))) (fun hu => by rw [G.hi0 hu]; rfl)

theorem uk7 : chkV (fun ds bs => (i3 1).all fun i => ckU (hiF ds == 0) (lcF (obA (rxF (loF ds) (hiF ds))) (obB (rxF (loF ds) (hiF ds))) i) (if bs.sum.fmod 2 = 1 then 1 else 0) i) = true := by decide +kernel
theorem uo7 {u i : Int} {ds bs : List Int} (G : Good u ds bs) (h0 : 0 ≤ i) (hx : i < 1) : OkC u (lcF (obA (rxF (loF ds) (hiF ds))) (obB (rxF (loF ds) (hiF ds))) i) (some (if bs.sum.fmod 2 = 1 then 1 else 0)) i := by
  have k := chkV_use uk7 G.fill G.dig G.one G.three
  simp only [List.all_eq_true] at k
  exact .both (k i (i3_mem h0 hx (by have := G.three; omega))) (fun hu => by rw [G.hi0 hu]; rfl)

theorem uk8 : chkV (fun ds bs => (i3 1).all fun i => ckU (hiF ds == 0) (lcF (ntA 1 (obA (rxF (loF ds) (hiF ds))) (obB (rxF (loF ds) (hiF ds)))) (obB (rxF (loF ds) (hiF ds))) i) (if bs.sum.fmod 2 = 0 then 1 else 0) i) = true := by decide +kernel
theorem uo8 {u i : Int} {ds bs : List Int} (G : Good u ds bs) (h0 : 0 ≤ i) (hx : i < 1) : OkC u (lcF (ntA 1 (obA (rxF (loF ds) (hiF ds))) (obB (rxF (loF ds) (hiF ds)))) (obB (rxF (loF ds) (hiF ds))) i) (some (if bs.sum.fmod 2 = 0 then 1 else 0)) i := by
  have k := chkV_use uk8 G.fill G.dig G.one G.three
  simp only [List.all_eq_true] at k
  exact .both (k i (i3_mem h0 hx (by have := G.three; omega))) (fun hu => by rw [G.hi0 hu]; rfl)

theorem law_one {op : Str} (hop : op ∈ unOps) {u i : Int} {ds bs : List Int} (G : Good u ds bs) (h0 : 0 ≤ i) (hx : i < unX op ds.length) : OkC u (lcF (unA op ds.length (loF ds) (hiF ds)) (unB op ds.length (loF ds) (hiF ds)) i) (some (oneD op bs)) i := by
  simp only [unOps, List.mem_cons, List.not_mem_nil, or_false] at hop
  rcases hop with rfl | rfl | rfl | rfl | rfl | rfl | rfl | rfl | rfl
  · have e1 : unX (Str.ofString "~") ds.length = (ds.length : Int) := by kernel_rfl!
    have e2 : unA (Str.ofString "~") ds.length (loF ds) (hiF ds) = ntA (ds.length : Int) (loF ds) (hiF ds) := by kernel_rfl!
    have e3 : unB (Str.ofString "~") ds.length (loF ds) (hiF ds) = (hiF ds) := by kernel_rfl!
    have e4 : oneD (Str.ofString "~") bs = 2 ^ (bs.length : Int).toNat - 1 - whF bs false := by kernel_rfl!
    rw [e1] at hx
    rw [e2, e3, e4]
    exact uo0 G h0 hx
  · have e1 : unX (Str.ofString "-") ds.length = (ds.length : Int) := by kernel_rfl!
    have e2 : unA (Str.ofString "-") ds.length (loF ds) (hiF ds) = arA (ds.length : Int) (hiF ds) 0 (0 - (loF ds)) := by kernel_rfl!
    have e3 : unB (Str.ofString "-") ds.length (loF ds) (hiF ds) = arB (ds.length : Int) (hiF ds) 0 := by kernel_rfl!
    have e4 : oneD (Str.ofString "-") bs = - whF bs false := by kernel_rfl!
    rw [e1] at hx
    rw [e2, e3, e4]
    exact uo1 G h0 hx
  · have e1 : unX (Str.ofString "!") ds.length = 1 := by kernel_rfl!
    have e2 : unA (Str.ofString "!") ds.length (loF ds) (hiF ds) = ntA 1 (obA (truthF (ds.length : Int) (loF ds) (hiF ds))) (obB (truthF (ds.length : Int) (loF ds) (hiF ds))) := by kernel_rfl!
    have e3 : unB (Str.ofString "!") ds.length (loF ds) (hiF ds) = obB (truthF (ds.length : Int) (loF ds) (hiF ds)) := by kernel_rfl!
    have e4 : oneD (Str.ofString "!") bs = if bs.sum = 0 then 1 else 0 := by kernel_rfl!
    rw [e1] at hx
    rw [e2, e3, e4]
    exact uo2 G h0 hx
  · have e1 : unX (Str.ofString "&") ds.length = 1 := by kernel_rfl!
    have e2 : unA (Str.ofString "&") ds.length (loF ds) (hiF ds) = obA (raF (ds.length : Int) (loF ds) (hiF ds)) := by kernel_rfl!
    have e3 : unB (Str.ofString "&") ds.length (loF ds) (hiF ds) = obB (raF (ds.length : Int) (loF ds) (hiF ds)) := by kernel_rfl!
    have e4 : oneD (Str.ofString "&") bs = if bs.sum = bs.length then 1 else 0 := by kernel_rfl!
    rw [e1] at hx
    rw [e2, e3, e4]
    exact uo3 G h0 hx
  · have e1 : unX (Str.ofString "~&") ds.length = 1 := by kernel_rfl!
    have e2 : unA (Str.ofString "~&") ds.length (loF ds) (hiF ds) = ntA 1 (obA (raF (ds.length : Int) (loF ds) (hiF ds))) (obB (raF (ds.length : Int) (loF ds) (hiF ds))) := by kernel_rfl!
    have e3 : unB (Str.ofString "~&") ds.length (loF ds) (hiF ds) = obB (raF (ds.length : Int) (loF ds) (hiF ds)) := by kernel_rfl!
    have e4 : oneD (Str.ofString "~&") bs = if bs.sum < bs.length then 1 else 0 := by kernel_rfl!
    rw [e1] at hx
    rw [e2, e3, e4]
    exact uo4 G h0 hx
  · have e1 : unX (Str.ofString "|") ds.length = 1 := by kernel_rfl!
    have e2 : unA (Str.ofString "|") ds.length (loF ds) (hiF ds) = obA (truthF (ds.length : Int) (loF ds) (hiF ds)) := by kernel_rfl!
    have e3 : unB (Str.ofString "|") ds.length (loF ds) (hiF ds) = obB (truthF (ds.length : Int) (loF ds) (hiF ds)) := by kernel_rfl!
    have e4 : oneD (Str.ofString "|") bs = if 0 < bs.sum then 1 else 0 := by kernel_rfl!
    rw [e1] at hx
    rw [e2, e3, e4]
    exact uo5 G h0 hx
  · have e1 : unX (Str.ofString "~|") ds.length = 1 := by kernel_rfl!
    have e2 : unA (Str.ofString "~|") ds.length (loF ds) (hiF ds) = ntA 1 (obA (truthF (ds.length : Int) (loF ds) (hiF ds))) (obB (truthF (ds.length : Int) (loF ds) (hiF ds))) := by kernel_rfl!
    have e3 : unB (Str.ofString "~|") ds.length (loF ds) (hiF ds) = obB (truthF (ds.length : Int) (loF ds) (hiF ds)) := by kernel_rfl!
    have e4 : oneD (Str.ofString "~|") bs = if bs.sum = 0 then 1 else 0 := by kernel_rfl!
    rw [e1] at hx
    rw [e2, e3, e4]
    exact uo6 G h0 hx
  · have e1 : unX (Str.ofString "^") ds.length = 1 := by kernel_rfl!
    have e2 : unA (Str.ofString "^") ds.length (loF ds) (hiF ds) = obA (rxF (loF ds) (hiF ds)) := by kernel_rfl!
    have e3 : unB (Str.ofString "^") ds.length (loF ds) (hiF ds) = obB (rxF (loF ds) (hiF ds)) := by kernel_rfl!
    have e4 : oneD (Str.ofString "^") bs = if bs.sum.fmod 2 = 1 then 1 else 0 := by kernel_rfl!
    rw [e1] at hx
    rw [e2, e3, e4]
    exact uo7 G h0 hx
  · have e1 : unX (Str.ofString "~^") ds.length = 1 := by kernel_rfl!
    have e2 : unA (Str.ofString "~^") ds.length (loF ds) (hiF ds) = ntA 1 (obA (rxF (loF ds) (hiF ds))) (obB (rxF (loF ds) (hiF ds))) := by kernel_rfl!
    have e3 : unB (Str.ofString "~^") ds.length (loF ds) (hiF ds) = obB (rxF (loF ds) (hiF ds)) := by kernel_rfl!
    have e4 : oneD (Str.ofString "~^") bs = if bs.sum.fmod 2 = 0 then 1 else 0 := by kernel_rfl!
    rw [e1] at hx
    rw [e2, e3, e4]
    exact uo8 G h0 hx

theorem law_two {op : Str} (hop : op ∈ pairOps) {u i : Int} {ds es bs cs : List Int} {sg : Bool} (G : Good u ds bs) (H : Good u es cs) (hl : es.length = ds.length) (h0 : 0 ≤ i) (hx : i < binX op ds.length) : OkC u (lcF (binA op ds.length (loF ds) (hiF ds) (loF es) (hiF es) sg) (binB op ds.length (loF ds) (hiF ds) (loF es) (hiF es) sg) i) (twoD op bs cs sg) i := by
  simp only [pairOps, List.mem_cons, List.not_mem_nil, or_false] at hop
  rcases hop with rfl | rfl | rfl | rfl | rfl | rfl | rfl | rfl | rfl | rfl | rfl | rfl | rfl | rfl | rfl | rfl | rfl | rfl | rfl | rfl | rfl
  · have e1 : binX (Str.ofString "|") ds.length = (ds.length : Int) := by kernel_rfl!
    have e2 : binA (Str.ofString "|") ds.length (loF ds) (hiF ds) (loF es) (hiF es) sg = orA (loF ds) (hiF ds) (loF es) (hiF es) := by kernel_rfl!
    have e3 : binB (Str.ofString "|") ds.length (loF ds) (hiF ds) (loF es) (hiF es) sg = orB (ds.length : Int) (loF ds) (hiF ds) (loF es) (hiF es) := by kernel_rfl!
    have e4 : twoD (Str.ofString "|") bs cs sg = (some (Builtin.bitOr (whF bs sg) (whF cs sg))) := by kernel_rfl!
    rw [e1] at hx
    rw [e2, e3, e4]
    exact ok0 (sg := sg) G H hl h0 hx
  · have e1 : binX (Str.ofString "+") ds.length = (ds.length : Int) := by kernel_rfl!
    have e2 : binA (Str.ofString "+") ds.length (loF ds) (hiF ds) (loF es) (hiF es) sg = arA (ds.length : Int) (hiF ds) (hiF es) ((loF ds) + (loF es)) := by kernel_rfl!
    have e3 : binB (Str.ofString "+") ds.length (loF ds) (hiF ds) (loF es) (hiF es) sg = arB (ds.length : Int) (hiF ds) (hiF es) := by kernel_rfl!
    have e4 : twoD (Str.ofString "+") bs cs sg = (some ((whF bs sg) + (whF cs sg))) := by kernel_rfl!
    rw [e1] at hx
    rw [e2, e3, e4]
    exact ok1 (sg := sg) G H hl h0 hx
  · have e1 : binX (Str.ofString "-") ds.length = (ds.length : Int) := by kernel_rfl!
    have e2 : binA (Str.ofString "-") ds.length (loF ds) (hiF ds) (loF es) (hiF es) sg = arA (ds.length : Int) (hiF ds) (hiF es) ((loF ds) - (loF es)) := by kernel_rfl!
    have e3 : binB (Str.ofString "-") ds.length (loF ds) (hiF ds) (loF es) (hiF es) sg = arB (ds.length : Int) (hiF ds) (hiF es) := by kernel_rfl!
    have e4 : twoD (Str.ofString "-") bs cs sg = (some ((whF bs sg) - (whF cs sg))) := by kernel_rfl!
    rw [e1] at hx
    rw [e2, e3, e4]
    exact ok2 (sg := sg) G H hl h0 hx
  · have e1 : binX (Str.ofString "*") ds.length = (ds.length : Int) := by kernel_rfl!
    have e2 : binA (Str.ofString "*") ds.length (loF ds) (hiF ds) (loF es) (hiF es) sg = arA (ds.length : Int) (hiF ds) (hiF es) ((loF ds) * (loF es)) := by kernel_rfl!
    have e3 : binB (Str.ofString "*") ds.length (loF ds) (hiF ds) (loF es) (hiF es) sg = arB (ds.length : Int) (hiF ds) (hiF es) := by kernel_rfl!
    have e4 : twoD (Str.ofString "*") bs cs sg = (some ((whF bs sg) * (whF cs sg))) := by kernel_rfl!
    rw [e1] at hx
    rw [e2, e3, e4]
    exact ok3 (sg := sg) G H hl h0 hx
  · have e1 : binX (Str.ofString "/") ds.length = (ds.length : Int) := by kernel_rfl!
    have e2 : binA (Str.ofString "/") ds.length (loF ds) (hiF ds) (loF es) (hiF es) sg = dvA (ds.length : Int) (hiF ds) (hiF es) (toIntF (ds.length : Int) (loF es) sg) (quotF (toIntF (ds.length : Int) (loF ds) sg) (toIntF (ds.length : Int) (loF es) sg)) := by kernel_rfl!
    have e3 : binB (Str.ofString "/") ds.length (loF ds) (hiF ds) (loF es) (hiF es) sg = dvB (ds.length : Int) (hiF ds) (hiF es) (toIntF (ds.length : Int) (loF es) sg) := by kernel_rfl!
    have e4 : twoD (Str.ofString "/") bs cs sg = ((if whF cs sg = 0 then none else some (quotL (whF bs sg) (whF cs sg)))) := by kernel_rfl!
    rw [e1] at hx
    rw [e2, e3, e4]
    exact ok4 (sg := sg) G H hl h0 hx
  · have e1 : binX (Str.ofString "%") ds.length = (ds.length : Int) := by kernel_rfl!
    have e2 : binA (Str.ofString "%") ds.length (loF ds) (hiF ds) (loF es) (hiF es) sg = dvA (ds.length : Int) (hiF ds) (hiF es) (toIntF (ds.length : Int) (loF es) sg) (toIntF (ds.length : Int) (loF ds) sg - toIntF (ds.length : Int) (loF es) sg * quotF (toIntF (ds.length : Int) (loF ds) sg) (toIntF (ds.length : Int) (loF es) sg)) := by kernel_rfl!
    have e3 : binB (Str.ofString "%") ds.length (loF ds) (hiF ds) (loF es) (hiF es) sg = dvB (ds.length : Int) (hiF ds) (hiF es) (toIntF (ds.length : Int) (loF es) sg) := by kernel_rfl!
    have e4 : twoD (Str.ofString "%") bs cs sg = ((if whF cs sg = 0 then none else some (whF bs sg - whF cs sg * quotL (whF bs sg) (whF cs sg)))) := by kernel_rfl!
    rw [e1] at hx
    rw [e2, e3, e4]
    exact ok5 (sg := sg) G H hl h0 hx
  · have e1 : binX (Str.ofString "<<") ds.length = (ds.length : Int) := by kernel_rfl!
    have e2 : binA (Str.ofString "<<") ds.length (loF ds) (hiF ds) (loF es) (hiF es) sg = slF (ds.length : Int) (loF es) (hiF es) (loF ds) := by kernel_rfl!
    have e3 : binB (Str.ofString "<<") ds.length (loF ds) (hiF ds) (loF es) (hiF es) sg = slF (ds.length : Int) (loF es) (hiF es) (hiF ds) := by kernel_rfl!
    have e4 : twoD (Str.ofString "<<") bs cs sg = (some (whF bs false * 2 ^ (if (bs.length : Int) < whF cs false then (bs.length : Int) else whF cs false).toNat)) := by kernel_rfl!
    rw [e1] at hx
    rw [e2, e3, e4]
    exact ok6 (sg := sg) G H hl h0 hx
  · have e1 : binX (Str.ofString "<<<") ds.length = (ds.length : Int) := by kernel_rfl!
    have e2 : binA (Str.ofString "<<<") ds.length (loF ds) (hiF ds) (loF es) (hiF es) sg = slF (ds.length : Int) (loF es) (hiF es) (loF ds) := by kernel_rfl!
    have e3 : binB (Str.ofString "<<<") ds.length (loF ds) (hiF ds) (loF es) (hiF es) sg = slF (ds.length : Int) (loF es) (hiF es) (hiF ds) := by kernel_rfl!
    have e4 : twoD (Str.ofString "<<<") bs cs sg = (some (whF bs false * 2 ^ (if (bs.length : Int) < whF cs false then (bs.length : Int) else whF cs false).toNat)) := by kernel_rfl!
    rw [e1] at hx
    rw [e2, e3, e4]
    exact ok7 (sg := sg) G H hl h0 hx
  · have e1 : binX (Str.ofString ">>") ds.length = (ds.length : Int) := by kernel_rfl!
    have e2 : binA (Str.ofString ">>") ds.length (loF ds) (hiF ds) (loF es) (hiF es) sg = srF (ds.length : Int) (loF es) (hiF es) (loF ds) := by kernel_rfl!
    have e3 : binB (Str.ofString ">>") ds.length (loF ds) (hiF ds) (loF es) (hiF es) sg = srF (ds.length : Int) (loF es) (hiF es) (hiF ds) := by kernel_rfl!
    have e4 : twoD (Str.ofString ">>") bs cs sg = (some ((whF bs false).fdiv (2 ^ (if (bs.length : Int) < whF cs false then (bs.length : Int) else whF cs false).toNat))) := by kernel_rfl!
    rw [e1] at hx
    rw [e2, e3, e4]
    exact ok8 (sg := sg) G H hl h0 hx
  · have e1 : binX (Str.ofString ">>>") ds.length = (ds.length : Int) := by kernel_rfl!
    have e2 : binA (Str.ofString ">>>") ds.length (loF ds) (hiF ds) (loF es) (hiF es) sg = saF (ds.length : Int) (loF ds) (hiF ds) (loF es) (hiF es) (loF ds) 1 sg := by kernel_rfl!
    have e3 : binB (Str.ofString ">>>") ds.length (loF ds) (hiF ds) (loF es) (hiF es) sg = saF (ds.length : Int) (loF ds) (hiF ds) (loF es) (hiF es) (hiF ds) 2 sg := by kernel_rfl!
    have e4 : twoD (Str.ofString ">>>") bs cs sg = (some ((whF bs sg).fdiv (2 ^ (if (bs.length : Int) < whF cs false then (bs.length : Int) else whF cs false).toNat))) := by kernel_rfl!
    rw [e1] at hx
    rw [e2, e3, e4]
    exact ok9 (sg := sg) G H hl h0 hx
  · have e1 : binX (Str.ofString "<") ds.length = 1 := by kernel_rfl!
    have e2 : binA (Str.ofString "<") ds.length (loF ds) (hiF ds) (loF es) (hiF es) sg = cmpA (hiF ds) (hiF es) (if ordF (toIntF (ds.length : Int) (loF ds) sg) (toIntF (ds.length : Int) (loF es) sg) < 0 then 1 else 0) := by kernel_rfl!
    have e3 : binB (Str.ofString "<") ds.length (loF ds) (hiF ds) (loF es) (hiF es) sg = cmpB (hiF ds) (hiF es) := by kernel_rfl!
    have e4 : twoD (Str.ofString "<") bs cs sg = (some (if (whF bs sg) < (whF cs sg) then 1 else 0)) := by kernel_rfl!
    rw [e1] at hx
    rw [e2, e3, e4]
    exact ok10 (sg := sg) G H hl h0 hx
  · have e1 : binX (Str.ofString "<=") ds.length = 1 := by kernel_rfl!
    have e2 : binA (Str.ofString "<=") ds.length (loF ds) (hiF ds) (loF es) (hiF es) sg = cmpA (hiF ds) (hiF es) (if ordF (toIntF (ds.length : Int) (loF ds) sg) (toIntF (ds.length : Int) (loF es) sg) ≤ 0 then 1 else 0) := by kernel_rfl!
    have e3 : binB (Str.ofString "<=") ds.length (loF ds) (hiF ds) (loF es) (hiF es) sg = cmpB (hiF ds) (hiF es) := by kernel_rfl!
    have e4 : twoD (Str.ofString "<=") bs cs sg = (some (if (whF bs sg) ≤ (whF cs sg) then 1 else 0)) := by kernel_rfl!
    rw [e1] at hx
    rw [e2, e3, e4]
    exact ok11 (sg := sg) G H hl h0 hx
  · have e1 : binX (Str.ofString ">") ds.length = 1 := by kernel_rfl!
    have e2 : binA (Str.ofString ">") ds.length (loF ds) (hiF ds) (loF es) (hiF es) sg = cmpA (hiF ds) (hiF es) (if ordF (toIntF (ds.length : Int) (loF es) sg) (toIntF (ds.length : Int) (loF ds) sg) < 0 then 1 else 0) := by kernel_rfl!
    have e3 : binB (Str.ofString ">") ds.length (loF ds) (hiF ds) (loF es) (hiF es) sg = cmpB (hiF ds) (hiF es) := by kernel_rfl!
    have e4 : twoD (Str.ofString ">") bs cs sg = (some (if (whF cs sg) < (whF bs sg) then 1 else 0)) := by kernel_rfl!
    rw [e1] at hx
    rw [e2, e3, e4]
    exact ok12 (sg := sg) G H hl h0 hx
  · have e1 : binX (Str.ofString ">=") ds.length = 1 := by kernel_rfl!
    have e2 : binA (Str.ofString ">=") ds.length (loF ds) (hiF ds) (loF es) (hiF es) sg = cmpA (hiF ds) (hiF es) (if ordF (toIntF (ds.length : Int) (loF es) sg) (toIntF (ds.length : Int) (loF ds) sg) ≤ 0 then 1 else 0) := by kernel_rfl!
    have e3 : binB (Str.ofString ">=") ds.length (loF ds) (hiF ds) (loF es) (hiF es) sg = cmpB (hiF ds) (hiF es) := by kernel_rfl!
    have e4 : twoD (Str.ofString ">=") bs cs sg = (some (if (whF cs sg) ≤ (whF bs sg) then 1 else 0)) := by kernel_rfl!
    rw [e1] at hx
    rw [e2, e3, e4]
    exact ok13 (sg := sg) G H hl h0 hx
  · have e1 : binX (Str.ofString "==") ds.length = 1 := by kernel_rfl!
    have e2 : binA (Str.ofString "==") ds.length (loF ds) (hiF ds) (loF es) (hiF es) sg = obA (eqF (ds.length : Int) (loF ds) (hiF ds) (loF es) (hiF es)) := by kernel_rfl!
    have e3 : binB (Str.ofString "==") ds.length (loF ds) (hiF ds) (loF es) (hiF es) sg = obB (eqF (ds.length : Int) (loF ds) (hiF ds) (loF es) (hiF es)) := by kernel_rfl!
    have e4 : twoD (Str.ofString "==") bs cs sg = (some (if (whF bs sg) = (whF cs sg) then 1 else 0)) := by kernel_rfl!
    rw [e1] at hx
    rw [e2, e3, e4]
    exact ok14 (sg := sg) G H hl h0 hx
  · have e1 : binX (Str.ofString "!=") ds.length = 1 := by kernel_rfl!
    have e2 : binA (Str.ofString "!=") ds.length (loF ds) (hiF ds) (loF es) (hiF es) sg = ntA 1 (obA (eqF (ds.length : Int) (loF ds) (hiF ds) (loF es) (hiF es))) (obB (eqF (ds.length : Int) (loF ds) (hiF ds) (loF es) (hiF es))) := by kernel_rfl!
    have e3 : binB (Str.ofString "!=") ds.length (loF ds) (hiF ds) (loF es) (hiF es) sg = obB (eqF (ds.length : Int) (loF ds) (hiF ds) (loF es) (hiF es)) := by kernel_rfl!
    have e4 : twoD (Str.ofString "!=") bs cs sg = (some (if (whF bs sg) ≠ (whF cs sg) then 1 else 0)) := by kernel_rfl!
    rw [e1] at hx
    rw [e2, e3, e4]
    exact ok15 (sg := sg) G H hl h0 hx
  · have e1 : binX (Str.ofString "&") ds.length = (ds.length : Int) := by kernel_rfl!
    have e2 : binA (Str.ofString "&") ds.length (loF ds) (hiF ds) (loF es) (hiF es) sg = anA (loF ds) (hiF ds) (loF es) (hiF es) := by kernel_rfl!
    have e3 : binB (Str.ofString "&") ds.length (loF ds) (hiF ds) (loF es) (hiF es) sg = anB (loF ds) (hiF ds) (loF es) (hiF es) := by kernel_rfl!
    have e4 : twoD (Str.ofString "&") bs cs sg = (some (Builtin.bitAnd (whF bs sg) (whF cs sg))) := by kernel_rfl!
    rw [e1] at hx
    rw [e2, e3, e4]
    exact ok16 (sg := sg) G H hl h0 hx
  · have e1 : binX (Str.ofString "^") ds.length = (ds.length : Int) := by kernel_rfl!
    have e2 : binA (Str.ofString "^") ds.length (loF ds) (hiF ds) (loF es) (hiF es) sg = xoA (loF ds) (hiF ds) (loF es) (hiF es) := by kernel_rfl!
    have e3 : binB (Str.ofString "^") ds.length (loF ds) (hiF ds) (loF es) (hiF es) sg = xoB (hiF ds) (hiF es) := by kernel_rfl!
    have e4 : twoD (Str.ofString "^") bs cs sg = (some (Builtin.bitXor (whF bs sg) (whF cs sg))) := by kernel_rfl!
    rw [e1] at hx
    rw [e2, e3, e4]
    exact ok17 (sg := sg) G H hl h0 hx
  · have e1 : binX (Str.ofString "~^") ds.length = (ds.length : Int) := by kernel_rfl!
    have e2 : binA (Str.ofString "~^") ds.length (loF ds) (hiF ds) (loF es) (hiF es) sg = ntA (ds.length : Int) (xoA (loF ds) (hiF ds) (loF es) (hiF es)) (xoB (hiF ds) (hiF es)) := by kernel_rfl!
    have e3 : binB (Str.ofString "~^") ds.length (loF ds) (hiF ds) (loF es) (hiF es) sg = xoB (hiF ds) (hiF es) := by kernel_rfl!
    have e4 : twoD (Str.ofString "~^") bs cs sg = (some (-1 - Builtin.bitXor (whF bs sg) (whF cs sg))) := by kernel_rfl!
    rw [e1] at hx
    rw [e2, e3, e4]
    exact ok18 (sg := sg) G H hl h0 hx
  · have e1 : binX (Str.ofString "&&") ds.length = 1 := by kernel_rfl!
    have e2 : binA (Str.ofString "&&") ds.length (loF ds) (hiF ds) (loF es) (hiF es) sg = anA (obA (truthF (ds.length : Int) (loF ds) (hiF ds))) (obB (truthF (ds.length : Int) (loF ds) (hiF ds))) (obA (truthF (ds.length : Int) (loF es) (hiF es))) (obB (truthF (ds.length : Int) (loF es) (hiF es))) := by kernel_rfl!
    have e3 : binB (Str.ofString "&&") ds.length (loF ds) (hiF ds) (loF es) (hiF es) sg = anB (obA (truthF (ds.length : Int) (loF ds) (hiF ds))) (obB (truthF (ds.length : Int) (loF ds) (hiF ds))) (obA (truthF (ds.length : Int) (loF es) (hiF es))) (obB (truthF (ds.length : Int) (loF es) (hiF es))) := by kernel_rfl!
    have e4 : twoD (Str.ofString "&&") bs cs sg = (some (if (whF bs sg) ≠ 0 ∧ (whF cs sg) ≠ 0 then 1 else 0)) := by kernel_rfl!
    rw [e1] at hx
    rw [e2, e3, e4]
    exact ok19 (sg := sg) G H hl h0 hx
  · have e1 : binX (Str.ofString "||") ds.length = 1 := by kernel_rfl!
    have e2 : binA (Str.ofString "||") ds.length (loF ds) (hiF ds) (loF es) (hiF es) sg = orA (obA (truthF (ds.length : Int) (loF ds) (hiF ds))) (obB (truthF (ds.length : Int) (loF ds) (hiF ds))) (obA (truthF (ds.length : Int) (loF es) (hiF es))) (obB (truthF (ds.length : Int) (loF es) (hiF es))) := by kernel_rfl!
    have e3 : binB (Str.ofString "||") ds.length (loF ds) (hiF ds) (loF es) (hiF es) sg = orB 1 (obA (truthF (ds.length : Int) (loF ds) (hiF ds))) (obB (truthF (ds.length : Int) (loF ds) (hiF ds))) (obA (truthF (ds.length : Int) (loF es) (hiF es))) (obB (truthF (ds.length : Int) (loF es) (hiF es))) := by kernel_rfl!
    have e4 : twoD (Str.ofString "||") bs cs sg = (some (if (whF bs sg) ≠ 0 ∨ (whF cs sg) ≠ 0 then 1 else 0)) := by kernel_rfl!
    rw [e1] at hx
    rw [e2, e3, e4]
    exact ok20 (sg := sg) G H hl h0 hx

theorem slc_upto {prog : Program} {w : World} {A : Around} {E : Value → Shared → Prop} {s : Shared} {h₀ : Heap} {L l : Addr} {m : Str → Option Value} {news : Led} {value slice : PySem.Expr} {vs : List Value} {ds : List Int} {n : Nat} {y : Int} {u : Tok} {Q : Value → Shared → Prop}
    (F : Fr h₀ L s.heap m) (N : News h₀ L s.heap news) (ha : (l, W.listOf vs.toArray n) ∈ news) (hi : IntsAre vs ds) (h0 : 0 ≤ y) (hz : ds.length ≤ 1000)
    (h : ∀ D ws h', Fr h₀ L h' m → News h₀ L h' ((D, W.listOf (List.toArray ws) 0) :: news) → (∀ p ∈ news, p.1 < D) → IntsAre ws (ds.take y.toNat) → Q (.ref D) { s with heap := h' })
    (hs : subscripted slice false (.ref l) (.ref s.heap.objs.size) = operate [.ref s.heap.objs.size, .ref l] (getItem (.ref l) (.ref s.heap.objs.size))) (ht : ∀ r, letTemporaryGo value (.ref l) r = pure ()) :
    wpAny (model prog w) A (subscriptTail value slice (.ref l) (.ref s.heap.objs.size)) Q E { s with heap := s.heap.push { cls := .type "slice", data := .fields #[.none, .int y u, .none] } } :=
  kmk_slice_ints F N (News.isList N ha) (.none) (.int _ _) hi (kmk_upto hi h0) rfl (fun D ws h' F' N' l1 hI _ _ => h D ws h' F' N' l1 hI) hs ht (by rw [List.size_toArray, hi.length, sizeLine_eq]; omega)

theorem slc_from {prog : Program} {w : World} {A : Around} {E : Value → Shared → Prop} {s : Shared} {h₀ : Heap} {L l : Addr} {m : Str → Option Value} {news : Led} {value slice : PySem.Expr} {vs : List Value} {ds : List Int} {n : Nat} {y : Int} {u : Tok} {Q : Value → Shared → Prop}
    (F : Fr h₀ L s.heap m) (N : News h₀ L s.heap news) (ha : (l, W.listOf vs.toArray n) ∈ news) (hi : IntsAre vs ds) (h0 : 0 ≤ y) (hz : ds.length ≤ 1000)
    (h : ∀ D ws h', Fr h₀ L h' m → News h₀ L h' ((D, W.listOf (List.toArray ws) 0) :: news) → (∀ p ∈ news, p.1 < D) → IntsAre ws (ds.drop y.toNat) → Q (.ref D) { s with heap := h' })
    (hs : subscripted slice false (.ref l) (.ref s.heap.objs.size) = operate [.ref s.heap.objs.size, .ref l] (getItem (.ref l) (.ref s.heap.objs.size))) (ht : ∀ r, letTemporaryGo value (.ref l) r = pure ()) :
    wpAny (model prog w) A (subscriptTail value slice (.ref l) (.ref s.heap.objs.size)) Q E { s with heap := s.heap.push { cls := .type "slice", data := .fields #[.int y u, .none, .none] } } :=
  kmk_slice_ints F N (News.isList N ha) (.int _ _) (.none) hi (kmk_from hi h0) rfl (fun D ws h' F' N' l1 hI _ _ => h D ws h' F' N' l1 hI) hs ht (by rw [List.size_toArray, hi.length, sizeLine_eq]; omega)

noncomputable def Jo (ia pa sa ra : Addr) (li lp lr : List Value) (ki kp ks kr : Nat) (n : Nat) (m : Str → Option Value) (news : Led) : Prop :=
  m (Str.ofString "state") = some (.ref sa) ∧ m (Str.ofString "pairs") = some (.ref pa) ∧ m (Str.ofString "singles") = some (.ref ia) ∧
  ∃ i t, news = [(ia, W.listOf li.toArray ki), (pa, W.listOf lp.toArray kp), (sa, W.listOf #[.ref ra, .int i t] ks), (ra, W.listOf lr.toArray kr)] ∧ 0 ≤ i ∧ i ≤ 1 + 10 * n
theorem strs_at : ∀ {vs : List Value} {xs : List Str}, StrsAre vs xs → ∀ {k : Nat} (hk : k < xs.length), ∃ t, vs[k]? = some (.str xs[k] t)
  | _, _, .cons x t _, 0, _ => ⟨t, rfl⟩
  | _, _, .cons _ _ h, k + 1, hk => by simpa using strs_at h (k := k) (by simpa using hk)
theorem law_loop {prog : Program} {w : World} {A : Around} {E : Value → Shared → Prop} {s : Shared} {env : Env} {h₀ : Heap} {x : Str} {body : List Stmt} {Q : Flow → Shared → Prop} {r : Addr} {b i₀ : Int} {t₀ u₀ v₀ t' : Tok} {m₀ : Str → Option Value} {ia pa sa ra : Addr} {li lp lr : List Value} {ki kp ks kr : Nat}
    (hh : A.handled = none) (hr : IsRange s.heap r 0 b 1 t₀ u₀ v₀) (hb0 : 0 ≤ b) (hb9 : b ≤ 10) (F : Fr h₀ env.locals s.heap m₀)
    (N : News h₀ env.locals s.heap [(ia, W.listOf li.toArray ki), (pa, W.listOf lp.toArray kp), (sa, W.listOf #[.ref ra, .int i₀ t'] ks), (ra, W.listOf lr.toArray kr)])
    (hi0 : 0 ≤ i₀) (hi1 : i₀ ≤ 1) (hm1 : m₀ (Str.ofString "state") = some (.ref sa)) (hm2 : m₀ (Str.ofString "pairs") = some (.ref pa)) (hm3 : m₀ (Str.ofString "singles") = some (.ref ia))
    (turn : ∀ (n : Nat) (t : Tok) (m₁ : Str → Option Value) (h : Heap) (tk : Nat) (I : Addr) (o : Obj) (i : Int) (t' : Tok), (n : Int) < b → 0 ≤ i → i ≤ 1 + 10 * n → m₁ (Str.ofString "state") = some (.ref sa) → m₁ (Str.ofString "pairs") = some (.ref pa) → m₁ (Str.ofString "singles") = some (.ref ia) →
      @Ne Nat ia I → @Ne Nat pa I → @Ne Nat sa I → @Ne Nat ra I → Fr h₀ env.locals h (fun y => if y = x then some (.int (n : Int) t) else m₁ y) →
      News h₀ env.locals h [(I, o), (ia, W.listOf li.toArray ki), (pa, W.listOf lp.toArray kp), (sa, W.listOf #[.ref ra, .int i t'] ks), (ra, W.listOf lr.toArray kr)] →
      wpAny (model prog w) A (execs body env) (LoopPost h₀ env.locals s [(I, o)] I (Jo ia pa sa ra li lp lr ki kp ks kr (n + 1)) Q) E { s with heap := h, toks := tk })
    (done : ∀ m₁ news₁ h tk, Fr h₀ env.locals h m₁ → News h₀ env.locals h news₁ → Q .next { s with heap := h, toks := tk }) :
    wpAny (model prog w) A (pyIter (.ref r)) (fun it s₂ => LoopAtV prog w A h₀ env x body Q E it s₂) E s := by
  refine rng_loop (Jo ia pa sa ra li lp lr ki kp ks kr) hh hr (rng_small hb0 (by omega)) (rng_size hb0) F N ⟨hm1, hm2, hm3, _, _, rfl, hi0, by simpa using hi1⟩ ?_ fun m₁ news₁ h tk _ => done m₁ news₁ h tk
  rintro n t m₁ news₁ h tk I o hn ⟨j1, j2, j3, i, t', rfl, g0, g1⟩ hne F' N'
  exact turn n t m₁ h tk I o i t' (by omega) g0 g1 j1 j2 j3 (hne _ (.head _)) (hne _ (.tail _ (.head _))) (hne _ (.tail _ (.tail _ (.head _)))) (hne _ (.tail _ (.tail _ (.tail _ (.head _))))) F' N'
theorem item_strs_led {prog : Program} {w : World} {A : Around} {E : Value → Shared → Prop} {s : Shared} {h₀ : Heap} {L : Addr} {news : List (Addr × Obj)} {value slice : PySem.Expr} {l : Addr} {vs : List Value} {xs : List Str} {n : Nat} {k : Int} {u : Tok} {Q : Value → Shared → Prop}
    (N : News h₀ L s.heap news) (ha : (l, W.listOf vs.toArray n) ∈ news) (hi : StrsAre vs xs) (h0 : 0 ≤ k) (h1 : k < xs.length)
    (hs : subscripted slice false (.ref l) (.int k u) = operate [.ref l, .int k u] (getItem (.ref l) (.int k u))) (hfit : k < 2 ^ 63) (h : ∀ y t, y ∈ xs → Q (.str y t) s) :
    wpAny (model prog w) A (subscriptTail value slice (.ref l) (.int k u)) Q E s := by
  have hL := News.isList N ha
  have hk : k.toNat < xs.length := by omega
  obtain ⟨t, ht⟩ := strs_at hi hk
  exact tail_any hL.typeIs slot_list_getitem.lookup (wpAny_getItem_list hL h0 hfit (by simpa using ht) (h _ t (List.getElem_mem hk))) hs
inductive UpdT (d : Addr) (o : Obj) (f : Tok → Obj) : Led → (Tok → Led) → Prop
  | head {r : Led} : (∀ p ∈ r, p.1 ≠ d) → UpdT d o f ((d, o) :: r) (fun t => (d, f t) :: r)
  | tail {p : Addr × Obj} {r : Led} {r' : Tok → Led} : p.1 ≠ d → UpdT d o f r r' → UpdT d o f (p :: r) (fun t => p :: r' t)
theorem UpdT.split {d : Addr} {o : Obj} {f : Tok → Obj} {l : Led} {l' : Tok → Led} (h : UpdT d o f l l') : ∃ pre post, l = pre ++ (d, o) :: post ∧ (∀ t, l' t = pre ++ (d, f t) :: post) ∧ ∀ p ∈ pre ++ post, p.1 ≠ d := by
  induction h with
  | head h => exact ⟨[], _, rfl, fun _ => rfl, h⟩
  | tail h _ ih =>
    obtain ⟨pre, post, e1, e2, e3⟩ := ih
    refine ⟨_ :: pre, post, by rw [e1]; rfl, fun t => by show _ :: _ = _; rw [e2 t]; rfl, fun p hp => ?_⟩
    rcases List.mem_cons.mp hp with rfl | hp
    · exact h
    · exact e3 p hp
theorem take_use {w : World} {news : Led} {news' : Tok → Led} {sa ra : Addr} {x i : Int} {t t' : Tok} {n q : Nat} {vs : List Value} {ns : List Int}
    {prog p : Program} {loose : List Str} {mean : ExcName → Option Value} {mg mb : Str → Option Value} {dp un : Nat} {gd : Option (List Code)} {cn : Str} {cs : Scope} {a : Addr} {ccd : Value} {cl : List (Str × Addr)} {outer : List Env} {A₀ : Around} {base h₀ : Heap} {L : Addr} {m : Str → Option Value} {s : Shared} {Q E : Value → Shared → Prop}
    (B : Below A₀ base outer h₀) (F : Fr h₀ L s.heap m) (X : (hd.heap_39 w.params).In h₀) (N : News h₀ L s.heap news) (T : Top p loose mean mg mb h₀) (hk : cs.kind = .function) (hdp : dp + 10 < recursionLimit) (hun : un + 8 * 10 < cLine)
    (U : UpdT sa (W.listOf #[.ref ra, .int i t] q) (fun u => W.listOf #[.ref ra, .int (i + 1) u] q) news news') (hra : (ra, W.listOf vs.toArray n) ∈ news) (hi : IntsAre vs ns) (hl : ns.length ≤ 40) (h0 : 0 ≤ i) (h9 : i < 200) (k0 : 1 ≤ x) (k9 : x < 30)
    (ret : ∀ r t t' h' tk', 0 ≤ r → r < x → Fr h₀ L h' m → News h₀ L h' (news' t') → Q (.int r t) { s with heap := h', toks := tk' }) :
    wpAny (model prog w) (ktrTop dp un gd cn cs L a ccd cl outer) (call (.ref 390) [.ref sa, .int x t']) Q E s := by
  obtain ⟨pre, post, e1, e2, e3⟩ := U.split
  have hra' : (ra, W.listOf vs.toArray n) ∈ pre ++ post := by
    rw [e1] at hra
    rcases List.mem_append.mp hra with h | h
    · exact List.mem_append_left _ h
    · rcases List.mem_cons.mp h with h | h
      · exfalso
        have h2 := congrArg (fun p : Addr × Obj => p.2.data) h
        simp only [Data.seq.injEq] at h2
        have h3 : vs = [.ref ra, .int i t] := by simpa using congrArg Array.toList h2.1
        rw [h3] at hi
        cases hi
      · exact List.mem_append_right _ h
  refine Goes.use (take_goes (t := t) (q := q) (led := pre ++ post) hra' hi hl e3 h0 h9 k0 k9) B F X (fun p hp => N p ?_) T hk hdp hun ?_
  · rw [e1]
    rcases List.mem_cons.mp hp with rfl | hp
    · simp
    · rcases List.mem_append.mp hp with h | h <;> simp [h]
  · intro r t t' h' tk' hr1 hr2 F' N'
    refine ret r t t' h' tk' hr1 hr2 F' fun p hp => N' p ?_
    rw [e2] at hp
    rcases List.mem_append.mp hp with h | h
    · exact .tail _ (List.mem_append_left _ h)
    · rcases List.mem_cons.mp h with rfl | h
      · exact .head _
      · exact .tail _ (List.mem_append_right _ h)

noncomputable def DsOk (ds : List Int) (u : Int) : Prop := (∀ d ∈ ds, 0 ≤ d ∧ d < 4) ∧ 0 ≤ u ∧ (u = 0 → ∀ d ∈ ds, d < 2)
theorem DsOk.snoc {ds : List Int} {u u' c : Int} (h : DsOk ds u) (c0 : 0 ≤ c) (c4 : c < 4) (hu : u ≤ u') (h2 : u' = 0 → c < 2) : DsOk (ds ++ [c]) u' := by
  obtain ⟨a1, a2, a3⟩ := h
  refine ⟨fun d hd => ?_, by omega, fun e d hd => ?_⟩
  · rcases List.mem_append.mp hd with h | h
    · exact a1 d h
    · rw [List.mem_singleton.mp h]; exact ⟨c0, c4⟩
  · rcases List.mem_append.mp hd with h | h
    · exact a3 (by omega) d h
    · rw [List.mem_singleton.mp h]; exact h2 e
noncomputable def Jd (da I ia pa sa ra : Addr) (oI oia opa : Obj) (lr : List Value) (ks kr : Nat) (W : Int) (tw : Tok) (db : Bool) (op : Str) (top : Tok) (sg : Bool) (i₀ : Int) (j : Nat) (m : Str → Option Value) (news : Led) : Prop :=
  (m (Str.ofString "state") = some (Value.ref sa) ∧ m (Str.ofString "pairs") = some (Value.ref pa) ∧ m (Str.ofString "singles") = some (Value.ref ia) ∧ m (Str.ofString "wide") = some (Value.int W tw) ∧ m (Str.ofString "double") = some (Value.bool db) ∧ m (Str.ofString "op") = some (Value.str op top) ∧ m (Str.ofString "signed") = some (Value.bool sg) ∧ m (Str.ofString "digits_of") = some (Value.ref da)) ∧ ∃ vs ds k i t u tu, news = [(da, PySem.W.listOf (List.toArray vs) k), (I, oI), (ia, oia), (pa, opa), (sa, PySem.W.listOf #[.ref ra, .int i t] ks), (ra, PySem.W.listOf lr.toArray kr)] ∧ m (Str.ofString "unknown") = some (Value.int u tu) ∧ IntsAre vs ds ∧ ds.length = j ∧ DsOk ds u ∧ i = i₀ + j
theorem dig_loop {prog : Program} {w : World} {A : Around} {E : Value → Shared → Prop} {s : Shared} {env : Env} {h₀ : Heap} {x : Str} {body : List Stmt} {Q : Flow → Shared → Prop} {r : Addr} {b i₀ : Int} {t₀ u₀ v₀ t' tu : Tok} {m₀ : Str → Option Value} {da I ia pa sa ra : Addr} {oI oia opa : Obj} {lr : List Value} {ks kr : Nat} {W : Int} {tw : Tok} {db : Bool} {op : Str} {top : Tok} {sg : Bool}
    (hh : A.handled = none) (hr : IsRange s.heap r 0 b 1 t₀ u₀ v₀) (hb0 : 0 ≤ b) (hb9 : b ≤ 10) (F : Fr h₀ env.locals s.heap m₀)
    (N : News h₀ env.locals s.heap [(da, PySem.W.listOf #[] 0), (I, oI), (ia, oia), (pa, opa), (sa, PySem.W.listOf #[.ref ra, .int i₀ t'] ks), (ra, PySem.W.listOf lr.toArray kr)]) (hm : m₀ (Str.ofString "state") = some (Value.ref sa) ∧ m₀ (Str.ofString "pairs") = some (Value.ref pa) ∧ m₀ (Str.ofString "singles") = some (Value.ref ia) ∧ m₀ (Str.ofString "wide") = some (Value.int W tw) ∧ m₀ (Str.ofString "double") = some (Value.bool db) ∧ m₀ (Str.ofString "op") = some (Value.str op top) ∧ m₀ (Str.ofString "signed") = some (Value.bool sg) ∧ m₀ (Str.ofString "digits_of") = some (Value.ref da)) (hu : m₀ (Str.ofString "unknown") = some (Value.int 0 tu))
    (turn : ∀ (j : Nat) (t : Tok) (m₁ : Str → Option Value) (h : Heap) (tk : Nat) (I2 : Addr) (o2 : Obj) (vs : List Value) (ds : List Int) (k : Nat) (i : Int) (t' : Tok) (u : Int) (tu : Tok), (j : Int) < b → m₁ (Str.ofString "state") = some (Value.ref sa) → m₁ (Str.ofString "pairs") = some (Value.ref pa) → m₁ (Str.ofString "singles") = some (Value.ref ia) → m₁ (Str.ofString "wide") = some (Value.int W tw) → m₁ (Str.ofString "double") = some (Value.bool db) → m₁ (Str.ofString "op") = some (Value.str op top) → m₁ (Str.ofString "signed") = some (Value.bool sg) → m₁ (Str.ofString "digits_of") = some (Value.ref da) → m₁ (Str.ofString "unknown") = some (Value.int u tu) → IntsAre vs ds → ds.length = j → DsOk ds u → i = i₀ + j →
      @Ne Nat da I2 → @Ne Nat I I2 → @Ne Nat ia I2 → @Ne Nat pa I2 → @Ne Nat sa I2 → @Ne Nat ra I2 → Fr h₀ env.locals h (fun y => if y = x then some (.int (j : Int) t) else m₁ y) →
      News h₀ env.locals h [(I2, o2), (da, PySem.W.listOf vs.toArray k), (I, oI), (ia, oia), (pa, opa), (sa, PySem.W.listOf #[.ref ra, .int i t'] ks), (ra, PySem.W.listOf lr.toArray kr)] →
      wpAny (model prog w) A (execs body env) (LoopPost h₀ env.locals s [(I2, o2)] I2 (Jd da I ia pa sa ra oI oia opa lr ks kr W tw db op top sg i₀ (j + 1)) Q) E { s with heap := h, toks := tk })
    (done : ∀ (m₁ : Str → Option Value) (h : Heap) (tk : Nat) (vs : List Value) (ds : List Int) (k : Nat) (i : Int) (t' : Tok) (u : Int) (tu : Tok), m₁ (Str.ofString "state") = some (Value.ref sa) → m₁ (Str.ofString "pairs") = some (Value.ref pa) → m₁ (Str.ofString "singles") = some (Value.ref ia) → m₁ (Str.ofString "wide") = some (Value.int W tw) → m₁ (Str.ofString "double") = some (Value.bool db) → m₁ (Str.ofString "op") = some (Value.str op top) → m₁ (Str.ofString "signed") = some (Value.bool sg) → m₁ (Str.ofString "digits_of") = some (Value.ref da) → m₁ (Str.ofString "unknown") = some (Value.int u tu) → IntsAre vs ds → ds.length = b.toNat → DsOk ds u → i = i₀ + b →
      Fr h₀ env.locals h m₁ → News h₀ env.locals h [(da, PySem.W.listOf vs.toArray k), (I, oI), (ia, oia), (pa, opa), (sa, PySem.W.listOf #[.ref ra, .int i t'] ks), (ra, PySem.W.listOf lr.toArray kr)] → Q .next { s with heap := h, toks := tk }) :
    wpAny (model prog w) A (pyIter (.ref r)) (fun it s₂ => LoopAtV prog w A h₀ env x body Q E it s₂) E s := by
  refine rng_loop (Jd da I ia pa sa ra oI oia opa lr ks kr W tw db op top sg i₀) hh hr (rng_small hb0 (by omega)) (rng_size hb0) F N ⟨hm, [], [], 0, _, _, 0, _, rfl, hu, .nil, rfl, ⟨fun _ h => (nomatch h), Int.le_refl _, fun _ _ h => (nomatch h)⟩, by simp⟩ ?_ ?_
  · rintro j t m₁ news₁ h tk I2 o2 hn ⟨⟨a1, a2, a3, a4, a5, a6, a7, a8⟩, vs, ds, k, i, t', u, tu, rfl, b1, b2, b3, b4, b5⟩ hne F' N'
    exact turn j t m₁ h tk I2 o2 vs ds k i t' u tu (by omega) a1 a2 a3 a4 a5 a6 a7 a8 b1 b2 b3 b4 b5 (hne _ (.head _)) (hne _ (.tail _ (.head _))) (hne _ (.tail _ (.tail _ (.head _)))) (hne _ (.tail _ (.tail _ (.tail _ (.head _))))) (hne _ (.tail _ (.tail _ (.tail _ (.tail _ (.head _)))))) (hne _ (.tail _ (.tail _ (.tail _ (.tail _ (.tail _ (.head _))))))) F' N'
  · rintro m₁ news₁ h tk ⟨⟨a1, a2, a3, a4, a5, a6, a7, a8⟩, vs, ds, k, i, t', u, tu, rfl, b1, b2, b3, b4, b5⟩ F' N'
    exact done m₁ h tk vs ds k i t' u tu a1 a2 a3 a4 a5 a6 a7 a8 b1 b2 b3 b4 (by omega) F' N'
theorem dig_next {i₀ : Int} {da I ia pa sa ra : Addr} {oI oia opa : Obj} {lr : List Value} {ks kr : Nat} {W : Int} {tw : Tok} {db : Bool} {op : Str} {top : Tok} {sg : Bool} {h₀ h' : Heap} {L I2 : Addr} {o2 : Obj} {s : Shared} {Q : Flow → Shared → Prop} {m' : Str → Option Value} {vs : List Value} {ds : List Int} {k tk' j : Nat} {i c u u' : Int} {t tc tu : Tok}
    (F : Fr h₀ L h' m') (N : News h₀ L h' ((I2, o2) :: [(da, PySem.W.listOf (vs.toArray.push (.int c tc)) (k + 1)), (I, oI), (ia, oia), (pa, opa), (sa, PySem.W.listOf #[.ref ra, .int i t] ks), (ra, PySem.W.listOf lr.toArray kr)])) (hm : m' (Str.ofString "state") = some (Value.ref sa) ∧ m' (Str.ofString "pairs") = some (Value.ref pa) ∧ m' (Str.ofString "singles") = some (Value.ref ia) ∧ m' (Str.ofString "wide") = some (Value.int W tw) ∧ m' (Str.ofString "double") = some (Value.bool db) ∧ m' (Str.ofString "op") = some (Value.str op top) ∧ m' (Str.ofString "signed") = some (Value.bool sg) ∧ m' (Str.ofString "digits_of") = some (Value.ref da)) (hu : m' (Str.ofString "unknown") = some (Value.int u' tu)) (hi : IntsAre vs ds) (hl : ds.length = j) (ho : DsOk ds u) (hj : i = i₀ + j + 1)
    (c0 : 0 ≤ c) (c4 : c < 4) (huu : u ≤ u') (h2 : u' = 0 → c < 2) (n1 : @Ne Nat da I2) (n2 : @Ne Nat I I2) (n3 : @Ne Nat ia I2) (n4 : @Ne Nat pa I2) (n5 : @Ne Nat sa I2) (n6 : @Ne Nat ra I2) :
    LoopPost h₀ L s [(I2, o2)] I2 (Jd da I ia pa sa ra oI oia opa lr ks kr W tw db op top sg i₀ (j + 1)) Q .next { s with heap := h', toks := tk' } := by
  have e : vs.toArray.push (.int c tc) = (vs ++ [Value.int c tc]).toArray := by simp
  rw [e] at N
  refine loopNext F N (fun p hp => hp) ?_ ⟨hm, _, _, _, _, _, _, _, rfl, hu, ints_snoc hi, by simp [hl], ho.snoc c0 c4 huu h2, by omega⟩
  intro p hp
  simp only [List.mem_cons, List.not_mem_nil, or_false] at hp
  rcases hp with rfl | rfl | rfl | rfl | rfl | rfl
  · exact n1
  · exact n2
  · exact n3
  · exact n4
  · exact n5
  · exact n6

theorem FillR.take {ds bs : List Int} (h : FillR ds bs) (n : Nat) : FillR (ds.take n) (bs.take n) := by
  induction h generalizing n with
  | nil => simpa using FillR.nil
  | cons h1 _ ih =>
    cases n with
    | zero => exact .nil
    | succ n => exact .cons h1 (ih n)
theorem FillR.drop {ds bs : List Int} (h : FillR ds bs) (n : Nat) : FillR (ds.drop n) (bs.drop n) := by
  induction h generalizing n with
  | nil => simpa using FillR.nil
  | cons h1 h2 ih =>
    cases n with
    | zero => exact .cons h1 h2
    | succ n => exact ih n
/-- the two vectors of a turn -/
theorem two_pack {W u : Int} {tw : Tok} {m : Str → Option Value} {x : Str} {ds : List Int} (_ : m x = some (Value.int W tw)) (hl : ds.length = (2 * W).toNat) (h1 : 1 ≤ W) (h3 : W ≤ 3) (ho : DsOk ds u) :
    ((ds.take W.toNat).length : Int) = W ∧ ((ds.drop W.toNat).length : Int) = W ∧ 0 ≤ loF (ds.take W.toNat) ∧ loF (ds.take W.toNat) < 8 ∧ 0 ≤ hiF (ds.take W.toNat) ∧ hiF (ds.take W.toNat) < 8 ∧
      0 ≤ loF (ds.drop W.toNat) ∧ loF (ds.drop W.toNat) < 8 ∧ 0 ≤ hiF (ds.drop W.toNat) ∧ hiF (ds.drop W.toNat) < 8 ∧ (∀ d ∈ ds, 0 ≤ d ∧ d < 4) ∧
      ∀ bs, FillR ds bs → Good u (ds.take W.toNat) (bs.take W.toNat) ∧ Good u (ds.drop W.toNat) (bs.drop W.toNat) ∧ ((bs.take W.toNat).length : Int) = W ∧ ((bs.drop W.toNat).length : Int) = W ∧ (bs.drop W.toNat).length = (bs.take W.toNat).length ∧ 1 ≤ (bs.take W.toNat).length ∧ (bs.take W.toNat).length ≤ 3 := by
  have l1 : ((ds.take W.toNat).length : Int) = W := by rw [List.length_take]; omega
  have l2 : ((ds.drop W.toNat).length : Int) = W := by rw [List.length_drop]; omega
  have d1 : ∀ d ∈ ds.take W.toNat, 0 ≤ d ∧ d < 4 := fun d hd => ho.1 d (List.mem_of_mem_take hd)
  have d2 : ∀ d ∈ ds.drop W.toNat, 0 ≤ d ∧ d < 4 := fun d hd => ho.1 d (List.mem_of_mem_drop hd)
  obtain ⟨q1, q2, q3, q4⟩ := lohi_of d1 (by omega) (by omega)
  obtain ⟨q5, q6, q7, q8⟩ := lohi_of d2 (by omega) (by omega)
  refine ⟨l1, l2, q1, q2, q3, q4, q5, q6, q7, q8, ho.1, fun bs hf => ?_⟩
  have e1 := (hf.take W.toNat).length
  have e2 := (hf.drop W.toNat).length
  exact ⟨⟨hf.take _, d1, by omega, by omega, fun hu d hd => ho.2.2 hu d (List.mem_of_mem_take hd)⟩, ⟨hf.drop _, d2, by omega, by omega, fun hu d hd => ho.2.2 hu d (List.mem_of_mem_drop hd)⟩, by omega, by omega, by omega, by omega, by omega⟩
theorem one_pack {W u : Int} {tw : Tok} {m : Str → Option Value} {x : Str} {ds : List Int} (_ : m x = some (Value.int W tw)) (hl : ds.length = W.toNat) (h1 : 1 ≤ W) (h3 : W ≤ 3) (ho : DsOk ds u) :
    ((ds.take W.toNat).length : Int) = W ∧ 0 ≤ loF (ds.take W.toNat) ∧ loF (ds.take W.toNat) < 8 ∧ 0 ≤ hiF (ds.take W.toNat) ∧ hiF (ds.take W.toNat) < 8 ∧ (∀ d ∈ ds, 0 ≤ d ∧ d < 4) ∧
      ∀ bs, FillR ds bs → Good u (ds.take W.toNat) bs ∧ (bs.length : Int) = W ∧ 1 ≤ bs.length ∧ bs.length ≤ 3 := by
  have e : ds.take W.toNat = ds := List.take_of_length_le (by omega)
  rw [e]
  obtain ⟨q1, q2, q3, q4⟩ := lohi_of ho.1 (by omega) (by omega)
  refine ⟨by omega, q1, q2, q3, q4, ho.1, fun bs hf => ?_⟩
  have e1 := hf.length
  exact ⟨⟨hf, ho.1, by omega, by omega, fun hu d hd => ho.2.2 hu d hd⟩, by omega, by omega, by omega⟩
theorem binX_lo {op : Str} {x : Int} (h : op ∈ pairOps) (h1 : 1 ≤ x) (h3 : x ≤ 3) : 1 ≤ binX op x ∧ binX op x ≤ 3 := by
  have k : ∀ op ∈ pairOps, ∀ x ∈ ([1, 2, 3] : List Int), 1 ≤ binX op x ∧ binX op x ≤ 3 := by decide +kernel
  exact k op h x (by simp; omega)
theorem unX_lo {op : Str} {x : Int} (h : op ∈ unOps) (h1 : 1 ≤ x) (h3 : x ≤ 3) : 1 ≤ unX op x ∧ unX op x ≤ 3 := by
  have k : ∀ op ∈ unOps, ∀ x ∈ ([1, 2, 3] : List Int), 1 ≤ unX op x ∧ unX op x ≤ 3 := by decide +kernel
  exact k op h x (by simp; omega)
theorem two_goesS {w : World} {led : Led} {op : Str} {sg : Bool} {x dd : Int} {la ra : Addr} {k k2 : Nat} {vs vs2 : List Value} {ds es : List Int} {t : Tok} (hla : (la, listOf vs.toArray k) ∈ led) (hra : (ra, listOf vs2.toArray k2) ∈ led) (hi : IntsAre vs ds) (hi2 : IntsAre vs2 es) (hx : 1 ≤ ds.length) (h3 : ds.length ≤ 3) (hl : es.length = ds.length) (hb : ∀ d ∈ ds, 0 ≤ d ∧ d < 2) (hb2 : ∀ d ∈ es, 0 ≤ d ∧ d < 2) (hop : op ∈ pairOps) (hxx : (ds.length : Int) = x) (hD : twoD op ds es sg = some dd) : Goes w 418 12 [.str op t, .ref la, .ref ra, .bool sg] led (RetP led (binX op x) (.int dd)) := by
  subst hxx
  have h := two_goes (w := w) (led := led) (t := t) (sg := sg) hla hra hi hi2 hx h3 hl hb hb2 hop
  rw [hD] at h
  exact h
theorem two_goesN {w : World} {led : Led} {op : Str} {sg : Bool} {x : Int} {la ra : Addr} {k k2 : Nat} {vs vs2 : List Value} {ds es : List Int} {t : Tok} (hla : (la, listOf vs.toArray k) ∈ led) (hra : (ra, listOf vs2.toArray k2) ∈ led) (hi : IntsAre vs ds) (hi2 : IntsAre vs2 es) (hx : 1 ≤ ds.length) (h3 : ds.length ≤ 3) (hl : es.length = ds.length) (hb : ∀ d ∈ ds, 0 ≤ d ∧ d < 2) (hb2 : ∀ d ∈ es, 0 ≤ d ∧ d < 2) (hop : op ∈ pairOps) (hxx : (ds.length : Int) = x) (hD : twoD op ds es sg = none) : Goes w 418 12 [.str op t, .ref la, .ref ra, .bool sg] led (RetPN led (binX op x) .none) := by
  subst hxx
  have h := two_goes (w := w) (led := led) (t := t) (sg := sg) hla hra hi hi2 hx h3 hl hb hb2 hop
  rw [hD] at h
  exact h
theorem one_goesX {w : World} {led : Led} {op : Str} {x dd : Int} {da : Addr} {k : Nat} {vs : List Value} {ds : List Int} {t : Tok} (hda : (da, listOf vs.toArray k) ∈ led) (hi : IntsAre vs ds) (hx : 1 ≤ ds.length) (h3 : ds.length ≤ 3) (hb : ∀ d ∈ ds, 0 ≤ d ∧ d < 2) (hop : op ∈ unOps) (hxx : (ds.length : Int) = x) (hD : oneD op ds = dd) : Goes w 425 12 [.str op t, .ref da] led (RetP led (unX op x) (.int dd)) := by
  subst hxx hD
  exact one_goes hda hi hx h3 hb hop

noncomputable def JR (sa pa ia tA : Addr) (W : Int) (tw : Tok) (db : Bool) (op : Str) (top : Tok) (sg : Bool) (u : Int) (tu : Tok) (K : Led) (m : Str → Option Value) (news : Led) : Prop := news = K ∧ m (Str.ofString "state") = some (Value.ref sa) ∧ m (Str.ofString "pairs") = some (Value.ref pa) ∧ m (Str.ofString "singles") = some (Value.ref ia) ∧ m (Str.ofString "wide") = some (Value.int W tw) ∧ m (Str.ofString "double") = some (Value.bool db) ∧ m (Str.ofString "op") = some (Value.str op top) ∧ m (Str.ofString "signed") = some (Value.bool sg) ∧ m (Str.ofString "unknown") = some (Value.int u tu) ∧ m (Str.ofString "told") = some (Value.ref tA)
noncomputable def JS (sa pa ia tA : Addr) (W : Int) (tw : Tok) (db : Bool) (op : Str) (top : Tok) (sg : Bool) (u : Int) (tu : Tok) (due : Value) (K : Led) (m : Str → Option Value) (news : Led) : Prop := news = K ∧ m (Str.ofString "state") = some (Value.ref sa) ∧ m (Str.ofString "pairs") = some (Value.ref pa) ∧ m (Str.ofString "singles") = some (Value.ref ia) ∧ m (Str.ofString "wide") = some (Value.int W tw) ∧ m (Str.ofString "double") = some (Value.bool db) ∧ m (Str.ofString "op") = some (Value.str op top) ∧ m (Str.ofString "signed") = some (Value.bool sg) ∧ m (Str.ofString "unknown") = some (Value.int u tu) ∧ m (Str.ofString "told") = some (Value.ref tA) ∧ m (Str.ofString "due") = some (due)
theorem row_loop {prog : Program} {w : World} {A : Around} {E : Value → Shared → Prop} {s : Shared} {env : Env} {h₀ : Heap} {x : Str} {body : List Stmt} {Q : Flow → Shared → Prop} {l : Addr} {vs : List Value} {k : Nat} {m₀ : Str → Option Value} {K : Led} {sa pa ia tA : Addr} {W : Int} {tw : Tok} {db : Bool} {op : Str} {top : Tok} {sg : Bool} {u : Int} {tu : Tok}
    (hh : A.handled = none) (F : Fr h₀ env.locals s.heap m₀) (N : News h₀ env.locals s.heap K) (hl : (l, PySem.W.listOf vs.toArray k) ∈ K) (hm : m₀ (Str.ofString "state") = some (Value.ref sa) ∧ m₀ (Str.ofString "pairs") = some (Value.ref pa) ∧ m₀ (Str.ofString "singles") = some (Value.ref ia) ∧ m₀ (Str.ofString "wide") = some (Value.int W tw) ∧ m₀ (Str.ofString "double") = some (Value.bool db) ∧ m₀ (Str.ofString "op") = some (Value.str op top) ∧ m₀ (Str.ofString "signed") = some (Value.bool sg) ∧ m₀ (Str.ofString "unknown") = some (Value.int u tu) ∧ m₀ (Str.ofString "told") = some (Value.ref tA))
    (turn : ∀ (j : Nat) (v : Value) (m₁ : Str → Option Value) (h : Heap) (tk : Nat) (I : Addr) (o : Obj), v ∈ vs → m₁ (Str.ofString "state") = some (Value.ref sa) → m₁ (Str.ofString "pairs") = some (Value.ref pa) → m₁ (Str.ofString "singles") = some (Value.ref ia) → m₁ (Str.ofString "wide") = some (Value.int W tw) → m₁ (Str.ofString "double") = some (Value.bool db) → m₁ (Str.ofString "op") = some (Value.str op top) → m₁ (Str.ofString "signed") = some (Value.bool sg) → m₁ (Str.ofString "unknown") = some (Value.int u tu) → m₁ (Str.ofString "told") = some (Value.ref tA) → (∀ p ∈ K, p.1 ≠ I) → l ≠ I → Fr h₀ env.locals h (fun y => if y = x then some v else m₁ y) → News h₀ env.locals h ((I, o) :: (l, PySem.W.listOf vs.toArray k) :: K) →
      wpAny (model prog w) A (execs body env) (LoopPost h₀ env.locals s [(I, o), (l, PySem.W.listOf vs.toArray k)] I (JR sa pa ia tA W tw db op top sg u tu K) Q) E { s with heap := h, toks := tk })
    (done : ∀ (m₁ : Str → Option Value) (h : Heap) (tk : Nat), m₁ (Str.ofString "state") = some (Value.ref sa) → m₁ (Str.ofString "pairs") = some (Value.ref pa) → m₁ (Str.ofString "singles") = some (Value.ref ia) → m₁ (Str.ofString "wide") = some (Value.int W tw) → m₁ (Str.ofString "double") = some (Value.bool db) → m₁ (Str.ofString "op") = some (Value.str op top) → m₁ (Str.ofString "signed") = some (Value.bool sg) → m₁ (Str.ofString "unknown") = some (Value.int u tu) → m₁ (Str.ofString "told") = some (Value.ref tA) → Fr h₀ env.locals h m₁ → News h₀ env.locals h K → Q .next { s with heap := h, toks := tk }) :
    wpAny (model prog w) A (pyIter (.ref l)) (fun it s₂ => LoopAtV prog w A h₀ env x body Q E it s₂) E s := by
  refine lst_loop (fun _ => JR sa pa ia tA W tw db op top sg u tu K) hh F N hl N ⟨rfl, hm⟩ ?_ ?_
  · rintro j v m₁ news₁ h tk I o hv ⟨rfl, a1, a2, a3, a4, a5, a6, a7, a8, a9⟩ hne hli F' N'
    exact turn j v m₁ h tk I o (List.mem_of_getElem? hv) a1 a2 a3 a4 a5 a6 a7 a8 a9 hne hli F' N'
  · rintro m₁ news₁ h tk ⟨rfl, a1, a2, a3, a4, a5, a6, a7, a8, a9⟩ F' N'
    exact done m₁ h tk a1 a2 a3 a4 a5 a6 a7 a8 a9 F' N'
theorem row_next {sa pa ia tA : Addr} {W : Int} {tw : Tok} {db : Bool} {op : Str} {top : Tok} {sg : Bool} {u : Int} {tu : Tok} {K all : Led} {h₀ h' : Heap} {L I : Addr} {o ol : Obj} {l : Addr} {s : Shared} {Q : Flow → Shared → Prop} {m' : Str → Option Value} {tk' : Nat}
    (F : Fr h₀ L h' m') (N : News h₀ L h' all) (hI : (I, o) ∈ all) (hK : ∀ p ∈ K, p ∈ all) (hl : (l, ol) ∈ K) (hne : ∀ p ∈ K, p.1 ≠ I) (hm : m' (Str.ofString "state") = some (Value.ref sa) ∧ m' (Str.ofString "pairs") = some (Value.ref pa) ∧ m' (Str.ofString "singles") = some (Value.ref ia) ∧ m' (Str.ofString "wide") = some (Value.int W tw) ∧ m' (Str.ofString "double") = some (Value.bool db) ∧ m' (Str.ofString "op") = some (Value.str op top) ∧ m' (Str.ofString "signed") = some (Value.bool sg) ∧ m' (Str.ofString "unknown") = some (Value.int u tu) ∧ m' (Str.ofString "told") = some (Value.ref tA)) :
    LoopPost h₀ L s [(I, o), (l, ol)] I (JR sa pa ia tA W tw db op top sg u tu K) Q .next { s with heap := h', toks := tk' } := by
  refine loopNext F N (fun p hp => ?_) hne ⟨rfl, hm⟩
  simp only [List.cons_append, List.nil_append, List.mem_cons] at hp
  rcases hp with rfl | rfl | hp
  · exact hI
  · exact hK _ hl
  · exact hK _ hp
theorem spot_loop {prog : Program} {w : World} {A : Around} {E : Value → Shared → Prop} {s : Shared} {env : Env} {h₀ : Heap} {x : Str} {body : List Stmt} {Q : Flow → Shared → Prop} {r : Addr} {b : Int} {t₀ u₀ v₀ : Tok} {m₀ : Str → Option Value} {K : Led} {sa pa ia tA : Addr} {W : Int} {tw : Tok} {db : Bool} {op : Str} {top : Tok} {sg : Bool} {u : Int} {tu : Tok} {due : Value}
    (hh : A.handled = none) (hr : IsRange s.heap r 0 b 1 t₀ u₀ v₀) (hb0 : 0 ≤ b) (hb9 : b ≤ 10) (F : Fr h₀ env.locals s.heap m₀) (N : News h₀ env.locals s.heap K) (hm : m₀ (Str.ofString "state") = some (Value.ref sa) ∧ m₀ (Str.ofString "pairs") = some (Value.ref pa) ∧ m₀ (Str.ofString "singles") = some (Value.ref ia) ∧ m₀ (Str.ofString "wide") = some (Value.int W tw) ∧ m₀ (Str.ofString "double") = some (Value.bool db) ∧ m₀ (Str.ofString "op") = some (Value.str op top) ∧ m₀ (Str.ofString "signed") = some (Value.bool sg) ∧ m₀ (Str.ofString "unknown") = some (Value.int u tu) ∧ m₀ (Str.ofString "told") = some (Value.ref tA) ∧ m₀ (Str.ofString "due") = some (due))
    (turn : ∀ (j : Nat) (t : Tok) (m₁ : Str → Option Value) (h : Heap) (tk : Nat) (I : Addr) (o : Obj), (j : Int) < b → m₁ (Str.ofString "state") = some (Value.ref sa) → m₁ (Str.ofString "pairs") = some (Value.ref pa) → m₁ (Str.ofString "singles") = some (Value.ref ia) → m₁ (Str.ofString "wide") = some (Value.int W tw) → m₁ (Str.ofString "double") = some (Value.bool db) → m₁ (Str.ofString "op") = some (Value.str op top) → m₁ (Str.ofString "signed") = some (Value.bool sg) → m₁ (Str.ofString "unknown") = some (Value.int u tu) → m₁ (Str.ofString "told") = some (Value.ref tA) → m₁ (Str.ofString "due") = some (due) → (∀ p ∈ K, p.1 ≠ I) → Fr h₀ env.locals h (fun y => if y = x then some (.int (j : Int) t) else m₁ y) → News h₀ env.locals h ((I, o) :: K) →
      wpAny (model prog w) A (execs body env) (LoopPost h₀ env.locals s [(I, o)] I (JS sa pa ia tA W tw db op top sg u tu due K) Q) E { s with heap := h, toks := tk })
    (done : ∀ (m₁ : Str → Option Value) (h : Heap) (tk : Nat), m₁ (Str.ofString "state") = some (Value.ref sa) → m₁ (Str.ofString "pairs") = some (Value.ref pa) → m₁ (Str.ofString "singles") = some (Value.ref ia) → m₁ (Str.ofString "wide") = some (Value.int W tw) → m₁ (Str.ofString "double") = some (Value.bool db) → m₁ (Str.ofString "op") = some (Value.str op top) → m₁ (Str.ofString "signed") = some (Value.bool sg) → m₁ (Str.ofString "unknown") = some (Value.int u tu) → m₁ (Str.ofString "told") = some (Value.ref tA) → m₁ (Str.ofString "due") = some (due) → Fr h₀ env.locals h m₁ → News h₀ env.locals h K → Q .next { s with heap := h, toks := tk }) :
    wpAny (model prog w) A (pyIter (.ref r)) (fun it s₂ => LoopAtV prog w A h₀ env x body Q E it s₂) E s := by
  refine rng_loop (fun _ => JS sa pa ia tA W tw db op top sg u tu due K) hh hr (rng_small hb0 (by omega)) (rng_size hb0) F N ⟨rfl, hm⟩ ?_ ?_
  · rintro j t m₁ news₁ h tk I o hv ⟨rfl, a1, a2, a3, a4, a5, a6, a7, a8, a9, a10⟩ hne F' N'
    exact turn j t m₁ h tk I o (by omega) a1 a2 a3 a4 a5 a6 a7 a8 a9 a10 hne F' N'
  · rintro m₁ news₁ h tk ⟨rfl, a1, a2, a3, a4, a5, a6, a7, a8, a9, a10⟩ F' N'
    exact done m₁ h tk a1 a2 a3 a4 a5 a6 a7 a8 a9 a10 F' N'
theorem spot_next {sa pa ia tA : Addr} {W : Int} {tw : Tok} {db : Bool} {op : Str} {top : Tok} {sg : Bool} {u : Int} {tu : Tok} {due : Value} {K all : Led} {h₀ h' : Heap} {L I : Addr} {o : Obj} {s : Shared} {Q : Flow → Shared → Prop} {m' : Str → Option Value} {tk' : Nat}
    (F : Fr h₀ L h' m') (N : News h₀ L h' all) (hI : (I, o) ∈ all) (hK : ∀ p ∈ K, p ∈ all) (hne : ∀ p ∈ K, p.1 ≠ I) (hm : m' (Str.ofString "state") = some (Value.ref sa) ∧ m' (Str.ofString "pairs") = some (Value.ref pa) ∧ m' (Str.ofString "singles") = some (Value.ref ia) ∧ m' (Str.ofString "wide") = some (Value.int W tw) ∧ m' (Str.ofString "double") = some (Value.bool db) ∧ m' (Str.ofString "op") = some (Value.str op top) ∧ m' (Str.ofString "signed") = some (Value.bool sg) ∧ m' (Str.ofString "unknown") = some (Value.int u tu) ∧ m' (Str.ofString "told") = some (Value.ref tA) ∧ m' (Str.ofString "due") = some (due)) :
    LoopPost h₀ L s [(I, o)] I (JS sa pa ia tA W tw db op top sg u tu due K) Q .next { s with heap := h', toks := tk' } := by
  refine loopNext F N (fun p hp => ?_) hne ⟨rfl, hm⟩
  simp only [List.cons_append, List.nil_append, List.mem_cons] at hp
  rcases hp with rfl | hp
  · exact hI
  · exact hK _ hp
theorem law_next {h₀ h' : Heap} {L I : Addr} {o : Obj} {s : Shared} {Q : Flow → Shared → Prop} {m' : Str → Option Value} {tk' n : Nat} {all : Led} {ia pa sa ra : Addr} {li lp lr : List Value} {ki kp ks kr : Nat} {i : Int} {t : Tok}
    (F : Fr h₀ L h' m') (N : News h₀ L h' all) (hI : (I, o) ∈ all) (h1 : (ia, PySem.W.listOf li.toArray ki) ∈ all) (h2 : (pa, PySem.W.listOf lp.toArray kp) ∈ all) (h3 : (sa, PySem.W.listOf #[.ref ra, .int i t] ks) ∈ all) (h4 : (ra, PySem.W.listOf lr.toArray kr) ∈ all)
    (n1 : @Ne Nat ia I) (n2 : @Ne Nat pa I) (n3 : @Ne Nat sa I) (n4 : @Ne Nat ra I) (i0 : 0 ≤ i) (i1 : i ≤ 1 + 10 * (n + 1 : Nat))
    (hm1 : m' (Str.ofString "state") = some (.ref sa)) (hm2 : m' (Str.ofString "pairs") = some (.ref pa)) (hm3 : m' (Str.ofString "singles") = some (.ref ia)) :
    LoopPost h₀ L s [(I, o)] I (Jo ia pa sa ra li lp lr ki kp ks kr (n + 1)) Q .next { s with heap := h', toks := tk' } := by
  refine loopNext F N (fun p hp => ?_) ?_ ⟨hm1, hm2, hm3, i, t, rfl, i0, i1⟩
  · simp only [List.cons_append, List.nil_append, List.mem_cons, List.not_mem_nil, or_false] at hp
    rcases hp with rfl | rfl | rfl | rfl | rfl <;> assumption
  · intro p hp
    simp only [List.mem_cons, List.not_mem_nil, or_false] at hp
    rcases hp with rfl | rfl | rfl | rfl
    · exact n1
    · exact n2
    · exact n3
    · exact n4

theorem due_cases {m : Str → Option Value} {op : Str} {top tw : Tok} {sg : Bool} {W : Int} (_ : m (Str.ofString "wide") = some (.int W tw)) (_ : m (Str.ofString "op") = some (.str op top)) (_ : m (Str.ofString "signed") = some (.bool sg)) (bs : List Int) :
    twoD op (bs.take W.toNat) (bs.drop W.toNat) sg = none ∨ ∃ d, twoD op (bs.take W.toNat) (bs.drop W.toNat) sg = some d := by
  cases twoD op (bs.take W.toNat) (bs.drop W.toNat) sg with
  | none => exact .inl rfl
  | some d => exact .inr ⟨d, rfl⟩
theorem two_code {op : Str} (hop : op ∈ pairOps) {u i W : Int} {ds es bs cs : List Int} {sg : Bool} (G : Good u ds bs) (H : Good u es cs) (e1 : (ds.length : Int) = W) (e2 : (es.length : Int) = W) {D : Option Int} (hD : twoD op bs cs sg = D) (h0 : 0 ≤ i) (hx : i < binX op W) : OkC u (lcF (binA op W (loF ds) (hiF ds) (loF es) (hiF es) sg) (binB op W (loF ds) (hiF ds) (loF es) (hiF es) sg) i) D i := by
  subst e1 hD
  exact law_two hop G H (by omega) h0 hx
theorem due_one {m : Str → Option Value} {op : Str} {top : Tok} (_ : m (Str.ofString "op") = some (.str op top)) (bs : List Int) : ∃ d, oneD op bs = d := ⟨_, rfl⟩
theorem one_code {op : Str} (hop : op ∈ unOps) {u i W : Int} {ds bs : List Int} (G : Good u ds bs) (e1 : (ds.length : Int) = W) {D : Int} (hD : oneD op bs = D) (h0 : 0 ≤ i) (hx : i < unX op W) : OkC u (lcF (unA op W (loF ds) (hiF ds)) (unB op W (loF ds) (hiF ds)) i) (some D) i := by
  subst e1 hD
  exact law_one hop G h0 hx

theorem bne_same (x : Int) : ¬ ((x != x) = true) := by simp
theorem op_in {m : Str → Option Value} {op : Str} {top : Tok} {l : List Str} (_ : m (Str.ofString "op") = some (.str op top)) (h : op ∈ l) : op ∈ l := h
theorem binX_at {m : Str → Option Value} {op : Str} {tw : Tok} {W : Int} (_ : m (Str.ofString "wide") = some (.int W tw)) (hop : op ∈ pairOps) (h1 : 1 ≤ W) (h3 : W ≤ 3) : 1 ≤ binX op W ∧ binX op W ≤ 3 := binX_lo hop h1 h3
theorem unX_at {m : Str → Option Value} {op : Str} {tw : Tok} {W : Int} (_ : m (Str.ofString "wide") = some (.int W tw)) (hop : op ∈ unOps) (h1 : 1 ≤ W) (h3 : W ≤ 3) : 1 ≤ unX op W ∧ unX op W ≤ 3 := unX_lo hop h1 h3
theorem news_sub {h₀ h : Heap} {L : Addr} {K all : Led} (N : News h₀ L h all) (hs : ∀ p ∈ K, p ∈ all) : News h₀ L h K := fun p hp => N p (hs p hp)

theorem law_holds : PySem.Challenge.rw_on0117_01.Holds := by
  w_on
  refine holds_law (by kernel_rfl) fun said => ?_
  refine holds_open (q := hd.view_39) (loose := hd.loose) (Xt := hd.xt) (XP := XL hd.view_39 []) (Yf := Hook.obs hd.hook) (Ya := Hook.val hd.hook) (YP := Hook.says hd.hook) (N := 4666) hd.left (Hook.of hd.hook) (Hook.keeps hd.hook) (fun s e => xl_of s (Bool.and_eq_true_iff.mp e).1) XL.keeps (by rfl) (by rfl) (by rfl) (fun s e => recFacts_of (Bool.and_eq_true_iff.mp e).2) (by rfl) (by first | assumption | decide +kernel) (by decide +kernel) ⟨rfl, rfl, rfl, rfl, rfl, by decide +kernel⟩ ?hw ?hc
  case hw => w_witness2
  case hc => as_aux_lemma => (
  clear said
  k_fill
  intro w s₀ s₁ mg mb G Y fa o pm cd doc dV kV ho hdd hcd hD hmg hg args vals as hpre hlay hrd hwl hlo
  have KX := kIn_of Y
  have X := (Ground.X G).1
  have V := (Ground.X G).2
  have GL := glob_more (Ground.glob G (by decide +kernel) (by decide +kernel)) V
  refine Ground.open G ?_
  intro T B D TE TW
  try (refine guard_noD D (by decide +kernel) ?_; clear D)
  obtain ⟨_, _, M⟩ := bmod_of_top T
  have TA := at_of_top T
  try (obtain ⟨_, _, he, B0⟩ := based_of_top T rfl hmg ho hdd; have he' : cd = _ := he; subst he'; clear he)
  clear hmg
  wrow_args hpre hlay hrd hwl hlo
  all_goals (
    first | refine callC_kw (enter_call ?_) | refine enter_call ?_ | refine callC_kw (enter_callW ?_) | refine enter_callW ?_ | w_how
    w_top on
    try refine codeAny_mono ?_ (fun _ _ g => GoodW.toG g)
    have K0 := below_caller (Top.heap T)
    w_call any ho hdd hcd hD T F
    clear hdd TA
    k_drop
    skip)
  (all_goals try k_fold)
  walk_at "my walk"
  walk_at "my for"
  walk_at "my walk"
  (rename IsRange _ _ _ _ _ _ _ _ => rgX)
  refine law_loop rfl rgX (by omega) (by omega) (by assumption) (by assumption) (by omega) (by omega) rfl rfl rfl ?turn ?done
  case done =>
    intro m₁ news₁ h tk F1 N1
    k_steps
  case turn =>
    intro n t m₁ h tk I o i t' hn hi0 hi1 hm1 hm2 hm3 n1 n2 n3 n4 F1 N1
    refine post_gen fun P0 hP0 => ?_
    walk_at "my walk"
    · walk_at "my for"
      walk_at "my walk"
      (rename IsRange _ _ _ _ _ _ _ _ => rgX)
      refine dig_loop rfl rgX (by omega) (by omega) (by assumption) (by assumption) (by exact ⟨hm1, hm2, hm3, rfl, rfl, rfl, rfl, rfl⟩) (by exact rfl) ?turn ?done
      case turn =>
        intro j t m₂ h2 tk2 I2 o2 vs ds k i2 t2 u tu hj a1 a2 a3 a4 a5 a6 a7 a8 b1 b2 b3 b4 b5 c1 c2 c3 c4 c5 c6 F2 N2
        refine post_gen fun P1 hP1 => ?_
        have hvl : vs.length = j := by rw [b2.length, b3]
        have hu0 := b4.2.1
        walk_at "my steps"
        all_goals refine hP1 _ _ ?_
        all_goals exact dig_next (by assumption) (by assumption) (by exact ⟨a1, a2, a3, a4, a5, a6, a7, a8⟩) (by first | exact b1 | exact rfl) b2 b3 b4 (by omega) (by omega) (by omega) (by omega) (by omega) c1 c2 c3 c4 c5 c6
      case done =>
        intro m₂ h2 tk2 vs ds k i2 t2 u tu a1 a2 a3 a4 a5 a6 a7 a8 b1 b2 b3 b4 b5 F2 N2
        have hdl : ds.length ≤ 6 := by omega
        obtain ⟨p1, p2, q1, q2, q3, q4, q5, q6, q7, q8, hdig, pk⟩ := two_pack a4 b3 (by omega) (by omega) b4
        have hop := op_in (l := pairOps) a6 (by assumption)
        obtain ⟨x1, x2⟩ := binX_at a4 hop (by omega) (by omega)
        walk_at "my walk"
        walk_at "my for"
        walk_at "my walk"
        (rename ∀ p ∈ _, p ∈ _ => hsub)
        (rename ∀ v ∈ _, RowAt _ _ v => hrows)
        (rename (_, PySem.W.listOf _ _) ∈ _ => hrl)
        (rename Led => more)
        have hT := hsub _ (List.Mem.head _)
        refine row_loop rfl (by assumption) (by assumption) hrl (by exact ⟨a1, a2, a3, a4, a5, a6, a7, b1, rfl⟩) ?turn ?done
        case done =>
          intro m₃ h3 tk3 c1 c2 c3 c4 c5 c6 c7 c8 c9 F3 N3
          walk_at "my steps"
          refine hP0 _ _ ?_
          exact law_next (by assumption) (by assumption) (hsub _ (by k_mem)) (hsub _ (by k_mem)) (hsub _ (by k_mem)) (hsub _ (by k_mem)) (hsub _ (by k_mem)) n1 n2 n3 n4 (by omega) (by omega) c1 c2 c3
        case turn =>
          intro j v m₃ h3 tk3 I3 o3 hv c1 c2 c3 c4 c5 c6 c7 c8 c9 hne hli F3 N3
          refine post_gen fun P2 hP2 => ?_
          obtain ⟨a, vs', bs, k', rfl, hra, hib, hfb⟩ := hrows v hv
          have hbl := hfb.length
          obtain ⟨g1, g2, g3, g4, g5, g6, g7⟩ := pk bs hfb
          have hb1 := g1.bits
          have hb2 := g2.bits
          rcases due_cases c4 c6 c7 bs with hD | ⟨dd, hD⟩
          all_goals (
            walk_at "my walk"
            walk_at "my for"
            walk_at "my walk"
            (rename IsRange _ _ _ _ _ _ _ _ => rgY)
            refine spot_loop (K := (I3, o3) :: more) rfl rgY (by omega) (by omega) (by assumption) (news_sub (by assumption) (fun p hp => by rcases List.mem_cons.mp hp with h | h; (subst h; k_mem); walk_at "my sub2")) (by exact ⟨c1, c2, c3, c4, c5, c6, c7, c8, c9, rfl⟩) ?turn ?done
            case done => as_aux_lemma =>
              intro m₄ h4 tk4 d1 d2 d3 d4 d5 d6 d7 d8 d9 d10 F4 N4
              walk_at "my steps"
              refine hP2 _ _ ?_
              exact row_next (by assumption) (by assumption) (.head _) (fun p hp => .tail _ hp) hrl hne ⟨d1, d2, d3, d4, d5, d6, d7, d8, d9⟩
            case turn => as_aux_lemma =>
              intro q t4 m₄ h4 tk4 I4 o4 hq d1 d2 d3 d4 d5 d6 d7 d8 d9 d10 hne4 F4 N4
              refine post_gen fun P3 hP3 => ?_
              have hO := two_code hop g1 g2 p1 p2 hD (Int.natCast_nonneg q) hq
              simp only [OkC, bt] at hO
              have hp2 := p2_ne (q : Int).toNat
              have hq2 := p2_log (n := (q : Int).toNat) (by omega)
              by_cases hu : u = 0
              all_goals (
                walk_at "my steps"
                all_goals refine hP3 _ _ ?_
                all_goals exact spot_next (by assumption) (by assumption) (by k_mem) (by walk_at "my sub") hne4 (by exact ⟨d1, d2, d3, d4, d5, d6, d7, d8, d9, d10⟩)))
    · walk_at "my for"
      walk_at "my walk"
      (rename IsRange _ _ _ _ _ _ _ _ => rgX)
      refine dig_loop rfl rgX (by omega) (by omega) (by assumption) (by assumption) (by exact ⟨hm1, hm2, hm3, rfl, rfl, rfl, rfl, rfl⟩) (by exact rfl) ?turn ?done
      case turn =>
        intro j t m₂ h2 tk2 I2 o2 vs ds k i2 t2 u tu hj a1 a2 a3 a4 a5 a6 a7 a8 b1 b2 b3 b4 b5 c1 c2 c3 c4 c5 c6 F2 N2
        refine post_gen fun P1 hP1 => ?_
        have hvl : vs.length = j := by rw [b2.length, b3]
        have hu0 := b4.2.1
        walk_at "my steps"
        all_goals refine hP1 _ _ ?_
        all_goals exact dig_next (by assumption) (by assumption) (by exact ⟨a1, a2, a3, a4, a5, a6, a7, a8⟩) (by first | exact b1 | exact rfl) b2 b3 b4 (by omega) (by omega) (by omega) (by omega) (by omega) c1 c2 c3 c4 c5 c6
      case done =>
        intro m₂ h2 tk2 vs ds k i2 t2 u tu a1 a2 a3 a4 a5 a6 a7 a8 b1 b2 b3 b4 b5 F2 N2
        have hdl : ds.length ≤ 6 := by omega
        obtain ⟨p1, q1, q2, q3, q4, hdig, pk⟩ := one_pack a4 b3 (by omega) (by omega) b4
        have hop := op_in (l := unOps) a6 (by assumption)
        obtain ⟨x1, x2⟩ := unX_at a4 hop (by omega) (by omega)
        walk_at "my walk"
        walk_at "my for"
        walk_at "my walk"
        (rename ∀ p ∈ _, p ∈ _ => hsub)
        (rename ∀ v ∈ _, RowAt _ _ v => hrows)
        (rename (_, PySem.W.listOf _ _) ∈ _ => hrl)
        (rename Led => more)
        have hT := hsub _ (List.Mem.head _)
        refine row_loop rfl (by assumption) (by assumption) hrl (by exact ⟨a1, a2, a3, a4, a5, a6, a7, b1, rfl⟩) ?turn ?done
        case done =>
          intro m₃ h3 tk3 c1 c2 c3 c4 c5 c6 c7 c8 c9 F3 N3
          walk_at "my steps"
          refine hP0 _ _ ?_
          exact law_next (by assumption) (by assumption) (hsub _ (by k_mem)) (hsub _ (by k_mem)) (hsub _ (by k_mem)) (hsub _ (by k_mem)) (hsub _ (by k_mem)) n1 n2 n3 n4 (by omega) (by omega) c1 c2 c3
        case turn =>
          intro j v m₃ h3 tk3 I3 o3 hv c1 c2 c3 c4 c5 c6 c7 c8 c9 hne hli F3 N3
          refine post_gen fun P2 hP2 => ?_
          obtain ⟨a, vs', bs, k', rfl, hra, hib, hfb⟩ := hrows v hv
          have hbl := hfb.length
          obtain ⟨g1, g3, g6, g7⟩ := pk bs hfb
          have hb1 := g1.bits
          obtain ⟨dd, hD⟩ := due_one c6 bs
          walk_at "my walk"
          walk_at "my for"
          walk_at "my walk"
          (rename IsRange _ _ _ _ _ _ _ _ => rgY)
          refine spot_loop (K := (I3, o3) :: more) rfl rgY (by omega) (by omega) (by assumption) (news_sub (by assumption) (fun p hp => by rcases List.mem_cons.mp hp with h | h; (subst h; k_mem); walk_at "my sub2")) (by exact ⟨c1, c2, c3, c4, c5, c6, c7, c8, c9, rfl⟩) ?turn ?done
          case done => as_aux_lemma =>
            intro m₄ h4 tk4 d1 d2 d3 d4 d5 d6 d7 d8 d9 d10 F4 N4
            walk_at "my steps"
            refine hP2 _ _ ?_
            exact row_next (by assumption) (by assumption) (.head _) (fun p hp => .tail _ hp) hrl hne ⟨d1, d2, d3, d4, d5, d6, d7, d8, d9⟩
          case turn => as_aux_lemma =>
            intro q t4 m₄ h4 tk4 I4 o4 hq d1 d2 d3 d4 d5 d6 d7 d8 d9 d10 hne4 F4 N4
            refine post_gen fun P3 hP3 => ?_
            have hO := one_code hop g1 p1 hD (Int.natCast_nonneg q) hq
            simp only [OkC, bt] at hO
            have hp2 := p2_ne (q : Int).toNat
            have hq2 := p2_log (n := (q : Int).toNat) (by omega)
            by_cases hu : u = 0
            all_goals (
              walk_at "my steps"
              all_goals refine hP3 _ _ ?_
              all_goals exact spot_next (by assumption) (by assumption) (by k_mem) (by walk_at "my sub") hne4 (by exact ⟨d1, d2, d3, d4, d5, d6, d7, d8, d9, d10⟩)))
end Mine

set_option maxRecDepth 100000 in
set_option maxHeartbeats 8000000 in
theorem PySem.Challenge.cw_on0117_01_holds : PySem.Challenge.rw_on0117_01.Holds :=
  Mine.law_holds
