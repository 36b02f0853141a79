import PyProof.Rows.All
import Wide.All
import OpenK.AllK
import Wide.FinOn
import Lean
import PySem.Challenge.RW_sa0214_01
open PySem PySem.W PyProof.Rows
set_option Elab.async false
namespace Mine
set_option maxRecDepth 100000
set_option maxHeartbeats 8000000
/-- the statement at place i of the text -/
noncomputable def stAt (i : Nat) : Stmt := (PySem.Challenge.pw_sa0214_01.main.body[i]?).getD (.Pass default)
/-- the first statement within a class -/
noncomputable def inCls (i : Nat) : Stmt := match stAt i with
  | .ClassDef _ _ _ (s :: _) .. => s
  | s => s
/-- the function that a def makes -/
noncomputable def fnO (s : Stmt) (qn : String) (df md cd : Value) : Obj := match s with
  | .FunctionDef nm ps bd _ _ _ sc _ _ _ => { cls := .type "function", data := .func { name := nm, qualname := Str.ofString qn, params := ps, body := .stmts bd, scope := sc, globals := 3, closure := [], defaults := df, kwdefaults := .none, pyModule := md, code := cd } }
  | _ => default
/-- the objects that the text's top leaves -/
noncomputable def KT : Params → Frag := fun P =>
  (nat_lit 2, { cls := .none, data := .dict #[{ hash := PyData.keyHash P (Str.ofString "type.__subclasses__.Exception.0"), key := .str (Str.ofString "type.__subclasses__.Exception.0") 214, val := .int 31 0 }, { hash := PyData.keyHash P (Str.ofString "type.__subclasses__.Exception.n"), key := .str (Str.ofString "type.__subclasses__.Exception.n") 215, val := .int 1 0 }] 2 }) ::
  (nat_lit 3, { cls := .type "dict", data := .dict #[{ hash := PyData.keyHash P (Str.ofString "__name__"), key := .str (Str.ofString "__name__") 165, val := .str (Str.ofString "law_sa0214_01") 616 }, { hash := PyData.keyHash P (Str.ofString "__doc__"), key := .str (Str.ofString "__doc__") 166, val := .none }, { hash := PyData.keyHash P (Str.ofString "__package__"), key := .str (Str.ofString "__package__") 167, val := .none }, { hash := PyData.keyHash P (Str.ofString "__loader__"), key := .str (Str.ofString "__loader__") 168, val := .builtin "__main__.__loader__#opaque" }, { hash := PyData.keyHash P (Str.ofString "__spec__"), key := .str (Str.ofString "__spec__") 169, val := .none }, { hash := PyData.keyHash P (Str.ofString "__annotations__"), key := .str (Str.ofString "__annotations__") 170, val := .ref 6 }, { hash := PyData.keyHash P (Str.ofString "__builtins__"), key := .str (Str.ofString "__builtins__") 171, val := .ref 4 }, { hash := PyData.keyHash P (Str.ofString "__file__"), key := .str (Str.ofString "__file__") 173, val := .str (Str.ofString "/claim/cut.py") 172 }, { hash := PyData.keyHash P (Str.ofString "__cached__"), key := .str (Str.ofString "__cached__") 174, val := .none }, { hash := PyData.keyHash P (Str.ofString "F77Error"), key := .str (Str.ofString "F77Error") 217, val := .ref 31 }, { hash := PyData.keyHash P (Str.ofString "RunFault"), key := .str (Str.ofString "RunFault") 233, val := .ref 44 }, { hash := PyData.keyHash P (Str.ofString "fit_int"), key := .str (Str.ofString "fit_int") 244, val := .ref 53 }, { hash := PyData.keyHash P (Str.ofString "int_add"), key := .str (Str.ofString "int_add") 253, val := .ref 60 }, { hash := PyData.keyHash P (Str.ofString "int_sub"), key := .str (Str.ofString "int_sub") 262, val := .ref 67 }, { hash := PyData.keyHash P (Str.ofString "int_mul"), key := .str (Str.ofString "int_mul") 271, val := .ref 74 }, { hash := PyData.keyHash P (Str.ofString "cut_quotient"), key := .str (Str.ofString "cut_quotient") 280, val := .ref 81 }, { hash := PyData.keyHash P (Str.ofString "int_div"), key := .str (Str.ofString "int_div") 289, val := .ref 88 }, { hash := PyData.keyHash P (Str.ofString "inverse_power"), key := .str (Str.ofString "inverse_power") 297, val := .ref 95 }, { hash := PyData.keyHash P (Str.ofString "int_power"), key := .str (Str.ofString "int_power") 308, val := .ref 102 }, { hash := PyData.keyHash P (Str.ofString "order_of"), key := .str (Str.ofString "order_of") 316, val := .ref 109 }, { hash := PyData.keyHash P (Str.ofString "holds"), key := .str (Str.ofString "holds") 324, val := .ref 116 }, { hash := PyData.keyHash P (Str.ofString "int_binary"), key := .str (Str.ofString "int_binary") 335, val := .ref 123 }, { hash := PyData.keyHash P (Str.ofString "INTEGER"), key := .str (Str.ofString "INTEGER") 337, val := .int 0 336 }, { hash := PyData.keyHash P (Str.ofString "REAL"), key := .str (Str.ofString "REAL") 339, val := .int 1 338 }, { hash := PyData.keyHash P (Str.ofString "DOUBLE"), key := .str (Str.ofString "DOUBLE") 341, val := .int 2 340 }, { hash := PyData.keyHash P (Str.ofString "NOUGHT"), key := .str (Str.ofString "NOUGHT") 346, val := .ref 124 }, { hash := PyData.keyHash P (Str.ofString "GUARD"), key := .str (Str.ofString "GUARD") 348, val := .int 8 347 }, { hash := PyData.keyHash P (Str.ofString "EXACT_POWER"), key := .str (Str.ofString "EXACT_POWER") 350, val := .int 64 349 }, { hash := PyData.keyHash P (Str.ofString "count_digits"), key := .str (Str.ofString "count_digits") 358, val := .ref 131 }, { hash := PyData.keyHash P (Str.ofString "strip_zeros"), key := .str (Str.ofString "strip_zeros") 366, val := .ref 138 }, { hash := PyData.keyHash P (Str.ofString "round_digits"), key := .str (Str.ofString "round_digits") 379, val := .ref 145 }, { hash := PyData.keyHash P (Str.ofString "round_real"), key := .str (Str.ofString "round_real") 390, val := .ref 152 }, { hash := PyData.keyHash P (Str.ofString "exact_add"), key := .str (Str.ofString "exact_add") 399, val := .ref 159 }, { hash := PyData.keyHash P (Str.ofString "exact_mul"), key := .str (Str.ofString "exact_mul") 407, val := .ref 166 }, { hash := PyData.keyHash P (Str.ofString "real_neg"), key := .str (Str.ofString "real_neg") 414, val := .ref 173 }, { hash := PyData.keyHash P (Str.ofString "quotient"), key := .str (Str.ofString "quotient") 428, val := .ref 180 }, { hash := PyData.keyHash P (Str.ofString "real_add"), key := .str (Str.ofString "real_add") 440, val := .ref 187 }, { hash := PyData.keyHash P (Str.ofString "real_sub"), key := .str (Str.ofString "real_sub") 452, val := .ref 194 }, { hash := PyData.keyHash P (Str.ofString "real_mul"), key := .str (Str.ofString "real_mul") 464, val := .ref 201 }, { hash := PyData.keyHash P (Str.ofString "real_div"), key := .str (Str.ofString "real_div") 476, val := .ref 208 }, { hash := PyData.keyHash P (Str.ofString "real_compare"), key := .str (Str.ofString "real_compare") 485, val := .ref 215 }, { hash := PyData.keyHash P (Str.ofString "real_to_int"), key := .str (Str.ofString "real_to_int") 495, val := .ref 222 }, { hash := PyData.keyHash P (Str.ofString "raised"), key := .str (Str.ofString "raised") 505, val := .ref 229 }, { hash := PyData.keyHash P (Str.ofString "real_power"), key := .str (Str.ofString "real_power") 517, val := .ref 236 }, { hash := PyData.keyHash P (Str.ofString "digits_of"), key := .str (Str.ofString "digits_of") 525, val := .ref 243 }, { hash := PyData.keyHash P (Str.ofString "real_binary"), key := .str (Str.ofString "real_binary") 538, val := .ref 250 }, { hash := PyData.keyHash P (Str.ofString "is_zero"), key := .str (Str.ofString "is_zero") 547, val := .ref 257 }, { hash := PyData.keyHash P (Str.ofString "trip_count"), key := .str (Str.ofString "trip_count") 562, val := .ref 264 }, { hash := PyData.keyHash P (Str.ofString "Limits"), key := .str (Str.ofString "Limits") 615, val := .ref 282 }, { hash := PyData.keyHash P (Str.ofString "_law_pull"), key := .str (Str.ofString "_law_pull") 626, val := .ref 293 }, { hash := PyData.keyHash P (Str.ofString "_law_worth"), key := .str (Str.ofString "_law_worth") 634, val := .ref 300 }, { hash := PyData.keyHash P (Str.ofString "_law_rounds"), key := .str (Str.ofString "_law_rounds") 645, val := .ref 307 }, { hash := PyData.keyHash P (Str.ofString "_law_stands"), key := .str (Str.ofString "_law_stands") 655, val := .ref 314 }, { hash := PyData.keyHash P (Str.ofString "_law_turn"), key := .str (Str.ofString "_law_turn") 672, val := .ref 321 }, { hash := PyData.keyHash P (Str.ofString "law"), key := .str (Str.ofString "law") 681, val := .ref 328 }] 55 }) ::
  (nat_lit 15, { cls := .type "tuple", data := .seq #[.type "Exception"] }) ::
  (nat_lit 22, { cls := .type "tuple", data := .seq #[] }) ::
  (nat_lit 24, { cls := .type "tuple", data := .seq #[.str (Str.ofString "self") 204, .str (Str.ofString "text") 205] }) ::
  (nat_lit 25, { cls := .type "tuple", data := .seq #[] }) ::
  (nat_lit 27, { cls := .type "code", data := .fields #[.str (Str.ofString "__init__") 201, .str (Str.ofString "F77Error.__init__") 202, .str (Str.ofString "/claim/cut.py") 203, .int 4 0, .int 2 0, .int 0 0, .int 0 0, .int 3 0, .ref 22, .bool true, .int 181 0, .ref 23, .none, .ref 24, .ref 25, .ref 26, .int 206 0, .int 4 0, .str (Str.ofString "/claim/cut.py") 207] }) ::
  (nat_lit 28, fnO (inCls 1) "F77Error.__init__" (.none) (.str (Str.ofString "f77.errors") 187) (.ref 27)) ::
  (nat_lit 29, { cls := .type "tuple", data := .seq #[.str (Str.ofString "text") 209] }) ::
  (nat_lit 30, { cls := .type "dict", data := .dict #[{ hash := PyData.keyHash P (Str.ofString "__module__"), key := .str (Str.ofString "__module__") 196, val := .str (Str.ofString "f77.errors") 187 }, { hash := PyData.keyHash P (Str.ofString "__firstlineno__"), key := .str (Str.ofString "__firstlineno__") 200, val := .int 2 199 }, { hash := PyData.keyHash P (Str.ofString "__init__"), key := .str (Str.ofString "__init__") 208, val := .ref 28 }, { hash := PyData.keyHash P (Str.ofString "__static_attributes__"), key := .str (Str.ofString "__static_attributes__") 210, val := .ref 29 }, { hash := PyData.keyHash P (Str.ofString "__weakref__"), key := .str (Str.ofString "__weakref__") 212, val := .ref 32 }, { hash := PyData.keyHash P (Str.ofString "__doc__"), key := .str (Str.ofString "__doc__") 213, val := .none }] 3 }) ::
  (nat_lit 31, { cls := .type "type", data := .cls { name := Str.ofString "F77Error", bases := [.type "Exception"], mro := [.ref 31, .type "Exception", .type "BaseException", .type "object"], ns := 30, qualname := Str.ofString "F77Error", subclasses := [.ref 44] }, slots := #[some (.ref 15), none, some (.str (Str.ofString "F77Error") 189), some (.str (Str.ofString "F77Error") 197), some (.builtin "Exception.__new__"), some (.bool true)] }) ::
  (nat_lit 32, { cls := .type "getset_descriptor", data := .fields #[.str (Str.ofString "__weakref__") 211, .ref 31, .builtin "ExceptionGroup.__weakref__", .none] }) ::
  (nat_lit 35, { cls := .type "tuple", data := .seq #[.ref 31] }) ::
  (nat_lit 42, { cls := .type "tuple", data := .seq #[] }) ::
  (nat_lit 43, { cls := .type "dict", data := .dict #[{ hash := PyData.keyHash P (Str.ofString "__module__"), key := .str (Str.ofString "__module__") 225, val := .str (Str.ofString "f77.errors") 187 }, { hash := PyData.keyHash P (Str.ofString "__firstlineno__"), key := .str (Str.ofString "__firstlineno__") 229, val := .int 7 228 }, { hash := PyData.keyHash P (Str.ofString "__static_attributes__"), key := .str (Str.ofString "__static_attributes__") 230, val := .ref 42 }, { hash := PyData.keyHash P (Str.ofString "__doc__"), key := .str (Str.ofString "__doc__") 231, val := .none }] 2 }) ::
  (nat_lit 44, { cls := .type "type", data := .cls { name := Str.ofString "RunFault", bases := [.ref 31], mro := [.ref 44, .ref 31, .type "Exception", .type "BaseException", .type "object"], ns := 43, qualname := Str.ofString "RunFault" }, slots := #[some (.ref 35), none, some (.str (Str.ofString "RunFault") 218), some (.str (Str.ofString "RunFault") 226), some (.builtin "Exception.__new__"), some (.bool true)] }) ::
  (nat_lit 47, { cls := .type "tuple", data := .seq #[] }) ::
  (nat_lit 49, { cls := .type "tuple", data := .seq #[.str (Str.ofString "n") 239, .str (Str.ofString "width") 240, .str (Str.ofString "most") 241] }) ::
  (nat_lit 50, { cls := .type "tuple", data := .seq #[] }) ::
  (nat_lit 52, { cls := .type "code", data := .fields #[.str (Str.ofString "fit_int") 236, .str (Str.ofString "fit_int") 237, .str (Str.ofString "/claim/cut.py") 238, .int 10 0, .int 2 0, .int 0 0, .int 0 0, .int 3 0, .ref 47, .bool true, .int 181 0, .ref 48, .none, .ref 49, .ref 50, .ref 51, .int 242 0, .int 10 0, .str (Str.ofString "/claim/cut.py") 243] }) ::
  (nat_lit 53, fnO (stAt 4) "fit_int" (.none) (.str (Str.ofString "f77.ints") 234) (.ref 52)) ::
  (nat_lit 54, { cls := .type "tuple", data := .seq #[] }) ::
  (nat_lit 56, { cls := .type "tuple", data := .seq #[.str (Str.ofString "x") 248, .str (Str.ofString "y") 249, .str (Str.ofString "width") 250] }) ::
  (nat_lit 57, { cls := .type "tuple", data := .seq #[] }) ::
  (nat_lit 59, { cls := .type "code", data := .fields #[.str (Str.ofString "int_add") 245, .str (Str.ofString "int_add") 246, .str (Str.ofString "/claim/cut.py") 247, .int 15 0, .int 3 0, .int 0 0, .int 0 0, .int 3 0, .ref 54, .bool true, .int 181 0, .ref 55, .none, .ref 56, .ref 57, .ref 58, .int 251 0, .int 15 0, .str (Str.ofString "/claim/cut.py") 252] }) ::
  (nat_lit 60, fnO (stAt 5) "int_add" (.none) (.str (Str.ofString "f77.ints") 234) (.ref 59)) ::
  (nat_lit 61, { cls := .type "tuple", data := .seq #[] }) ::
  (nat_lit 63, { cls := .type "tuple", data := .seq #[.str (Str.ofString "x") 257, .str (Str.ofString "y") 258, .str (Str.ofString "width") 259] }) ::
  (nat_lit 64, { cls := .type "tuple", data := .seq #[] }) ::
  (nat_lit 66, { cls := .type "code", data := .fields #[.str (Str.ofString "int_sub") 254, .str (Str.ofString "int_sub") 255, .str (Str.ofString "/claim/cut.py") 256, .int 17 0, .int 3 0, .int 0 0, .int 0 0, .int 3 0, .ref 61, .bool true, .int 181 0, .ref 62, .none, .ref 63, .ref 64, .ref 65, .int 260 0, .int 17 0, .str (Str.ofString "/claim/cut.py") 261] }) ::
  (nat_lit 67, fnO (stAt 6) "int_sub" (.none) (.str (Str.ofString "f77.ints") 234) (.ref 66)) ::
  (nat_lit 68, { cls := .type "tuple", data := .seq #[] }) ::
  (nat_lit 70, { cls := .type "tuple", data := .seq #[.str (Str.ofString "x") 266, .str (Str.ofString "y") 267, .str (Str.ofString "width") 268] }) ::
  (nat_lit 71, { cls := .type "tuple", data := .seq #[] }) ::
  (nat_lit 73, { cls := .type "code", data := .fields #[.str (Str.ofString "int_mul") 263, .str (Str.ofString "int_mul") 264, .str (Str.ofString "/claim/cut.py") 265, .int 19 0, .int 3 0, .int 0 0, .int 0 0, .int 3 0, .ref 68, .bool true, .int 181 0, .ref 69, .none, .ref 70, .ref 71, .ref 72, .int 269 0, .int 19 0, .str (Str.ofString "/claim/cut.py") 270] }) ::
  (nat_lit 74, fnO (stAt 7) "int_mul" (.none) (.str (Str.ofString "f77.ints") 234) (.ref 73)) ::
  (nat_lit 75, { cls := .type "tuple", data := .seq #[] }) ::
  (nat_lit 77, { cls := .type "tuple", data := .seq #[.str (Str.ofString "x") 275, .str (Str.ofString "y") 276, .str (Str.ofString "found") 277] }) ::
  (nat_lit 78, { cls := .type "tuple", data := .seq #[] }) ::
  (nat_lit 80, { cls := .type "code", data := .fields #[.str (Str.ofString "cut_quotient") 272, .str (Str.ofString "cut_quotient") 273, .str (Str.ofString "/claim/cut.py") 274, .int 21 0, .int 2 0, .int 0 0, .int 0 0, .int 3 0, .ref 75, .bool true, .int 181 0, .ref 76, .none, .ref 77, .ref 78, .ref 79, .int 278 0, .int 21 0, .str (Str.ofString "/claim/cut.py") 279] }) ::
  (nat_lit 81, fnO (stAt 8) "cut_quotient" (.none) (.str (Str.ofString "f77.ints") 234) (.ref 80)) ::
  (nat_lit 82, { cls := .type "tuple", data := .seq #[] }) ::
  (nat_lit 84, { cls := .type "tuple", data := .seq #[.str (Str.ofString "x") 284, .str (Str.ofString "y") 285, .str (Str.ofString "width") 286] }) ::
  (nat_lit 85, { cls := .type "tuple", data := .seq #[] }) ::
  (nat_lit 87, { cls := .type "code", data := .fields #[.str (Str.ofString "int_div") 281, .str (Str.ofString "int_div") 282, .str (Str.ofString "/claim/cut.py") 283, .int 24 0, .int 3 0, .int 0 0, .int 0 0, .int 3 0, .ref 82, .bool true, .int 181 0, .ref 83, .none, .ref 84, .ref 85, .ref 86, .int 287 0, .int 24 0, .str (Str.ofString "/claim/cut.py") 288] }) ::
  (nat_lit 88, fnO (stAt 9) "int_div" (.none) (.str (Str.ofString "f77.ints") 234) (.ref 87)) ::
  (nat_lit 89, { cls := .type "tuple", data := .seq #[] }) ::
  (nat_lit 91, { cls := .type "tuple", data := .seq #[.str (Str.ofString "x") 293, .str (Str.ofString "n") 294] }) ::
  (nat_lit 92, { cls := .type "tuple", data := .seq #[] }) ::
  (nat_lit 94, { cls := .type "code", data := .fields #[.str (Str.ofString "inverse_power") 290, .str (Str.ofString "inverse_power") 291, .str (Str.ofString "/claim/cut.py") 292, .int 28 0, .int 2 0, .int 0 0, .int 0 0, .int 3 0, .ref 89, .bool true, .int 181 0, .ref 90, .none, .ref 91, .ref 92, .ref 93, .int 295 0, .int 28 0, .str (Str.ofString "/claim/cut.py") 296] }) ::
  (nat_lit 95, fnO (stAt 10) "inverse_power" (.none) (.str (Str.ofString "f77.ints") 234) (.ref 94)) ::
  (nat_lit 96, { cls := .type "tuple", data := .seq #[] }) ::
  (nat_lit 98, { cls := .type "tuple", data := .seq #[.str (Str.ofString "x") 301, .str (Str.ofString "n") 302, .str (Str.ofString "width") 303, .str (Str.ofString "found") 304, .str (Str.ofString "turn") 305] }) ::
  (nat_lit 99, { cls := .type "tuple", data := .seq #[] }) ::
  (nat_lit 101, { cls := .type "code", data := .fields #[.str (Str.ofString "int_power") 298, .str (Str.ofString "int_power") 299, .str (Str.ofString "/claim/cut.py") 300, .int 34 0, .int 3 0, .int 0 0, .int 0 0, .int 3 0, .ref 96, .bool true, .int 181 0, .ref 97, .none, .ref 98, .ref 99, .ref 100, .int 306 0, .int 34 0, .str (Str.ofString "/claim/cut.py") 307] }) ::
  (nat_lit 102, fnO (stAt 11) "int_power" (.none) (.str (Str.ofString "f77.ints") 234) (.ref 101)) ::
  (nat_lit 103, { cls := .type "tuple", data := .seq #[] }) ::
  (nat_lit 105, { cls := .type "tuple", data := .seq #[.str (Str.ofString "x") 312, .str (Str.ofString "y") 313] }) ::
  (nat_lit 106, { cls := .type "tuple", data := .seq #[] }) ::
  (nat_lit 108, { cls := .type "code", data := .fields #[.str (Str.ofString "order_of") 309, .str (Str.ofString "order_of") 310, .str (Str.ofString "/claim/cut.py") 311, .int 43 0, .int 2 0, .int 0 0, .int 0 0, .int 3 0, .ref 103, .bool true, .int 181 0, .ref 104, .none, .ref 105, .ref 106, .ref 107, .int 314 0, .int 43 0, .str (Str.ofString "/claim/cut.py") 315] }) ::
  (nat_lit 109, fnO (stAt 12) "order_of" (.none) (.str (Str.ofString "f77.ints") 234) (.ref 108)) ::
  (nat_lit 110, { cls := .type "tuple", data := .seq #[] }) ::
  (nat_lit 112, { cls := .type "tuple", data := .seq #[.str (Str.ofString "op") 320, .str (Str.ofString "order") 321] }) ::
  (nat_lit 113, { cls := .type "tuple", data := .seq #[] }) ::
  (nat_lit 115, { cls := .type "code", data := .fields #[.str (Str.ofString "holds") 317, .str (Str.ofString "holds") 318, .str (Str.ofString "/claim/cut.py") 319, .int 47 0, .int 2 0, .int 0 0, .int 0 0, .int 3 0, .ref 110, .bool true, .int 181 0, .ref 111, .none, .ref 112, .ref 113, .ref 114, .int 322 0, .int 47 0, .str (Str.ofString "/claim/cut.py") 323] }) ::
  (nat_lit 116, fnO (stAt 13) "holds" (.none) (.str (Str.ofString "f77.ints") 234) (.ref 115)) ::
  (nat_lit 117, { cls := .type "tuple", data := .seq #[] }) ::
  (nat_lit 119, { cls := .type "tuple", data := .seq #[.str (Str.ofString "op") 328, .str (Str.ofString "kind") 329, .str (Str.ofString "x") 330, .str (Str.ofString "y") 331, .str (Str.ofString "limits") 332] }) ::
  (nat_lit 120, { cls := .type "tuple", data := .seq #[] }) ::
  (nat_lit 122, { cls := .type "code", data := .fields #[.str (Str.ofString "int_binary") 325, .str (Str.ofString "int_binary") 326, .str (Str.ofString "/claim/cut.py") 327, .int 61 0, .int 5 0, .int 0 0, .int 0 0, .int 3 0, .ref 117, .bool true, .int 181 0, .ref 118, .none, .ref 119, .ref 120, .ref 121, .int 333 0, .int 61 0, .str (Str.ofString "/claim/cut.py") 334] }) ::
  (nat_lit 123, fnO (stAt 14) "int_binary" (.none) (.str (Str.ofString "f77.ints") 234) (.ref 122)) ::
  (nat_lit 124, { cls := .type "tuple", data := .seq #[.int 0 344, .int 0 345] }) ::
  (nat_lit 125, { cls := .type "tuple", data := .seq #[] }) ::
  (nat_lit 127, { cls := .type "tuple", data := .seq #[.str (Str.ofString "n") 354, .str (Str.ofString "count") 355] }) ::
  (nat_lit 128, { cls := .type "tuple", data := .seq #[] }) ::
  (nat_lit 130, { cls := .type "code", data := .fields #[.str (Str.ofString "count_digits") 351, .str (Str.ofString "count_digits") 352, .str (Str.ofString "/claim/cut.py") 353, .int 80 0, .int 1 0, .int 0 0, .int 0 0, .int 3 0, .ref 125, .bool true, .int 181 0, .ref 126, .none, .ref 127, .ref 128, .ref 129, .int 356 0, .int 80 0, .str (Str.ofString "/claim/cut.py") 357] }) ::
  (nat_lit 131, fnO (stAt 22) "count_digits" (.none) (.str (Str.ofString "f77.reals") 342) (.ref 130)) ::
  (nat_lit 132, { cls := .type "tuple", data := .seq #[] }) ::
  (nat_lit 134, { cls := .type "tuple", data := .seq #[.str (Str.ofString "m") 362, .str (Str.ofString "e") 363] }) ::
  (nat_lit 135, { cls := .type "tuple", data := .seq #[] }) ::
  (nat_lit 137, { cls := .type "code", data := .fields #[.str (Str.ofString "strip_zeros") 359, .str (Str.ofString "strip_zeros") 360, .str (Str.ofString "/claim/cut.py") 361, .int 90 0, .int 2 0, .int 0 0, .int 0 0, .int 3 0, .ref 132, .bool true, .int 181 0, .ref 133, .none, .ref 134, .ref 135, .ref 136, .int 364 0, .int 90 0, .str (Str.ofString "/claim/cut.py") 365] }) ::
  (nat_lit 138, fnO (stAt 23) "strip_zeros" (.none) (.str (Str.ofString "f77.reals") 342) (.ref 137)) ::
  (nat_lit 139, { cls := .type "tuple", data := .seq #[] }) ::
  (nat_lit 141, { cls := .type "tuple", data := .seq #[.str (Str.ofString "m") 370, .str (Str.ofString "e") 371, .str (Str.ofString "digits") 372, .str (Str.ofString "drop") 373, .str (Str.ofString "power") 374, .str (Str.ofString "kept") 375, .str (Str.ofString "rest") 376] }) ::
  (nat_lit 142, { cls := .type "tuple", data := .seq #[] }) ::
  (nat_lit 144, { cls := .type "code", data := .fields #[.str (Str.ofString "round_digits") 367, .str (Str.ofString "round_digits") 368, .str (Str.ofString "/claim/cut.py") 369, .int 97 0, .int 3 0, .int 0 0, .int 0 0, .int 3 0, .ref 139, .bool true, .int 181 0, .ref 140, .none, .ref 141, .ref 142, .ref 143, .int 377 0, .int 97 0, .str (Str.ofString "/claim/cut.py") 378] }) ::
  (nat_lit 145, fnO (stAt 24) "round_digits" (.none) (.str (Str.ofString "f77.reals") 342) (.ref 144)) ::
  (nat_lit 146, { cls := .type "tuple", data := .seq #[] }) ::
  (nat_lit 148, { cls := .type "tuple", data := .seq #[.str (Str.ofString "m") 383, .str (Str.ofString "e") 384, .str (Str.ofString "digits") 385, .str (Str.ofString "top") 386, .str (Str.ofString "lead") 387] }) ::
  (nat_lit 149, { cls := .type "tuple", data := .seq #[] }) ::
  (nat_lit 151, { cls := .type "code", data := .fields #[.str (Str.ofString "round_real") 380, .str (Str.ofString "round_real") 381, .str (Str.ofString "/claim/cut.py") 382, .int 107 0, .int 4 0, .int 0 0, .int 0 0, .int 3 0, .ref 146, .bool true, .int 181 0, .ref 147, .none, .ref 148, .ref 149, .ref 150, .int 388 0, .int 107 0, .str (Str.ofString "/claim/cut.py") 389] }) ::
  (nat_lit 152, fnO (stAt 25) "round_real" (.none) (.str (Str.ofString "f77.reals") 342) (.ref 151)) ::
  (nat_lit 153, { cls := .type "tuple", data := .seq #[] }) ::
  (nat_lit 155, { cls := .type "tuple", data := .seq #[.str (Str.ofString "x") 394, .str (Str.ofString "y") 395, .str (Str.ofString "low") 396] }) ::
  (nat_lit 156, { cls := .type "tuple", data := .seq #[] }) ::
  (nat_lit 158, { cls := .type "code", data := .fields #[.str (Str.ofString "exact_add") 391, .str (Str.ofString "exact_add") 392, .str (Str.ofString "/claim/cut.py") 393, .int 115 0, .int 2 0, .int 0 0, .int 0 0, .int 3 0, .ref 153, .bool true, .int 181 0, .ref 154, .none, .ref 155, .ref 156, .ref 157, .int 397 0, .int 115 0, .str (Str.ofString "/claim/cut.py") 398] }) ::
  (nat_lit 159, fnO (stAt 26) "exact_add" (.none) (.str (Str.ofString "f77.reals") 342) (.ref 158)) ::
  (nat_lit 160, { cls := .type "tuple", data := .seq #[] }) ::
  (nat_lit 162, { cls := .type "tuple", data := .seq #[.str (Str.ofString "x") 403, .str (Str.ofString "y") 404] }) ::
  (nat_lit 163, { cls := .type "tuple", data := .seq #[] }) ::
  (nat_lit 165, { cls := .type "code", data := .fields #[.str (Str.ofString "exact_mul") 400, .str (Str.ofString "exact_mul") 401, .str (Str.ofString "/claim/cut.py") 402, .int 122 0, .int 2 0, .int 0 0, .int 0 0, .int 3 0, .ref 160, .bool true, .int 181 0, .ref 161, .none, .ref 162, .ref 163, .ref 164, .int 405 0, .int 122 0, .str (Str.ofString "/claim/cut.py") 406] }) ::
  (nat_lit 166, fnO (stAt 27) "exact_mul" (.none) (.str (Str.ofString "f77.reals") 342) (.ref 165)) ::
  (nat_lit 167, { cls := .type "tuple", data := .seq #[] }) ::
  (nat_lit 169, { cls := .type "tuple", data := .seq #[.str (Str.ofString "x") 411] }) ::
  (nat_lit 170, { cls := .type "tuple", data := .seq #[] }) ::
  (nat_lit 172, { cls := .type "code", data := .fields #[.str (Str.ofString "real_neg") 408, .str (Str.ofString "real_neg") 409, .str (Str.ofString "/claim/cut.py") 410, .int 124 0, .int 1 0, .int 0 0, .int 0 0, .int 3 0, .ref 167, .bool true, .int 181 0, .ref 168, .none, .ref 169, .ref 170, .ref 171, .int 412 0, .int 124 0, .str (Str.ofString "/claim/cut.py") 413] }) ::
  (nat_lit 173, fnO (stAt 28) "real_neg" (.none) (.str (Str.ofString "f77.reals") 342) (.ref 172)) ::
  (nat_lit 174, { cls := .type "tuple", data := .seq #[] }) ::
  (nat_lit 176, { cls := .type "tuple", data := .seq #[.str (Str.ofString "over") 418, .str (Str.ofString "under") 419, .str (Str.ofString "e") 420, .str (Str.ofString "digits") 421, .str (Str.ofString "shift") 422, .str (Str.ofString "kept") 423, .str (Str.ofString "rest") 424, .str (Str.ofString "m") 425] }) ::
  (nat_lit 177, { cls := .type "tuple", data := .seq #[] }) ::
  (nat_lit 179, { cls := .type "code", data := .fields #[.str (Str.ofString "quotient") 415, .str (Str.ofString "quotient") 416, .str (Str.ofString "/claim/cut.py") 417, .int 126 0, .int 4 0, .int 0 0, .int 0 0, .int 3 0, .ref 174, .bool true, .int 181 0, .ref 175, .none, .ref 176, .ref 177, .ref 178, .int 426 0, .int 126 0, .str (Str.ofString "/claim/cut.py") 427] }) ::
  (nat_lit 180, fnO (stAt 29) "quotient" (.none) (.str (Str.ofString "f77.reals") 342) (.ref 179)) ::
  (nat_lit 181, { cls := .type "tuple", data := .seq #[] }) ::
  (nat_lit 183, { cls := .type "tuple", data := .seq #[.str (Str.ofString "x") 432, .str (Str.ofString "y") 433, .str (Str.ofString "digits") 434, .str (Str.ofString "top") 435, .str (Str.ofString "m") 436, .str (Str.ofString "e") 437] }) ::
  (nat_lit 184, { cls := .type "tuple", data := .seq #[] }) ::
  (nat_lit 186, { cls := .type "code", data := .fields #[.str (Str.ofString "real_add") 429, .str (Str.ofString "real_add") 430, .str (Str.ofString "/claim/cut.py") 431, .int 133 0, .int 4 0, .int 0 0, .int 0 0, .int 3 0, .ref 181, .bool true, .int 181 0, .ref 182, .none, .ref 183, .ref 184, .ref 185, .int 438 0, .int 133 0, .str (Str.ofString "/claim/cut.py") 439] }) ::
  (nat_lit 187, fnO (stAt 30) "real_add" (.none) (.str (Str.ofString "f77.reals") 342) (.ref 186)) ::
  (nat_lit 188, { cls := .type "tuple", data := .seq #[] }) ::
  (nat_lit 190, { cls := .type "tuple", data := .seq #[.str (Str.ofString "x") 444, .str (Str.ofString "y") 445, .str (Str.ofString "digits") 446, .str (Str.ofString "top") 447, .str (Str.ofString "m") 448, .str (Str.ofString "e") 449] }) ::
  (nat_lit 191, { cls := .type "tuple", data := .seq #[] }) ::
  (nat_lit 193, { cls := .type "code", data := .fields #[.str (Str.ofString "real_sub") 441, .str (Str.ofString "real_sub") 442, .str (Str.ofString "/claim/cut.py") 443, .int 136 0, .int 4 0, .int 0 0, .int 0 0, .int 3 0, .ref 188, .bool true, .int 181 0, .ref 189, .none, .ref 190, .ref 191, .ref 192, .int 450 0, .int 136 0, .str (Str.ofString "/claim/cut.py") 451] }) ::
  (nat_lit 194, fnO (stAt 31) "real_sub" (.none) (.str (Str.ofString "f77.reals") 342) (.ref 193)) ::
  (nat_lit 195, { cls := .type "tuple", data := .seq #[] }) ::
  (nat_lit 197, { cls := .type "tuple", data := .seq #[.str (Str.ofString "x") 456, .str (Str.ofString "y") 457, .str (Str.ofString "digits") 458, .str (Str.ofString "top") 459, .str (Str.ofString "m") 460, .str (Str.ofString "e") 461] }) ::
  (nat_lit 198, { cls := .type "tuple", data := .seq #[] }) ::
  (nat_lit 200, { cls := .type "code", data := .fields #[.str (Str.ofString "real_mul") 453, .str (Str.ofString "real_mul") 454, .str (Str.ofString "/claim/cut.py") 455, .int 139 0, .int 4 0, .int 0 0, .int 0 0, .int 3 0, .ref 195, .bool true, .int 181 0, .ref 196, .none, .ref 197, .ref 198, .ref 199, .int 462 0, .int 139 0, .str (Str.ofString "/claim/cut.py") 463] }) ::
  (nat_lit 201, fnO (stAt 32) "real_mul" (.none) (.str (Str.ofString "f77.reals") 342) (.ref 200)) ::
  (nat_lit 202, { cls := .type "tuple", data := .seq #[] }) ::
  (nat_lit 204, { cls := .type "tuple", data := .seq #[.str (Str.ofString "x") 468, .str (Str.ofString "y") 469, .str (Str.ofString "digits") 470, .str (Str.ofString "top") 471, .str (Str.ofString "m") 472, .str (Str.ofString "e") 473] }) ::
  (nat_lit 205, { cls := .type "tuple", data := .seq #[] }) ::
  (nat_lit 207, { cls := .type "code", data := .fields #[.str (Str.ofString "real_div") 465, .str (Str.ofString "real_div") 466, .str (Str.ofString "/claim/cut.py") 467, .int 142 0, .int 4 0, .int 0 0, .int 0 0, .int 3 0, .ref 202, .bool true, .int 181 0, .ref 203, .none, .ref 204, .ref 205, .ref 206, .int 474 0, .int 142 0, .str (Str.ofString "/claim/cut.py") 475] }) ::
  (nat_lit 208, fnO (stAt 33) "real_div" (.none) (.str (Str.ofString "f77.reals") 342) (.ref 207)) ::
  (nat_lit 209, { cls := .type "tuple", data := .seq #[] }) ::
  (nat_lit 211, { cls := .type "tuple", data := .seq #[.str (Str.ofString "x") 480, .str (Str.ofString "y") 481, .str (Str.ofString "m") 482] }) ::
  (nat_lit 212, { cls := .type "tuple", data := .seq #[] }) ::
  (nat_lit 214, { cls := .type "code", data := .fields #[.str (Str.ofString "real_compare") 477, .str (Str.ofString "real_compare") 478, .str (Str.ofString "/claim/cut.py") 479, .int 147 0, .int 2 0, .int 0 0, .int 0 0, .int 3 0, .ref 209, .bool true, .int 181 0, .ref 210, .none, .ref 211, .ref 212, .ref 213, .int 483 0, .int 147 0, .str (Str.ofString "/claim/cut.py") 484] }) ::
  (nat_lit 215, fnO (stAt 34) "real_compare" (.none) (.str (Str.ofString "f77.reals") 342) (.ref 214)) ::
  (nat_lit 216, { cls := .type "tuple", data := .seq #[] }) ::
  (nat_lit 218, { cls := .type "tuple", data := .seq #[.str (Str.ofString "x") 489, .str (Str.ofString "m") 490, .str (Str.ofString "e") 491, .str (Str.ofString "found") 492] }) ::
  (nat_lit 219, { cls := .type "tuple", data := .seq #[] }) ::
  (nat_lit 221, { cls := .type "code", data := .fields #[.str (Str.ofString "real_to_int") 486, .str (Str.ofString "real_to_int") 487, .str (Str.ofString "/claim/cut.py") 488, .int 152 0, .int 1 0, .int 0 0, .int 0 0, .int 3 0, .ref 216, .bool true, .int 181 0, .ref 217, .none, .ref 218, .ref 219, .ref 220, .int 493 0, .int 152 0, .str (Str.ofString "/claim/cut.py") 494] }) ::
  (nat_lit 222, fnO (stAt 35) "real_to_int" (.none) (.str (Str.ofString "f77.reals") 342) (.ref 221)) ::
  (nat_lit 223, { cls := .type "tuple", data := .seq #[] }) ::
  (nat_lit 225, { cls := .type "tuple", data := .seq #[.str (Str.ofString "x") 499, .str (Str.ofString "n") 500, .str (Str.ofString "digits") 501, .str (Str.ofString "found") 502] }) ::
  (nat_lit 226, { cls := .type "tuple", data := .seq #[] }) ::
  (nat_lit 228, { cls := .type "code", data := .fields #[.str (Str.ofString "raised") 496, .str (Str.ofString "raised") 497, .str (Str.ofString "/claim/cut.py") 498, .int 158 0, .int 3 0, .int 0 0, .int 0 0, .int 3 0, .ref 223, .bool true, .int 181 0, .ref 224, .none, .ref 225, .ref 226, .ref 227, .int 503 0, .int 158 0, .str (Str.ofString "/claim/cut.py") 504] }) ::
  (nat_lit 229, fnO (stAt 36) "raised" (.none) (.str (Str.ofString "f77.reals") 342) (.ref 228)) ::
  (nat_lit 230, { cls := .type "tuple", data := .seq #[] }) ::
  (nat_lit 232, { cls := .type "tuple", data := .seq #[.str (Str.ofString "x") 509, .str (Str.ofString "n") 510, .str (Str.ofString "digits") 511, .str (Str.ofString "top") 512, .str (Str.ofString "m") 513, .str (Str.ofString "e") 514] }) ::
  (nat_lit 233, { cls := .type "tuple", data := .seq #[] }) ::
  (nat_lit 235, { cls := .type "code", data := .fields #[.str (Str.ofString "real_power") 506, .str (Str.ofString "real_power") 507, .str (Str.ofString "/claim/cut.py") 508, .int 168 0, .int 4 0, .int 0 0, .int 0 0, .int 3 0, .ref 230, .bool true, .int 181 0, .ref 231, .none, .ref 232, .ref 233, .ref 234, .int 515 0, .int 168 0, .str (Str.ofString "/claim/cut.py") 516] }) ::
  (nat_lit 236, fnO (stAt 37) "real_power" (.none) (.str (Str.ofString "f77.reals") 342) (.ref 235)) ::
  (nat_lit 237, { cls := .type "tuple", data := .seq #[] }) ::
  (nat_lit 239, { cls := .type "tuple", data := .seq #[.str (Str.ofString "kind") 521, .str (Str.ofString "limits") 522] }) ::
  (nat_lit 240, { cls := .type "tuple", data := .seq #[] }) ::
  (nat_lit 242, { cls := .type "code", data := .fields #[.str (Str.ofString "digits_of") 518, .str (Str.ofString "digits_of") 519, .str (Str.ofString "/claim/cut.py") 520, .int 175 0, .int 2 0, .int 0 0, .int 0 0, .int 3 0, .ref 237, .bool true, .int 181 0, .ref 238, .none, .ref 239, .ref 240, .ref 241, .int 523 0, .int 175 0, .str (Str.ofString "/claim/cut.py") 524] }) ::
  (nat_lit 243, fnO (stAt 38) "digits_of" (.none) (.str (Str.ofString "f77.reals") 342) (.ref 242)) ::
  (nat_lit 244, { cls := .type "tuple", data := .seq #[] }) ::
  (nat_lit 246, { cls := .type "tuple", data := .seq #[.str (Str.ofString "op") 529, .str (Str.ofString "kind") 530, .str (Str.ofString "x") 531, .str (Str.ofString "y") 532, .str (Str.ofString "limits") 533, .str (Str.ofString "digits") 534, .str (Str.ofString "top") 535] }) ::
  (nat_lit 247, { cls := .type "tuple", data := .seq #[] }) ::
  (nat_lit 249, { cls := .type "code", data := .fields #[.str (Str.ofString "real_binary") 526, .str (Str.ofString "real_binary") 527, .str (Str.ofString "/claim/cut.py") 528, .int 177 0, .int 5 0, .int 0 0, .int 0 0, .int 3 0, .ref 244, .bool true, .int 181 0, .ref 245, .none, .ref 246, .ref 247, .ref 248, .int 536 0, .int 177 0, .str (Str.ofString "/claim/cut.py") 537] }) ::
  (nat_lit 250, fnO (stAt 39) "real_binary" (.none) (.str (Str.ofString "f77.reals") 342) (.ref 249)) ::
  (nat_lit 251, { cls := .type "tuple", data := .seq #[] }) ::
  (nat_lit 253, { cls := .type "tuple", data := .seq #[.str (Str.ofString "value") 544] }) ::
  (nat_lit 254, { cls := .type "tuple", data := .seq #[] }) ::
  (nat_lit 256, { cls := .type "code", data := .fields #[.str (Str.ofString "is_zero") 541, .str (Str.ofString "is_zero") 542, .str (Str.ofString "/claim/cut.py") 543, .int 192 0, .int 1 0, .int 0 0, .int 0 0, .int 3 0, .ref 251, .bool true, .int 181 0, .ref 252, .none, .ref 253, .ref 254, .ref 255, .int 545 0, .int 192 0, .str (Str.ofString "/claim/cut.py") 546] }) ::
  (nat_lit 257, fnO (stAt 41) "is_zero" (.none) (.str (Str.ofString "f77.counts") 539) (.ref 256)) ::
  (nat_lit 258, { cls := .type "tuple", data := .seq #[] }) ::
  (nat_lit 260, { cls := .type "tuple", data := .seq #[.str (Str.ofString "kind") 551, .str (Str.ofString "first") 552, .str (Str.ofString "last") 553, .str (Str.ofString "step") 554, .str (Str.ofString "operations") 555, .str (Str.ofString "limits") 556, .str (Str.ofString "reckon") 557, .str (Str.ofString "span") 558, .str (Str.ofString "count") 559] }) ::
  (nat_lit 261, { cls := .type "tuple", data := .seq #[] }) ::
  (nat_lit 263, { cls := .type "code", data := .fields #[.str (Str.ofString "trip_count") 548, .str (Str.ofString "trip_count") 549, .str (Str.ofString "/claim/cut.py") 550, .int 196 0, .int 6 0, .int 0 0, .int 0 0, .int 3 0, .ref 258, .bool true, .int 181 0, .ref 259, .none, .ref 260, .ref 261, .ref 262, .int 560 0, .int 196 0, .str (Str.ofString "/claim/cut.py") 561] }) ::
  (nat_lit 264, fnO (stAt 42) "trip_count" (.none) (.str (Str.ofString "f77.counts") 539) (.ref 263)) ::
  (nat_lit 272, { cls := .type "tuple", data := .seq #[.int 32 577, .int 7 578, .int 15 579, .int 38 580, .int 1000000 581, .int 19 582, .int 72 583, .int 40 584] }) ::
  (nat_lit 273, { cls := .type "tuple", data := .seq #[] }) ::
  (nat_lit 275, { cls := .type "tuple", data := .seq #[.str (Str.ofString "self") 588, .str (Str.ofString "width") 589, .str (Str.ofString "real_digits") 590, .str (Str.ofString "double_digits") 591, .str (Str.ofString "top_exponent") 592, .str (Str.ofString "steps") 593, .str (Str.ofString "continuations") 594, .str (Str.ofString "columns") 595, .str (Str.ofString "depth") 596] }) ::
  (nat_lit 276, { cls := .type "tuple", data := .seq #[] }) ::
  (nat_lit 278, { cls := .type "code", data := .fields #[.str (Str.ofString "__init__") 585, .str (Str.ofString "Limits.__init__") 586, .str (Str.ofString "/claim/cut.py") 587, .int 208 0, .int 9 0, .int 0 0, .int 0 0, .int 3 0, .ref 273, .bool true, .int 181 0, .ref 274, .none, .ref 275, .ref 276, .ref 277, .int 597 0, .int 208 0, .str (Str.ofString "/claim/cut.py") 598] }) ::
  (nat_lit 279, fnO (inCls 44) "Limits.__init__" (.ref 272) (.str (Str.ofString "f77.limits") 563) (.ref 278)) ::
  (nat_lit 280, { cls := .type "tuple", data := .seq #[.str (Str.ofString "columns") 600, .str (Str.ofString "continuations") 601, .str (Str.ofString "depth") 602, .str (Str.ofString "double_digits") 603, .str (Str.ofString "real_digits") 604, .str (Str.ofString "steps") 605, .str (Str.ofString "top_exponent") 606, .str (Str.ofString "width") 607] }) ::
  (nat_lit 281, { cls := .type "dict", data := .dict #[{ hash := PyData.keyHash P (Str.ofString "__module__"), key := .str (Str.ofString "__module__") 572, val := .str (Str.ofString "f77.limits") 563 }, { hash := PyData.keyHash P (Str.ofString "__firstlineno__"), key := .str (Str.ofString "__firstlineno__") 576, val := .int 206 575 }, { hash := PyData.keyHash P (Str.ofString "__init__"), key := .str (Str.ofString "__init__") 599, val := .ref 279 }, { hash := PyData.keyHash P (Str.ofString "__static_attributes__"), key := .str (Str.ofString "__static_attributes__") 608, val := .ref 280 }, { hash := PyData.keyHash P (Str.ofString "__dict__"), key := .str (Str.ofString "__dict__") 610, val := .ref 283 }, { hash := PyData.keyHash P (Str.ofString "__weakref__"), key := .str (Str.ofString "__weakref__") 612, val := .ref 284 }, { hash := PyData.keyHash P (Str.ofString "__doc__"), key := .str (Str.ofString "__doc__") 613, val := .none }] 4 }) ::
  (nat_lit 282, { cls := .type "type", data := .cls { name := Str.ofString "Limits", bases := [.type "object"], mro := [.ref 282, .type "object"], ns := 281, qualname := Str.ofString "Limits" }, slots := #[none, none, some (.str (Str.ofString "Limits") 565), some (.str (Str.ofString "Limits") 573), some (.builtin "object.__new__"), some (.bool true)] }) ::
  (nat_lit 283, { cls := .type "getset_descriptor", data := .fields #[.str (Str.ofString "__dict__") 609, .ref 282, .builtin "function.__dict__", .builtin "function.__dict__#set"] }) ::
  (nat_lit 284, { cls := .type "getset_descriptor", data := .fields #[.str (Str.ofString "__weakref__") 611, .ref 282, .builtin "ExceptionGroup.__weakref__", .none] }) ::
  (nat_lit 287, { cls := .type "tuple", data := .seq #[] }) ::
  (nat_lit 289, { cls := .type "tuple", data := .seq #[.str (Str.ofString "rope") 621, .str (Str.ofString "many") 622, .str (Str.ofString "spot") 623] }) ::
  (nat_lit 290, { cls := .type "tuple", data := .seq #[] }) ::
  (nat_lit 292, { cls := .type "code", data := .fields #[.str (Str.ofString "_law_pull") 618, .str (Str.ofString "_law_pull") 619, .str (Str.ofString "/claim/cut.py") 620, .int 218 0, .int 2 0, .int 0 0, .int 0 0, .int 3 0, .ref 287, .bool true, .int 181 0, .ref 288, .none, .ref 289, .ref 290, .ref 291, .int 624 0, .int 218 0, .str (Str.ofString "/claim/cut.py") 625] }) ::
  (nat_lit 293, fnO (stAt 46) "_law_pull" (.none) (.str (Str.ofString "law_sa0214_01") 616) (.ref 292)) ::
  (nat_lit 294, { cls := .type "tuple", data := .seq #[] }) ::
  (nat_lit 296, { cls := .type "tuple", data := .seq #[.str (Str.ofString "kind") 630, .str (Str.ofString "tenths") 631] }) ::
  (nat_lit 297, { cls := .type "tuple", data := .seq #[] }) ::
  (nat_lit 299, { cls := .type "code", data := .fields #[.str (Str.ofString "_law_worth") 627, .str (Str.ofString "_law_worth") 628, .str (Str.ofString "/claim/cut.py") 629, .int 224 0, .int 2 0, .int 0 0, .int 0 0, .int 3 0, .ref 294, .bool true, .int 181 0, .ref 295, .none, .ref 296, .ref 297, .ref 298, .int 632 0, .int 224 0, .str (Str.ofString "/claim/cut.py") 633] }) ::
  (nat_lit 300, fnO (stAt 47) "_law_worth" (.none) (.str (Str.ofString "law_sa0214_01") 616) (.ref 299)) ::
  (nat_lit 301, { cls := .type "tuple", data := .seq #[] }) ::
  (nat_lit 303, { cls := .type "tuple", data := .seq #[.str (Str.ofString "kind") 638, .str (Str.ofString "first") 639, .str (Str.ofString "last") 640, .str (Str.ofString "step") 641, .str (Str.ofString "deeds") 642] }) ::
  (nat_lit 304, { cls := .type "tuple", data := .seq #[] }) ::
  (nat_lit 306, { cls := .type "code", data := .fields #[.str (Str.ofString "_law_rounds") 635, .str (Str.ofString "_law_rounds") 636, .str (Str.ofString "/claim/cut.py") 637, .int 228 0, .int 4 0, .int 0 0, .int 0 0, .int 3 0, .ref 301, .bool true, .int 181 0, .ref 302, .none, .ref 303, .ref 304, .ref 305, .int 643 0, .int 228 0, .str (Str.ofString "/claim/cut.py") 644] }) ::
  (nat_lit 307, fnO (stAt 48) "_law_rounds" (.none) (.str (Str.ofString "law_sa0214_01") 616) (.ref 306)) ::
  (nat_lit 308, { cls := .type "tuple", data := .seq #[] }) ::
  (nat_lit 310, { cls := .type "tuple", data := .seq #[.str (Str.ofString "kind") 649, .str (Str.ofString "first") 650, .str (Str.ofString "last") 651, .str (Str.ofString "step") 652] }) ::
  (nat_lit 311, { cls := .type "tuple", data := .seq #[] }) ::
  (nat_lit 313, { cls := .type "code", data := .fields #[.str (Str.ofString "_law_stands") 646, .str (Str.ofString "_law_stands") 647, .str (Str.ofString "/claim/cut.py") 648, .int 231 0, .int 4 0, .int 0 0, .int 0 0, .int 3 0, .ref 308, .bool true, .int 181 0, .ref 309, .none, .ref 310, .ref 311, .ref 312, .int 653 0, .int 231 0, .str (Str.ofString "/claim/cut.py") 654] }) ::
  (nat_lit 314, fnO (stAt 49) "_law_stands" (.none) (.str (Str.ofString "law_sa0214_01") 616) (.ref 313)) ::
  (nat_lit 315, { cls := .type "tuple", data := .seq #[] }) ::
  (nat_lit 317, { cls := .type "tuple", data := .seq #[.str (Str.ofString "rope") 659, .str (Str.ofString "kind") 660, .str (Str.ofString "first") 661, .str (Str.ofString "last") 662, .str (Str.ofString "step") 663, .str (Str.ofString "shift") 664, .str (Str.ofString "wide") 665, .str (Str.ofString "count") 666, .str (Str.ofString "cut") 667, .str (Str.ofString "middle") 668, .str (Str.ofString "alike") 669] }) ::
  (nat_lit 318, { cls := .type "tuple", data := .seq #[] }) ::
  (nat_lit 320, { cls := .type "code", data := .fields #[.str (Str.ofString "_law_turn") 656, .str (Str.ofString "_law_turn") 657, .str (Str.ofString "/claim/cut.py") 658, .int 237 0, .int 1 0, .int 0 0, .int 0 0, .int 3 0, .ref 315, .bool true, .int 181 0, .ref 316, .none, .ref 317, .ref 318, .ref 319, .int 670 0, .int 237 0, .str (Str.ofString "/claim/cut.py") 671] }) ::
  (nat_lit 321, fnO (stAt 50) "_law_turn" (.none) (.str (Str.ofString "law_sa0214_01") 616) (.ref 320)) ::
  (nat_lit 322, { cls := .type "tuple", data := .seq #[] }) ::
  (nat_lit 324, { cls := .type "tuple", data := .seq #[.str (Str.ofString "script") 676, .str (Str.ofString "rope") 677, .str (Str.ofString "turn") 678] }) ::
  (nat_lit 325, { cls := .type "tuple", data := .seq #[] }) ::
  (nat_lit 327, { cls := .type "code", data := .fields #[.str (Str.ofString "law") 673, .str (Str.ofString "law") 674, .str (Str.ofString "/claim/cut.py") 675, .int 258 0, .int 1 0, .int 0 0, .int 0 0, .int 3 0, .ref 322, .bool true, .int 181 0, .ref 323, .none, .ref 324, .ref 325, .ref 326, .int 679 0, .int 258 0, .str (Str.ofString "/claim/cut.py") 680] }) ::
  (nat_lit 328, fnO (stAt 51) "law" (.none) (.str (Str.ofString "law_sa0214_01") 616) (.ref 327)) :: []
noncomputable def VT : Program := view PySem.Challenge.rw_sa0214_01.row.toRowW.prog [1, 2, 4, 5, 6, 7, 8, 9, 10, 11, 12, 13, 14, 15, 16, 17, 19, 20, 21, 22, 23, 24, 25, 26, 27, 28, 29, 30, 31, 32, 33, 34, 35, 36, 37, 38, 39, 41, 42, 44, 46, 47, 48, 49, 50, 51]
def AT : List Addr := [2, 3, 15, 22, 24, 25, 27, 28, 29, 30, 31, 32, 35, 42, 43, 44, 47, 49, 50, 52, 53, 54, 56, 57, 59, 60, 61, 63, 64, 66, 67, 68, 70, 71, 73, 74, 75, 77, 78, 80, 81, 82, 84, 85, 87, 88, 89, 91, 92, 94, 95, 96, 98, 99, 101, 102, 103, 105, 106, 108, 109, 110, 112, 113, 115, 116, 117, 119, 120, 122, 123, 124, 125, 127, 128, 130, 131, 132, 134, 135, 137, 138, 139, 141, 142, 144, 145, 146, 148, 149, 151, 152, 153, 155, 156, 158, 159, 160, 162, 163, 165, 166, 167, 169, 170, 172, 173, 174, 176, 177, 179, 180, 181, 183, 184, 186, 187, 188, 190, 191, 193, 194, 195, 197, 198, 200, 201, 202, 204, 205, 207, 208, 209, 211, 212, 214, 215, 216, 218, 219, 221, 222, 223, 225, 226, 228, 229, 230, 232, 233, 235, 236, 237, 239, 240, 242, 243, 244, 246, 247, 249, 250, 251, 253, 254, 256, 257, 258, 260, 261, 263, 264, 272, 273, 275, 276, 278, 279, 280, 281, 282, 283, 284, 287, 289, 290, 292, 293, 294, 296, 297, 299, 300, 301, 303, 304, 306, 307, 308, 310, 311, 313, 314, 315, 317, 318, 320, 321, 322, 324, 325, 327, 328]
theorem at_ok : ∀ P, AT = (KT P).map (·.1) := fun P => by kernel_rfl
/-- a def before it is a function -/
noncomputable def fnN (s : Stmt) (qn : String) : Obj := match s with
  | .FunctionDef nm ps bd _ _ _ sc _ _ _ => { cls := .none, data := .func { name := nm, qualname := Str.ofString qn, params := ps, body := .stmts bd, scope := sc, globals := 0, closure := [], defaults := .none, kwdefaults := .none } }
  | _ => default
/-- the rest of the heap that the text's top leaves -/
noncomputable def RT : Params → Frag := fun P =>
  (nat_lit 0, boot_o_0 P) ::
  (nat_lit 1, boot_o_1 P) ::
  (nat_lit 4, boot_o_4 P) ::
  (nat_lit 5, boot_o_5 P) ::
  (nat_lit 6, boot_o_6 P) ::
  (nat_lit 7, boot_o_7 P) ::
  (nat_lit 8, boot_o_8 P) ::
  (nat_lit 9, boot_o_9 P) ::
  (nat_lit 10, boot_o_10 P) ::
  (nat_lit 11, { cls := .type "tuple", data := .seq #[] }) ::
  (nat_lit 12, { cls := .none, data := .fields #[.int 2 0, .int 0 0, .ref 20, .int 7 0, .int 0 0, .ref 40, .int 10 0, .int 0 0, .ref 52, .int 15 0, .int 0 0, .ref 59, .int 17 0, .int 0 0, .ref 66, .int 19 0, .int 0 0, .ref 73, .int 21 0, .int 0 0, .ref 80, .int 24 0, .int 0 0, .ref 87, .int 28 0, .int 0 0, .ref 94, .int 34 0, .int 0 0, .ref 101, .int 43 0, .int 0 0, .ref 108, .int 47 0, .int 0 0, .ref 115, .int 61 0, .int 0 0, .ref 122, .int 80 0, .int 0 0, .ref 130, .int 90 0, .int 0 0, .ref 137, .int 97 0, .int 0 0, .ref 144, .int 107 0, .int 0 0, .ref 151, .int 115 0, .int 0 0, .ref 158, .int 122 0, .int 0 0, .ref 165, .int 124 0, .int 0 0, .ref 172, .int 126 0, .int 0 0, .ref 179, .int 133 0, .int 0 0, .ref 186, .int 136 0, .int 0 0, .ref 193, .int 139 0, .int 0 0, .ref 200, .int 142 0, .int 0 0, .ref 207, .int 147 0, .int 0 0, .ref 214, .int 152 0, .int 0 0, .ref 221, .int 158 0, .int 0 0, .ref 228, .int 168 0, .int 0 0, .ref 235, .int 175 0, .int 0 0, .ref 242, .int 177 0, .int 0 0, .ref 249, .int 192 0, .int 0 0, .ref 256, .int 196 0, .int 0 0, .ref 263, .int 206 0, .int 0 0, .ref 270, .int 218 0, .int 0 0, .ref 292, .int 224 0, .int 0 0, .ref 299, .int 228 0, .int 0 0, .ref 306, .int 231 0, .int 0 0, .ref 313, .int 237 0, .int 0 0, .ref 320, .int 258 0, .int 0 0, .ref 327] }) ::
  (nat_lit 13, { cls := .type "code", data := .fields #[.str (Str.ofString "<module>") 182, .str (Str.ofString "<module>") 183, .str (Str.ofString "/claim/cut.py") 184, .int 1 0, .int 0 0, .int 0 0, .int 0 0, .int 0 0, .ref 11, .bool false, .int 181 0, .ref 12, .none, .none, .none, .none, .int 185 0, .int 1 0, .str (Str.ofString "/claim/cut.py") 186] }) ::
  (nat_lit 14, { cls := .type "frame", slots := #[some (.ref 13), some (.ref 3), some (.ref 3), none, some (.str (Str.ofString "__main__") 164), none, some (.ref 0)] }) ::
  (nat_lit 16, { cls := .type "builtin_function_or_method", data := .fields #[.builtin "type.__prepare__", .type "type"] }) ::
  (nat_lit 17, { cls := .type "dict", data := .dict #[{ hash := PyData.keyHash P (Str.ofString "__module__"), key := .str (Str.ofString "__module__") 196, val := .str (Str.ofString "f77.errors") 187 }, { hash := PyData.keyHash P (Str.ofString "__qualname__"), key := .str (Str.ofString "__qualname__") 198, val := .str (Str.ofString "F77Error") 197 }, { hash := PyData.keyHash P (Str.ofString "__firstlineno__"), key := .str (Str.ofString "__firstlineno__") 200, val := .int 2 199 }, { hash := PyData.keyHash P (Str.ofString "__init__"), key := .str (Str.ofString "__init__") 208, val := .ref 28 }, { hash := PyData.keyHash P (Str.ofString "__static_attributes__"), key := .str (Str.ofString "__static_attributes__") 210, val := .ref 29 }] 5 }) ::
  (nat_lit 18, { cls := .type "tuple", data := .seq #[] }) ::
  (nat_lit 19, { cls := .none, data := .fields #[.int 4 0, .int 4 0, .ref 27] }) ::
  (nat_lit 20, { cls := .type "code", data := .fields #[.str (Str.ofString "F77Error") 191, .str (Str.ofString "F77Error") 192, .str (Str.ofString "/claim/cut.py") 193, .int 2 0, .int 0 0, .int 0 0, .int 0 0, .int 0 0, .ref 18, .bool false, .int 181 0, .ref 19, .none, .none, .none, .none, .int 194 0, .int 2 0, .str (Str.ofString "/claim/cut.py") 195] }) ::
  (nat_lit 21, { cls := .type "frame", slots := #[some (.ref 20), some (.ref 3), some (.ref 17), none, some (.str (Str.ofString "f77.errors") 187), none, some (.ref 0)] }) ::
  (nat_lit 23, { cls := .none, data := .fields #[] }) ::
  (nat_lit 26, fnN (inCls 1) "F77Error.__init__") ::
  (nat_lit 33, { cls := .type "super", data := .fields #[.ref 31, .ref 31, .ref 31] }) ::
  (nat_lit 34, { cls := .type "builtin_function_or_method", data := .fields #[.builtin "object.__init_subclass__", .ref 31] }) ::
  (nat_lit 36, { cls := .type "builtin_function_or_method", data := .fields #[.builtin "type.__prepare__", .type "type"] }) ::
  (nat_lit 37, { cls := .type "dict", data := .dict #[{ hash := PyData.keyHash P (Str.ofString "__module__"), key := .str (Str.ofString "__module__") 225, val := .str (Str.ofString "f77.errors") 187 }, { hash := PyData.keyHash P (Str.ofString "__qualname__"), key := .str (Str.ofString "__qualname__") 227, val := .str (Str.ofString "RunFault") 226 }, { hash := PyData.keyHash P (Str.ofString "__firstlineno__"), key := .str (Str.ofString "__firstlineno__") 229, val := .int 7 228 }, { hash := PyData.keyHash P (Str.ofString "__static_attributes__"), key := .str (Str.ofString "__static_attributes__") 230, val := .ref 42 }] 4 }) ::
  (nat_lit 38, { cls := .type "tuple", data := .seq #[] }) ::
  (nat_lit 39, { cls := .none, data := .fields #[] }) ::
  (nat_lit 40, { cls := .type "code", data := .fields #[.str (Str.ofString "RunFault") 220, .str (Str.ofString "RunFault") 221, .str (Str.ofString "/claim/cut.py") 222, .int 7 0, .int 0 0, .int 0 0, .int 0 0, .int 0 0, .ref 38, .bool false, .int 181 0, .ref 39, .none, .none, .none, .none, .int 223 0, .int 7 0, .str (Str.ofString "/claim/cut.py") 224] }) ::
  (nat_lit 41, { cls := .type "frame", slots := #[some (.ref 40), some (.ref 3), some (.ref 37), none, some (.str (Str.ofString "f77.errors") 187), none, some (.ref 0)] }) ::
  (nat_lit 45, { cls := .type "super", data := .fields #[.ref 44, .ref 44, .ref 44] }) ::
  (nat_lit 46, { cls := .type "builtin_function_or_method", data := .fields #[.builtin "object.__init_subclass__", .ref 44] }) ::
  (nat_lit 48, { cls := .none, data := .fields #[] }) ::
  (nat_lit 51, fnN (stAt 4) "fit_int") ::
  (nat_lit 55, { cls := .none, data := .fields #[] }) ::
  (nat_lit 58, fnN (stAt 5) "int_add") ::
  (nat_lit 62, { cls := .none, data := .fields #[] }) ::
  (nat_lit 65, fnN (stAt 6) "int_sub") ::
  (nat_lit 69, { cls := .none, data := .fields #[] }) ::
  (nat_lit 72, fnN (stAt 7) "int_mul") ::
  (nat_lit 76, { cls := .none, data := .fields #[] }) ::
  (nat_lit 79, fnN (stAt 8) "cut_quotient") ::
  (nat_lit 83, { cls := .none, data := .fields #[] }) ::
  (nat_lit 86, fnN (stAt 9) "int_div") ::
  (nat_lit 90, { cls := .none, data := .fields #[] }) ::
  (nat_lit 93, fnN (stAt 10) "inverse_power") ::
  (nat_lit 97, { cls := .none, data := .fields #[] }) ::
  (nat_lit 100, fnN (stAt 11) "int_power") ::
  (nat_lit 104, { cls := .none, data := .fields #[] }) ::
  (nat_lit 107, fnN (stAt 12) "order_of") ::
  (nat_lit 111, { cls := .none, data := .fields #[] }) ::
  (nat_lit 114, fnN (stAt 13) "holds") ::
  (nat_lit 118, { cls := .none, data := .fields #[] }) ::
  (nat_lit 121, fnN (stAt 14) "int_binary") ::
  (nat_lit 126, { cls := .none, data := .fields #[] }) ::
  (nat_lit 129, fnN (stAt 22) "count_digits") ::
  (nat_lit 133, { cls := .none, data := .fields #[] }) ::
  (nat_lit 136, fnN (stAt 23) "strip_zeros") ::
  (nat_lit 140, { cls := .none, data := .fields #[] }) ::
  (nat_lit 143, fnN (stAt 24) "round_digits") ::
  (nat_lit 147, { cls := .none, data := .fields #[] }) ::
  (nat_lit 150, fnN (stAt 25) "round_real") ::
  (nat_lit 154, { cls := .none, data := .fields #[] }) ::
  (nat_lit 157, fnN (stAt 26) "exact_add") ::
  (nat_lit 161, { cls := .none, data := .fields #[] }) ::
  (nat_lit 164, fnN (stAt 27) "exact_mul") ::
  (nat_lit 168, { cls := .none, data := .fields #[] }) ::
  (nat_lit 171, fnN (stAt 28) "real_neg") ::
  (nat_lit 175, { cls := .none, data := .fields #[] }) ::
  (nat_lit 178, fnN (stAt 29) "quotient") ::
  (nat_lit 182, { cls := .none, data := .fields #[] }) ::
  (nat_lit 185, fnN (stAt 30) "real_add") ::
  (nat_lit 189, { cls := .none, data := .fields #[] }) ::
  (nat_lit 192, fnN (stAt 31) "real_sub") ::
  (nat_lit 196, { cls := .none, data := .fields #[] }) ::
  (nat_lit 199, fnN (stAt 32) "real_mul") ::
  (nat_lit 203, { cls := .none, data := .fields #[] }) ::
  (nat_lit 206, fnN (stAt 33) "real_div") ::
  (nat_lit 210, { cls := .none, data := .fields #[] }) ::
  (nat_lit 213, fnN (stAt 34) "real_compare") ::
  (nat_lit 217, { cls := .none, data := .fields #[] }) ::
  (nat_lit 220, fnN (stAt 35) "real_to_int") ::
  (nat_lit 224, { cls := .none, data := .fields #[] }) ::
  (nat_lit 227, fnN (stAt 36) "raised") ::
  (nat_lit 231, { cls := .none, data := .fields #[] }) ::
  (nat_lit 234, fnN (stAt 37) "real_power") ::
  (nat_lit 238, { cls := .none, data := .fields #[] }) ::
  (nat_lit 241, fnN (stAt 38) "digits_of") ::
  (nat_lit 245, { cls := .none, data := .fields #[] }) ::
  (nat_lit 248, fnN (stAt 39) "real_binary") ::
  (nat_lit 252, { cls := .none, data := .fields #[] }) ::
  (nat_lit 255, fnN (stAt 41) "is_zero") ::
  (nat_lit 259, { cls := .none, data := .fields #[] }) ::
  (nat_lit 262, fnN (stAt 42) "trip_count") ::
  (nat_lit 265, { cls := .type "tuple", data := .seq #[] }) ::
  (nat_lit 266, { cls := .type "builtin_function_or_method", data := .fields #[.builtin "type.__prepare__", .type "type"] }) ::
  (nat_lit 267, { cls := .type "dict", data := .dict #[{ hash := PyData.keyHash P (Str.ofString "__module__"), key := .str (Str.ofString "__module__") 572, val := .str (Str.ofString "f77.limits") 563 }, { hash := PyData.keyHash P (Str.ofString "__qualname__"), key := .str (Str.ofString "__qualname__") 574, val := .str (Str.ofString "Limits") 573 }, { hash := PyData.keyHash P (Str.ofString "__firstlineno__"), key := .str (Str.ofString "__firstlineno__") 576, val := .int 206 575 }, { hash := PyData.keyHash P (Str.ofString "__init__"), key := .str (Str.ofString "__init__") 599, val := .ref 279 }, { hash := PyData.keyHash P (Str.ofString "__static_attributes__"), key := .str (Str.ofString "__static_attributes__") 608, val := .ref 280 }] 5 }) ::
  (nat_lit 268, { cls := .type "tuple", data := .seq #[] }) ::
  (nat_lit 269, { cls := .none, data := .fields #[.int 208 0, .int 4 0, .ref 278] }) ::
  (nat_lit 270, { cls := .type "code", data := .fields #[.str (Str.ofString "Limits") 567, .str (Str.ofString "Limits") 568, .str (Str.ofString "/claim/cut.py") 569, .int 206 0, .int 0 0, .int 0 0, .int 0 0, .int 0 0, .ref 268, .bool false, .int 181 0, .ref 269, .none, .none, .none, .none, .int 570 0, .int 206 0, .str (Str.ofString "/claim/cut.py") 571] }) ::
  (nat_lit 271, { cls := .type "frame", slots := #[some (.ref 270), some (.ref 3), some (.ref 267), none, some (.str (Str.ofString "f77.limits") 563), none, some (.ref 0)] }) ::
  (nat_lit 274, { cls := .none, data := .fields #[] }) ::
  (nat_lit 277, fnN (inCls 44) "Limits.__init__") ::
  (nat_lit 285, { cls := .type "super", data := .fields #[.ref 282, .ref 282, .ref 282] }) ::
  (nat_lit 286, { cls := .type "builtin_function_or_method", data := .fields #[.builtin "object.__init_subclass__", .ref 282] }) ::
  (nat_lit 288, { cls := .none, data := .fields #[] }) ::
  (nat_lit 291, fnN (stAt 46) "_law_pull") ::
  (nat_lit 295, { cls := .none, data := .fields #[] }) ::
  (nat_lit 298, fnN (stAt 47) "_law_worth") ::
  (nat_lit 302, { cls := .none, data := .fields #[] }) ::
  (nat_lit 305, fnN (stAt 48) "_law_rounds") ::
  (nat_lit 309, { cls := .none, data := .fields #[] }) ::
  (nat_lit 312, fnN (stAt 49) "_law_stands") ::
  (nat_lit 316, { cls := .none, data := .fields #[] }) ::
  (nat_lit 319, fnN (stAt 50) "_law_turn") ::
  (nat_lit 323, { cls := .none, data := .fields #[] }) ::
  (nat_lit 326, fnN (stAt 51) "law") :: []
def weave : Nat → Nat → Frag → Frag → List Obj
  | 0, _, _, _ => []
  | n + 1, i, k, r => match k with
    | [] => match r with
      | [] => []
      | (_, o) :: r => o :: weave n (i + 1) [] r
    | (a, o) :: k => match Nat.beq a i with
      | true => o :: weave n (i + 1) k r
      | false => match r with
        | [] => []
        | (_, o') :: r => o' :: weave n (i + 1) ((a, o) :: k) r
noncomputable def HT (P : Params) : Heap := { objs := ⟨weave 329 0 (KT P) (RT P)⟩ }
abbrev PP : Program := PySem.Challenge.rw_sa0214_01.row.prog
theorem op0 : opening PP = plainProg PP.main.scope.names := by rfl
theorem fence0 : ∀ s, fenceModules? PP s = some s := fun s => by rfl
theorem boot0 : ∀ w : World, (fencedOpening treeTable PP w 4096).map (fun s => (s.heap, s.gens, s.drawn, s.toks)) = some (boot_heap w.params, Array.mk [], boot_drawn, boot_toks) := boot_open op0 (by decide) fence0
theorem size0 : ∀ w : World, ((boot_heap w.params).isNs mainGlobals && (Array.mk [] : Array GenState).size == 0, (boot_heap w.params).objs.size, (boot_heap w.params).nsMap mainGlobals "__annotations__") = (true, 11, some (.ref 6)) := fun w => by kernel_rfl
noncomputable abbrev ST (w : World) (os : OsState) : Shared := ⟨HT w.params, Array.mk [], boot_drawn, 682, os⟩
noncomputable abbrev XT : Shared → Bool := fun s => xlAt VT [] s && recOk (RowW.records (OpenRow.toRowW PySem.Challenge.rw_sa0214_01.row)) s
set_option maxHeartbeats 0 in
theorem run0 : ∀ (w : World) (os : OsState), topRun treeTable PP w 11 (some (.ref 6)) 4096 ⟨boot_heap w.params, Array.mk [], boot_drawn, boot_toks, os⟩ (topStub PP) = some (ST w os) := fun w os => by
  rewrite [PySem.W.Fast.te14082659384304107361, PySem.W.Fast.te14364793385576792824]
  kernel_rfl
set_option maxHeartbeats 0 in
theorem look0 : ∀ (w : World) (os : OsState), (staticsOk (importedModules PP.main.body) (boot_heap w.params) (HT w.params) && namesBound PP (HT w.params) && gensDone (ST w os) && laidKept (boot_heap w.params) (HT w.params)) = true := fun w os => by
  rewrite [PySem.W.Fast.te5923862056798008813]
  kernel_rfl
set_option maxHeartbeats 0 in
theorem lookY : ∀ (w : World) (os : OsState), Hook.obs (kHook KT AT at_ok) (ST w os) = Hook.val (kHook KT AT at_ok) w := fun w os => by kernel_rfl
set_option maxHeartbeats 0 in
theorem lookA : ∀ (w : World) (os : OsState), openSeen VT [] (importedModules PP.main.body) XT true (ST w os) = openGood VT [] := fun w os => by
  rewrite [PySem.W.Fast.te4187177175401517315, PySem.W.Fast.te5923862056798008813]
  kernel_rfl
theorem left_ok : LeftO PySem.Challenge.rw_sa0214_01.row.prog VT [] (fun s => xlAt VT [] s && recOk (RowW.records (OpenRow.toRowW PySem.Challenge.rw_sa0214_01.row)) s) (Hook.obs (kHook KT AT at_ok)) (Hook.val (kHook KT AT at_ok)) 4096 true :=
  LeftO.of_pieces boot0 size0 run0 (by decide) fun w => funext fun os => by rw [look0, lookA, lookY]
theorem said_ok : PySem.Challenge.rw_sa0214_01.wellSaid = true := by
  unfold OpenLaw.wellSaid OpenRow.wellSaid OpenRow.partSaid looksOpen
  repeat' (with_reducible refine look_both ?_ ?_)
  all_goals decide +kernel

/-- what a call of one of the text's own defs does, from any caller's frame: the ledger keeps what stood, tl is new -/
abbrev Con (w : World) (f : Addr) (need : Nat) (vs : List Value) (news : List (Addr × Obj)) (R : Value → List (Addr × Obj) → Prop) : Prop :=
  ∀ (loose : List Str) (mean : ExcName → Option Value) (mg mb : Str → Option Value) (dp un : Nat) (gd : Option (List Code)) (cn : Str) (cs : Scope) (a : Addr) (ccd : Value) (cl : List (Str × Addr)) (outer : List Env) (A₀ : Around) (base h₀ : Heap) (L : Addr) (m : Str → Option Value) (s : Shared) (Q E : Value → Shared → Prop),
    Below A₀ base outer h₀ → Fr h₀ L s.heap m → (KT w.params).In h₀ → News h₀ L s.heap news → Top VT loose mean mg mb h₀ → cs.kind = .function →
    dp + need < recursionLimit → un + 8 * need < cLine →
    (∀ (r : Value) (tl : List (Addr × Obj)) (h' : Heap) (tk' : Nat), Fr h₀ L h' m → News h₀ L h' (tl ++ news) → R r tl → Q r { s with heap := h', toks := tk' }) →
    wpAny (model PySem.Challenge.rw_sa0214_01.row.prog w) (ktrTop dp un gd cn cs L a ccd cl outer) (call (.ref f) vs) Q E s

theorem Con.use {w : World} {f : Addr} {need : Nat} {vs : List Value} {news : List (Addr × Obj)} {R : Value → List (Addr × Obj) → Prop} (C : Con w f need vs news R)
    {loose : List Str} {mean : ExcName → Option Value} {mg mb : Str → Option Value} {dp un : Nat} {gd : Option (List Code)} {cn : Str} {cs : Scope} {a : Addr} {ccd : Value} {cl : List (Str × Addr)} {outer : List Env} {A₀ : Around} {base h₀ : Heap} {L : Addr} {m : Str → Option Value} {s : Shared} {Q E : Value → Shared → Prop}
    (B : Below A₀ base outer h₀) (F : Fr h₀ L s.heap m) (X : (KT w.params).In h₀) (N : News h₀ L s.heap news) (T : Top VT loose mean mg mb h₀) (hk : cs.kind = .function)
    (hd : dp + need < recursionLimit) (hu : un + 8 * need < cLine)
    (ret : ∀ (r : Value) (tl : List (Addr × Obj)) (h' : Heap) (tk' : Nat), Fr h₀ L h' m → News h₀ L h' (tl ++ news) → R r tl → Q r { s with heap := h', toks := tk' }) :
    wpAny (model PySem.Challenge.rw_sa0214_01.row.prog w) (ktrTop dp un gd cn cs L a ccd cl outer) (call (.ref f) vs) Q E s :=
  C loose mean mg mb dp un gd cn cs a ccd cl outer A₀ base h₀ L m s Q E B F X N T hk hd hu ret

def Filled (_ : Params → Frag) (_ : OpenLaw) : Prop := True

/-- the number of decimal digits -/
def cdg (n : Nat) : Nat := if n = 0 then 0 else cdg (n / 10) + 1

theorem cdg_pos {n : Nat} (h : n ≠ 0) : cdg n = cdg (n / 10) + 1 := by
  rw [cdg]; simp [h]
theorem cdg_zero : cdg 0 = 0 := by rw [cdg]; simp
theorem cdg_step {n : Int} (h : 0 < n) : cdg n.toNat = cdg (n / 10).toNat + 1 := by
  rw [cdg_pos (by omega)]
  congr 2
  omega
theorem cdg_nine {n : Int} (h : 1000000000 ≤ n) : cdg n.toNat = cdg (n / 1000000000).toNat + 9 := by
  rw [cdg_step (by omega), cdg_step (by omega), cdg_step (by omega), cdg_step (by omega), cdg_step (by omega), cdg_step (by omega), cdg_step (by omega), cdg_step (by omega), cdg_step (by omega)]
  have e : n / 10 / 10 / 10 / 10 / 10 / 10 / 10 / 10 / 10 = n / 1000000000 := by omega
  rw [e]
theorem fdiv_pos {n k : Int} (h : 0 < k) : n.fdiv k = n / k := Int.fdiv_eq_ediv_of_nonneg n (by omega)
theorem cnt_nine {n n0 c c0 : Int} (h0 : 0 ≤ n) (h1 : n ≤ n0) (h2 : (cdg n.toNat : Int) + c = (cdg n0.toNat : Int) + c0) (h : 1000000000 ≤ n) :
    0 ≤ n.fdiv 1000000000 ∧ n.fdiv 1000000000 ≤ n0 ∧ (cdg (n.fdiv 1000000000).toNat : Int) + (c + 9) = (cdg n0.toNat : Int) + c0 := by
  rw [fdiv_pos (by omega)]
  have := cdg_nine h
  refine ⟨by omega, by omega, by omega⟩
theorem cnt_one {n n0 c c0 : Int} (h0 : 0 ≤ n) (h1 : n ≤ n0) (h2 : (cdg n.toNat : Int) + c = (cdg n0.toNat : Int) + c0) (h : 0 < n) :
    0 ≤ n.fdiv 10 ∧ n.fdiv 10 ≤ n0 ∧ (cdg (n.fdiv 10).toNat : Int) + (c + 1) = (cdg n0.toNat : Int) + c0 := by
  rw [fdiv_pos (by omega)]
  have := cdg_step h
  refine ⟨by omega, by omega, by omega⟩
theorem cnt_end {n a b c : Int} {x : Int} (h0 : 0 ≤ a) (h : ¬ 0 < a) (h2 : (cdg a.toNat : Int) + b = (cdg x.toNat : Int) + c) (h3 : (cdg x.toNat : Int) + c = (cdg (if n < 0 then -n else n).toNat : Int) + 0) :
    b = (cdg n.natAbs : Int) := by
  have e : a = 0 := by omega
  subst e
  have e2 : (if n < 0 then -n else n).toNat = n.natAbs := by split <;> omega
  rw [e2] at h3
  rw [show ((0 : Int).toNat) = 0 from rfl, cdg_zero] at h2
  omega
theorem eq_int {x y : Int} {t : Tok} (h : x = y) : ∃ t', Value.int x t = Value.int y t' := ⟨t, h ▸ rfl⟩
/-- a def's end that hands back one new object -/
theorem ret2 {news : List (Addr × Obj)} {h₀ : Heap} {L : Addr} {m : Str → Option Value} {s : Shared} {Q : Value → Shared → Prop} {R : Value → List (Addr × Obj) → Prop} {D : Addr} {o : Obj} {h' : Heap} {tk' : Nat}
    (hret : ∀ (r : Value) (tl : List (Addr × Obj)) (h' : Heap) (tk' : Nat), Fr h₀ L h' m → News h₀ L h' (tl ++ news) → R r tl → Q r { s with heap := h', toks := tk' })
    (F : Fr h₀ L h' m) (N : News h₀ L h' ((D, o) :: news)) (hR : R (.ref D) [(D, o)]) : Q (.ref D) { s with heap := h', toks := tk' } := hret _ [(D, o)] _ _ F N hR
theorem sub_drop {h₀ h : Heap} {L : Addr} {news news' : List (Addr × Obj)} (N : News h₀ L h news') (hs : ∀ p ∈ news, p ∈ news') : News h₀ L h news := fun p hp => N p (hs p hp)
theorem sub_same {α : Type} {x : α} {l l' : List α} (h : ∀ p ∈ l, p ∈ l') : ∀ p ∈ x :: l, p ∈ x :: l' := fun p hp => by
  rcases List.mem_cons.mp hp with rfl | hp
  · exact .head _
  · exact .tail _ (h p hp)
theorem sub_more {α : Type} {x : α} {l l' : List α} (h : ∀ p ∈ l, p ∈ l') : ∀ p ∈ l, p ∈ x :: l' := fun p hp => .tail _ (h p hp)
local macro_rules | `(tactic| walk_at "call ref") => `(tactic| k_extra "my call")
local macro_rules | `(tactic| walk_at "my use") => `(tactic| ((any_goals ((with_reducible show Below _ _ _ _); k_asm)); (any_goals ((with_reducible show Fr _ _ _ _); k_asm)); (any_goals ((with_reducible show Frag.In _ _); k_asm)); (any_goals ((with_reducible show News _ _ _ _); k_asm)); (any_goals ((with_reducible show Top _ _ _ _ _ _); k_asm)); (any_goals ((with_reducible show _ = ScopeKind.function); first | exact rfl | assumption)); (any_goals ((with_reducible show _ < recursionLimit); ktr_room)); (any_goals ((with_reducible show _ < cLine); ktr_units))))
local macro_rules | `(tactic| walk_at "my enter") => `(tactic| (refine wpAny_call ?_; k_dflt ((refine' code_def ?k1 ?k2 ?k3 ?k4 ?k5 ?kA ?kF ?kK ?k6 ?k7 ?k8 ?k9 ?kB ?_ ?c2 ?c3 ?c4 ?c5); (case kA => exact rfl); (case kF => exact rfl); (case kK => first | exact rfl | assumption); (case k1 => k_asm); (case k2 => k_asm); (case k3 => k_asm); (case k4 => k_asm); (case k5 => k_asm); (case k6 => k_is); (case k7 => k_is); (case k8 => ktr_room); (case k9 => exact BindsTo.of_eq rfl); (case c5 => decide); (case kB => exact locs rfl); (case c2 => exact rfl); (case c3 => exact rfl); (case c4 => exact rfl); k_whole; intro g' L' h' FG' F' N' B' X' T'; (try dsimp only); (try k_lift B'); (try k_fold))))
local macro_rules | `(tactic| walk_at "exec Return some") => `(tactic| k_extra "my return")
section
variable {prog : Program} {w : World} {A : Around} {E : Value → Shared → Prop} {Q : Value → Shared → Prop} {s : Shared} {h₀ : Heap} {L D : Addr} {news : List (Addr × Obj)} {m e : Int} {u v t : Tok} {value slice : PySem.Expr}
theorem pair_is (N : News h₀ L s.heap news) (hm : (D, ({ cls := .type "tuple", data := .seq #[.int m u, .int e v] } : Obj)) ∈ news) : IsTup s.heap D [Value.int m u, Value.int e v].toArray := ⟨_, (N _ hm).1, rfl, _, rfl⟩
theorem pair_fst (N : News h₀ L s.heap news) (hm : (D, ({ cls := .type "tuple", data := .seq #[.int m u, .int e v] } : Obj)) ∈ news) (h : Q (.int m u) s)
    (hs : subscripted slice false (.ref D) (.int 0 t) = operate [.ref D, .int 0 t] (getItem (.ref D) (.int 0 t)) := by with_unfolding_all rfl) :
    wpAny (model prog w) A (subscriptTail value slice (.ref D) (.int 0 t)) Q E s := item_tupleT (pair_is N hm) (by decide) (by decide) (j := 0) rfl rfl h hs
theorem pair_snd (N : News h₀ L s.heap news) (hm : (D, ({ cls := .type "tuple", data := .seq #[.int m u, .int e v] } : Obj)) ∈ news) (h : Q (.int e v) s)
    (hs : subscripted slice false (.ref D) (.int 1 t) = operate [.ref D, .int 1 t] (getItem (.ref D) (.int 1 t)) := by with_unfolding_all rfl) :
    wpAny (model prog w) A (subscriptTail value slice (.ref D) (.int 1 t)) Q E s := item_tupleT (pair_is N hm) (by decide) (by decide) (j := 1) rfl rfl h hs
end
local macro_rules | `(tactic| walk_at "subscriptTail") => `(tactic| (k_here; (with_reducible show wpAny _ _ (subscriptTail _ _ (Value.ref _) (Value.int _ _)) _ _ _); (first
  | (refine' pair_fst ?k1 ?k2 ?_ ?k3; (case k1 => k_asm); (case k2 => (with_reducible (repeat (first | assumption | exact List.mem_cons_self | refine List.mem_cons_of_mem _ ?_)))); (case k3 => with_unfolding_all rfl))
  | (refine' pair_snd ?k1 ?k2 ?_ ?k3; (case k1 => k_asm); (case k2 => (with_reducible (repeat (first | assumption | exact List.mem_cons_self | refine List.mem_cons_of_mem _ ?_)))); (case k3 => with_unfolding_all rfl))); k_whole))
local macro_rules | `(tactic| walk_at "assign Tuple") => `(tactic| (k_here; (with_reducible show wpAny _ _ (assign (Expr.Tuple _ _ _) _ (Value.ref _)) _ _ _); k_dflt (refine' unpackN_ ?k1 ?k2 ?k3 ?k4 ?k5 ?k6 ?_; (case k1 => k_asm); (case k2 => k_asm); (case k3 => exact pair_is (by with_reducible assumption) (by (with_reducible (repeat (first | assumption | exact List.mem_cons_self | refine List.mem_cons_of_mem _ ?_))))); (case k4 => exact rfl); (case k5 => exact rfl); (case k6 => exact rfl); k_whole); intro h' F' N'; (try k_sweep)))
local macro_rules | `(tactic| walk_at "binaryOp Pow int int") => `(tactic| (k_here; (with_reducible refine pow_int_small ?kb1 ?kb2 ?kb3 ?_); (case kb1 => first | assumption | omega); (case kb2 => first | assumption | omega); (case kb3 => decide)))
local macro_rules | `(tactic| walk_at "exec Raise") => `(tactic| (k_here; exfalso; with_reducible contradiction))
local macro_rules | `(tactic| k_room) => `(tactic| ktr_room)
local macro_rules | `(tactic| k_units) => `(tactic| ktr_units)
local macro_rules | `(tactic| walk_at "call builtin:max") => `(tactic| (k_here; (with_reducible show wpAny _ _ (call (Value.builtin _) [Value.int _ _, Value.int _ _]) _ _ _); (with_unfolding_all refine' max_two_N ?k0 ?k1 ?k2 ?_); (case k0 => with_unfolding_all rfl); (case k1 => k_asm); (case k2 => k_asm); intro h' tk' F' N'))

theorem c_count (w : World) (news : List (Addr × Obj)) (n : Int) (tn : Tok) : Con w 131 2 [.int n tn] news (fun r tl => tl = [] ∧ ∃ t, r = .int (cdg n.natAbs) t) := by
  k_with_none
  k_with "my return" => (k_here; exfalso; with_reducible contradiction)
  k_with "exec While Compare cons nil" => k_while_given ["n!", "count!"] (fun n₀ c₀ (script : List Int) n count => 0 ≤ n ∧ n ≤ n₀ ∧ (cdg n.toNat : Int) + count = (cdg n₀.toNat : Int) + c₀) (fun n₀ c₀ (script : List Int) n count => n.toNat) "n" "count"
  k_with "state" => first | exact cnt_nine (by assumption) (by assumption) (by assumption) (by assumption) | exact cnt_one (by assumption) (by assumption) (by assumption) (by assumption) | (refine ⟨?_, ?_, rfl⟩ <;> omega)
  k_with "measure" => (rw [fdiv_pos (by omega)]; omega)
  (have fl9 : Filled KT PySem.Challenge.rw_sa0214_01 := (by k_fill; exact True.intro); intro loose mean mg mb dp un gd cn cs ad ccd cl outer A₀ base h₀ L mf s Q E B F X N T hk hd hu hret; refine wpAny_call ?_; k_dflt cell_enter)
  k_steps
  all_goals (refine hret _ [] _ _ (by k_asm) (by k_asm) ⟨rfl, eq_int ?_⟩)
  all_goals (exact cnt_end (by assumption) (by assumption) (by assumption) (by assumption))

theorem strip_one {m m0 e e0 : Int} (h : ∃ j : Nat, m0 = m * 10 ^ j ∧ e = e0 + j) (hm : m ≠ 0) (h2 : m.fmod 10 = 0) : m.fdiv 10 ≠ 0 ∧ ∃ j : Nat, m0 = m.fdiv 10 * 10 ^ j ∧ e + 1 = e0 + j := by
  rw [Int.fmod_eq_emod_of_nonneg m (by omega)] at h2
  rw [fdiv_pos (by omega)]
  obtain ⟨j, h3, h4⟩ := h
  refine ⟨by omega, j + 1, ?_, by omega⟩
  rw [h3, Int.pow_succ, Int.mul_comm (10 ^ j) 10, ← Int.mul_assoc]
  congr 1
  omega
theorem strip_less {m : Int} (hm : m ≠ 0) (h2 : m.fmod 10 = 0) : (m.fdiv 10).natAbs < m.natAbs := by
  rw [Int.fmod_eq_emod_of_nonneg m (by omega)] at h2
  rw [fdiv_pos (by omega)]
  omega
theorem c_strip0 (w : World) (news : List (Addr × Obj)) (tm : Tok) (e : Int) (te : Tok) : Con w 138 2 [.int 0 tm, .int e te] news (fun r tl => tl = [] ∧ r = .ref 124) := by
  k_with_none
  k_with "my return" => (k_here; exfalso; with_reducible contradiction)
  (have fl9 : Filled KT PySem.Challenge.rw_sa0214_01 := (by k_fill; exact True.intro); intro loose mean mg mb dp un gd cn cs ad ccd cl outer A₀ base h₀ L mf s Q E B F X N T hk hd hu hret; refine wpAny_call ?_; k_dflt cell_enter)
  k_steps
  all_goals (refine hret _ [] _ _ (by k_asm) (by k_asm) ⟨rfl, rfl⟩)
theorem c_strip (w : World) (news : List (Addr × Obj)) (m : Int) (tm : Tok) (e : Int) (te : Tok) (hm : m ≠ 0) : Con w 138 2 [.int m tm, .int e te] news (fun r tl => ∃ (D : Addr) (t1 t2 : Tok) (m' e' : Int) (j : Nat), r = .ref D ∧ tl = [(D, ({ cls := .type "tuple", data := .seq #[.int m' t1, .int e' t2] } : Obj))] ∧ m = m' * 10 ^ j ∧ e' = e + j) := by
  k_with_none
  k_with "my return" => (k_here; exfalso; with_reducible contradiction)
  k_with "exec While Compare cons nil" => k_while_given ["m!", "e!"] (fun m₀ e₀ (script : List Int) m e => m ≠ 0 ∧ ∃ j : Nat, m₀ = m * 10 ^ j ∧ e = e₀ + j) (fun m₀ e₀ (script : List Int) m e => m.natAbs) "m" "e"
  k_with "state" => first | exact ⟨by assumption, 0, by simp, by simp⟩ | exact strip_one (by assumption) (by assumption) (by assumption)
  k_with "measure" => exact strip_less (by assumption) (by assumption)
  (have fl9 : Filled KT PySem.Challenge.rw_sa0214_01 := (by k_fill; exact True.intro); intro loose mean mg mb dp un gd cn cs ad ccd cl outer A₀ base h₀ L mf s Q E B F X N T hk hd hu hret; refine wpAny_call ?_; k_dflt cell_enter)
  k_steps
  · rename (∃ j : Nat, _) => hj
    refine hret _ [_] _ _ (by k_asm) (by k_asm) ?_
    obtain ⟨j, h1, h2⟩ := hj
    exact ⟨_, _, _, _, _, j, rfl, rfl, h1, h2⟩


theorem cdg_mul10 {n : Nat} (h : n ≠ 0) : cdg (n * 10) = cdg n + 1 := by
  rw [cdg_pos (by omega)]
  congr 2
  omega
theorem cdg_pow {n : Nat} (h : n ≠ 0) (j : Nat) : cdg (n * 10 ^ j) = cdg n + j := by
  induction j with
  | zero => simp
  | succ j ih =>
    have : n * 10 ^ j ≠ 0 := Nat.mul_ne_zero h (Nat.ne_of_gt (Nat.pow_pos (by omega)))
    rw [Nat.pow_succ, ← Nat.mul_assoc, cdg_mul10 this, ih]
    omega
theorem cdg_mono {a b : Nat} (h : a ≤ b) : cdg a ≤ cdg b := by
  induction b using Nat.strongRecOn generalizing a with
  | _ b ih =>
    by_cases ha : a = 0
    · subst ha; rw [cdg_zero]; omega
    · rw [cdg_pos ha, cdg_pos (n := b) (by omega)]
      have := ih (b / 10) (by omega) (a := a / 10) (by omega)
      omega
theorem cdg_ge {n : Nat} (h : n ≠ 0) : 1 ≤ cdg n := by rw [cdg_pos h]; omega
theorem cdg_lt_pow {n : Nat} : n < 10 ^ cdg n := by
  induction n using Nat.strongRecOn with
  | _ n ih =>
    by_cases h : n = 0
    · subst h; rw [cdg_zero]; simp
    · rw [cdg_pos h, Nat.pow_succ]
      have := ih (n / 10) (by omega)
      omega
theorem cdg_pow_le {n : Nat} (h : n ≠ 0) : 10 ^ (cdg n - 1) ≤ n := by
  induction n using Nat.strongRecOn with
  | _ n ih =>
    rw [cdg_pos h]
    by_cases h2 : n / 10 = 0
    · rw [h2, cdg_zero]; simp; omega
    · have := ih (n / 10) (by omega) h2
      have h3 := cdg_ge h2
      rw [show cdg (n / 10) + 1 - 1 = (cdg (n / 10) - 1) + 1 by omega, Nat.pow_succ]
      omega
/-- cdg n ≤ k from n < 10 ^ k -/
theorem cdg_le {n k : Nat} (h : n < 10 ^ k) : cdg n ≤ k := by
  by_cases h0 : n = 0
  · subst h0; rw [cdg_zero]; omega
  · have h1 := cdg_pow_le h0
    have h2 : 10 ^ (cdg n - 1) < 10 ^ k := by omega
    have h3 := (Nat.pow_lt_pow_iff_right (a := 10) (by omega)).mp h2
    omega
theorem strip_lead {m m' : Int} {j : Nat} (hm : m ≠ 0) (h : m = m' * 10 ^ j) : m' ≠ 0 ∧ cdg m.natAbs = cdg m'.natAbs + j := by
  have h0 : m' ≠ 0 := by rintro rfl; simp at h; exact hm h
  refine ⟨h0, ?_⟩
  rw [h, Int.natAbs_mul, Int.natAbs_pow]
  exact cdg_pow (by omega) j
theorem c_rd0 (w : World) (news : List (Addr × Obj)) (tm : Tok) (e : Int) (te : Tok) (d : Int) (td : Tok) (hd0 : 1 ≤ d) : Con w 145 4 [.int 0 tm, .int e te, .int d td] news (fun r tl => tl = [] ∧ r = .ref 124) := by
  have h9 : cdg (0 : Int).natAbs = 0 := cdg_zero
  k_with_none
  k_with "my return" => (k_here; exfalso; with_reducible contradiction)
  k_with "my call" => (k_here; (with_reducible show wpAny _ _ (call (Value.ref 131) _) _ _ _); k_dflt (focus ((refine' Con.use (c_count _ _ _ _) ?_ ?_ ?_ ?_ ?_ ?_ ?_ ?_ ?_); (walk_at "my use"); intro r9 tl9 h9 tk9 F9 N9 hR9; (try dsimp only at hR9); obtain ⟨ea9, t9, eb9⟩ := hR9; subst ea9; subst eb9; (try simp only [List.nil_append] at N9); (try dsimp only); (try k_fold))))
  k_with "my call" => (k_here; (with_reducible show wpAny _ _ (call (Value.ref 138) _) _ _ _); k_dflt (focus ((refine' Con.use (c_strip0 _ _ _ _ _) ?_ ?_ ?_ ?_ ?_ ?_ ?_ ?_ ?_); (walk_at "my use"); intro r9 tl9 h9 tk9 F9 N9 hR9; obtain ⟨ea9, eb9⟩ := hR9; subst ea9; subst eb9; (try simp only [List.nil_append] at N9); (try dsimp only); (try k_fold))))
  k_with "my call" => (k_here; (with_reducible show wpAny _ _ (call (Value.ref 138) _) _ _ _); k_dflt (focus ((refine' Con.use (c_strip _ _ _ _ _ _ ?_) ?_ ?_ ?_ ?_ ?_ ?_ ?_ ?_ ?_); (walk_at "my use"); (· first | with_reducible assumption | omega | l_fact); intro r9 tl9 h9 tk9 F9 N9 hR9; obtain ⟨D9, u9, v9, m9, e9, j9, ea9, eb9, hm9, he9⟩ := hR9; subst ea9; subst eb9; (try simp only [List.nil_append, List.cons_append] at N9); (try dsimp only); (try k_fold))))
  (have fl9 : Filled KT PySem.Challenge.rw_sa0214_01 := (by k_fill; exact True.intro); intro loose mean mg mb dp un gd cn cs ad ccd cl outer A₀ base h₀ L mf s Q E B F X N T hk hd hu hret; refine wpAny_call ?_; k_dflt cell_enter)
  k_steps
  all_goals (refine hret _ [] _ _ (by k_asm) (by k_asm) ⟨rfl, rfl⟩)
theorem c_rdS (w : World) (news : List (Addr × Obj)) (m : Int) (tm : Tok) (e : Int) (te : Tok) (d : Int) (td : Tok) (hm : m ≠ 0) (hc : (cdg m.natAbs : Int) ≤ d) :
    Con w 145 4 [.int m tm, .int e te, .int d td] news (fun r tl => ∃ (D : Addr) (t1 t2 : Tok) (m' e' : Int) (j : Nat), r = .ref D ∧ tl = [(D, ({ cls := .type "tuple", data := .seq #[.int m' t1, .int e' t2] } : Obj))] ∧ m = m' * 10 ^ j ∧ e' = e + j ∧ m' ≠ 0 ∧ (cdg m.natAbs : Int) = cdg m'.natAbs + j) := by
  k_with_none
  k_with "my return" => (k_here; exfalso; with_reducible contradiction)
  k_with "my call" => (k_here; (with_reducible show wpAny _ _ (call (Value.ref 131) _) _ _ _); k_dflt (focus ((refine' Con.use (c_count _ _ _ _) ?_ ?_ ?_ ?_ ?_ ?_ ?_ ?_ ?_); (walk_at "my use"); intro r9 tl9 h9 tk9 F9 N9 hR9; (try dsimp only at hR9); obtain ⟨ea9, t9, eb9⟩ := hR9; subst ea9; subst eb9; (try simp only [List.nil_append] at N9); (try dsimp only); (try k_fold))))
  k_with "my call" => (k_here; (with_reducible show wpAny _ _ (call (Value.ref 138) _) _ _ _); k_dflt (focus ((refine' Con.use (c_strip0 _ _ _ _ _) ?_ ?_ ?_ ?_ ?_ ?_ ?_ ?_ ?_); (walk_at "my use"); intro r9 tl9 h9 tk9 F9 N9 hR9; obtain ⟨ea9, eb9⟩ := hR9; subst ea9; subst eb9; (try simp only [List.nil_append] at N9); (try dsimp only); (try k_fold))))
  k_with "my call" => (k_here; (with_reducible show wpAny _ _ (call (Value.ref 138) _) _ _ _); k_dflt (focus ((refine' Con.use (c_strip _ _ _ _ _ _ ?_) ?_ ?_ ?_ ?_ ?_ ?_ ?_ ?_ ?_); (walk_at "my use"); (· first | with_reducible assumption | omega | l_fact); intro r9 tl9 h9 tk9 F9 N9 hR9; obtain ⟨D9, u9, v9, m9, e9, j9, ea9, eb9, hm9, he9⟩ := hR9; subst ea9; subst eb9; (try simp only [List.nil_append, List.cons_append] at N9); (try dsimp only); (try k_fold))))
  (have fl9 : Filled KT PySem.Challenge.rw_sa0214_01 := (by k_fill; exact True.intro); intro loose mean mg mb dp un gd cn cs ad ccd cl outer A₀ base h₀ L mf s Q E B F X N T hk hd hu hret; refine wpAny_call ?_; k_dflt cell_enter)
  k_steps
  all_goals (
    rename (m = _ * 10 ^ _) => hj
    have hl := strip_lead hm hj
    refine hret _ [_] _ _ (by k_asm) (by k_asm) ⟨_, _, _, _, _, _, rfl, rfl, by assumption, by assumption, hl.1, ?_⟩
    omega)
/-- the magnitude rounded to tens of power p: one of two, the upper one only from a half on -/
def Rnd (q n p : Int) : Prop := 1 ≤ q ∧ (q = n / p ∨ (q = n / p + 1 ∧ p ≤ 2 * (n % p)))
theorem pow10_py {x : Int} {k : Nat} (h : k ≤ 60) : Builtin.divisionGoesByPylong x (10 ^ k) = false := by
  refine PyProof.noPylong_of_log2 ?_
  rw [Int.natAbs_pow]
  show (10 ^ k).log2 < 9000
  have h0 : 10 ^ k ≠ 0 := Nat.ne_of_gt (Nat.pow_pos (by omega))
  rw [Nat.log2_lt h0]
  have h1 : 10 ^ k ≤ 16 ^ k := Nat.pow_le_pow_left (by omega) k
  have h2 : (16 : Nat) ^ k = 2 ^ (4 * k) := by rw [Nat.pow_mul]
  have h3 : 2 ^ (4 * k) < 2 ^ 9000 := Nat.pow_lt_pow_right (by omega) (by omega)
  omega
theorem pow10_pos (k : Nat) : (0 : Int) < 10 ^ k := Int.pow_pos (by omega)
local macro_rules | `(tactic| walk_at "call builtin:divmod") => `(tactic| (k_here; (with_reducible show wpAny _ _ (call (Value.builtin _) [Value.int _ _, Value.int (10 ^ _) _]) _ _ _); refine' divmod_N ?k1 ?k2 ?k3 ?_ (Or.inl (pow10_py ?k4)); (case k1 => k_asm); (case k2 => k_asm); (case k3 => exact Int.ne_of_gt (pow10_pos _)); (case k4 => omega); intro h' F' N'))
theorem rnd_facts {m : Int} {d : Int} (_hm : m ≠ 0) (hd1 : 1 ≤ d) (hc : d < (cdg m.natAbs : Int)) :
    (if m < 0 then -m else m).fdiv (10 ^ ((cdg m.natAbs : Int) - d).toNat) = (m.natAbs : Int) / 10 ^ ((cdg m.natAbs : Int) - d).toNat ∧
    (if m < 0 then -m else m).fmod (10 ^ ((cdg m.natAbs : Int) - d).toNat) = (m.natAbs : Int) % 10 ^ ((cdg m.natAbs : Int) - d).toNat ∧
    1 ≤ (if m < 0 then -m else m).fdiv (10 ^ ((cdg m.natAbs : Int) - d).toNat) := by
  have e : (if m < 0 then -m else m) = (m.natAbs : Int) := by split <;> omega
  rw [e]
  have hp := pow10_pos ((cdg m.natAbs : Int) - d).toNat
  have hX : (m.natAbs : Int).fdiv (10 ^ ((cdg m.natAbs : Int) - d).toNat) = (m.natAbs : Int) / 10 ^ ((cdg m.natAbs : Int) - d).toNat := fdiv_pos hp
  refine ⟨hX, Int.fmod_eq_emod_of_nonneg _ (by omega), ?_⟩
  rw [hX]
  have h1 := cdg_pow_le (n := m.natAbs) (by omega)
  have h2 : 10 ^ ((cdg m.natAbs : Int) - d).toNat ≤ 10 ^ (cdg m.natAbs - 1) := Nat.pow_le_pow_right (by omega) (by omega)
  have h3 : ((10 ^ ((cdg m.natAbs : Int) - d).toNat : Nat) : Int) ≤ (m.natAbs : Int) := by exact_mod_cast Nat.le_trans h2 h1
  rw [Int.le_ediv_iff_mul_le hp, Int.one_mul]
  simpa using h3
theorem rnd_up {q n p X Y : Int} (h1 : 1 ≤ X) (hX : X = n / p) (hY : Y = n % p) (h : p ≤ 2 * Y) (hq : q = X + 1) : Rnd q n p := ⟨by omega, .inr ⟨by omega, by omega⟩⟩
theorem rnd_dn {q n p X : Int} (h1 : 1 ≤ X) (hX : X = n / p) (hq : q = X) : Rnd q n p := ⟨by omega, .inl (by omega)⟩
theorem rdB_pack {m e d q m' e' : Int} {j : Nat} (hm : m ≠ 0) (hd1 : 1 ≤ d) (hc : d < (cdg m.natAbs : Int)) (hc2 : (cdg m.natAbs : Int) ≤ 20) (he1 : -38 ≤ e) (he2 : e ≤ 0)
    (hj : (if 0 < m then q else -q) = m' * 10 ^ j) (he : e' = e + (cdg m.natAbs - d) + j) (hR : Rnd q m.natAbs (10 ^ ((cdg m.natAbs : Int) - d).toNat)) :
    (if 0 < m then q else -q) = m' * 10 ^ j ∧ e' = e + (cdg m.natAbs - d) + j ∧ Rnd q m.natAbs (10 ^ ((cdg m.natAbs : Int) - d).toNat) ∧ m' ≠ 0 ∧ -38 ≤ e' + (cdg m'.natAbs : Int) - 1 ∧ e' + (cdg m'.natAbs : Int) - 1 ≤ 38 := by
  refine ⟨hj, he, hR, ?_⟩
  obtain ⟨hq1, hq2⟩ := hR
  have hz : (if 0 < m then q else -q) ≠ 0 := by split <;> omega
  have hab : (if 0 < m then q else -q).natAbs = q.natAbs := by split <;> omega
  obtain ⟨h0, h1⟩ := strip_lead hz hj
  rw [hab] at h1
  have hn := cdg_pow_le (n := m.natAbs) (by omega)
  have hn1 : 10 ^ 1 ≤ 10 ^ (cdg m.natAbs - 1) := Nat.pow_le_pow_right (by omega) (by omega)
  have hqn : q ≤ (m.natAbs : Int) := by
    have hk : ∃ k : Nat, ((cdg m.natAbs : Int) - d).toNat = k + 1 := ⟨((cdg m.natAbs : Int) - d).toNat - 1, by omega⟩
    obtain ⟨k, hk⟩ := hk
    rw [hk] at hq2
    have hp := pow10_pos k
    have hX : 0 ≤ (m.natAbs : Int) / 10 ^ (k + 1) := Int.ediv_nonneg (by omega) (Int.le_of_lt (pow10_pos _))
    have hM : (m.natAbs : Int) / 10 ^ (k + 1) * 10 ^ (k + 1) ≤ m.natAbs := Int.ediv_mul_le _ (Int.ne_of_gt (pow10_pos _))
    have h10 : (10 : Int) ≤ 10 ^ (k + 1) := by rw [Int.pow_succ]; omega
    have h2 : (m.natAbs : Int) / 10 ^ (k + 1) * 10 ≤ (m.natAbs : Int) / 10 ^ (k + 1) * 10 ^ (k + 1) := Int.mul_le_mul_of_nonneg_left h10 hX
    omega
  have hcq : cdg q.natAbs ≤ cdg m.natAbs := cdg_mono (by omega)
  have hcq1 := cdg_ge (n := m'.natAbs) (by omega)
  refine ⟨h0, by omega, by omega⟩
theorem c_rdB (w : World) (news : List (Addr × Obj)) (m : Int) (tm : Tok) (e : Int) (te : Tok) (d : Int) (td : Tok) (hm : m ≠ 0) (hd1 : 1 ≤ d) (hc : d < (cdg m.natAbs : Int)) (hc2 : (cdg m.natAbs : Int) ≤ 20) (he1 : -38 ≤ e) (he2 : e ≤ 0) :
    Con w 145 4 [.int m tm, .int e te, .int d td] news (fun r tl => ∃ (D : Addr) (t1 t2 : Tok) (m' e' : Int) (j : Nat) (q : Int), r = .ref D ∧ tl = [(D, ({ cls := .type "tuple", data := .seq #[.int m' t1, .int e' t2] } : Obj))] ∧ (if 0 < m then q else -q) = m' * 10 ^ j ∧ e' = e + (cdg m.natAbs - d) + j ∧ Rnd q m.natAbs (10 ^ ((cdg m.natAbs : Int) - d).toNat) ∧ m' ≠ 0 ∧ -38 ≤ e' + (cdg m'.natAbs : Int) - 1 ∧ e' + (cdg m'.natAbs : Int) - 1 ≤ 38) := by
  obtain ⟨hX, hY, h1⟩ := rnd_facts hm hd1 hc
  k_with_none
  k_with "my return" => (k_here; exfalso; with_reducible contradiction)
  k_with "my call" => (k_here; (with_reducible show wpAny _ _ (call (Value.ref 131) _) _ _ _); k_dflt (focus ((refine' Con.use (c_count _ _ _ _) ?_ ?_ ?_ ?_ ?_ ?_ ?_ ?_ ?_); (walk_at "my use"); intro r9 tl9 h9 tk9 F9 N9 hR9; (try dsimp only at hR9); obtain ⟨ea9, t9, eb9⟩ := hR9; subst ea9; subst eb9; (try simp only [List.nil_append] at N9); (try dsimp only); (try k_fold))))
  k_with "my call" => (k_here; (with_reducible show wpAny _ _ (call (Value.ref 138) _) _ _ _); k_dflt (focus ((refine' Con.use (c_strip0 _ _ _ _ _) ?_ ?_ ?_ ?_ ?_ ?_ ?_ ?_ ?_); (walk_at "my use"); intro r9 tl9 h9 tk9 F9 N9 hR9; obtain ⟨ea9, eb9⟩ := hR9; subst ea9; subst eb9; (try simp only [List.nil_append] at N9); (try dsimp only); (try k_fold))))
  k_with "my call" => (k_here; (with_reducible show wpAny _ _ (call (Value.ref 138) _) _ _ _); k_dflt (focus ((refine' Con.use (c_strip _ _ _ _ _ _ ?_) ?_ ?_ ?_ ?_ ?_ ?_ ?_ ?_ ?_); (walk_at "my use"); (· first | with_reducible assumption | omega | l_fact); intro r9 tl9 h9 tk9 F9 N9 hR9; obtain ⟨D9, u9, v9, m9, e9, j9, ea9, eb9, hm9, he9⟩ := hR9; subst ea9; subst eb9; (try simp only [List.nil_append, List.cons_append] at N9); (try dsimp only); (try k_fold))))
  (have fl9 : Filled KT PySem.Challenge.rw_sa0214_01 := (by k_fill; exact True.intro); intro loose mean mg mb dp un gd cn cs ad ccd cl outer A₀ base h₀ L mf s Q E B F X N T hk hd hu hret; refine wpAny_call ?_; k_dflt cell_enter)
  k_steps
  all_goals (
    rename (_ = _ * 10 ^ _) => hj
    refine' ret2 hret ?zF ?zN ?zR
    case zF => k_asm
    case zN => (first | (refine sub_drop (by with_reducible assumption) ?_; (try simp only [List.nil_append, List.cons_append]); (with_reducible (repeat' (first | exact fun _ h => h | refine sub_same ?_ | refine sub_more ?_))); done) | k_asm | (refine sub_drop (by assumption) ?_; repeat' (first | exact fun _ h => h | refine sub_same ?_ | refine sub_more ?_)))
    case zR =>
      first
      | exact ⟨_, _, _, _, _, _, _, rfl, rfl, rdB_pack hm hd1 hc hc2 he1 he2 ((if_pos (by assumption)).trans hj) (by assumption) (rnd_up h1 hX hY (Int.le_of_lt (by assumption)) rfl)⟩
      | exact ⟨_, _, _, _, _, _, _, rfl, rfl, rdB_pack hm hd1 hc hc2 he1 he2 ((if_pos (by assumption)).trans hj) (by assumption) (rnd_up h1 hX hY (Int.le_of_eq (Eq.symm (by assumption))) rfl)⟩
      | exact ⟨_, _, _, _, _, _, _, rfl, rfl, rdB_pack hm hd1 hc hc2 he1 he2 ((if_pos (by assumption)).trans hj) (by assumption) (rnd_dn h1 hX rfl)⟩
      | exact ⟨_, _, _, _, _, _, _, rfl, rfl, rdB_pack hm hd1 hc hc2 he1 he2 ((if_neg (by assumption)).trans hj) (by assumption) (rnd_up h1 hX hY (Int.le_of_lt (by assumption)) rfl)⟩
      | exact ⟨_, _, _, _, _, _, _, rfl, rfl, rdB_pack hm hd1 hc hc2 he1 he2 ((if_neg (by assumption)).trans hj) (by assumption) (rnd_up h1 hX hY (Int.le_of_eq (Eq.symm (by assumption))) rfl)⟩
      | exact ⟨_, _, _, _, _, _, _, rfl, rfl, rdB_pack hm hd1 hc hc2 he1 he2 ((if_neg (by assumption)).trans hj) (by assumption) (rnd_dn h1 hX rfl)⟩)

theorem c_rr0 (w : World) (news : List (Addr × Obj)) (m : Int) (tm : Tok) (e : Int) (te : Tok) (d : Int) (td tt : Tok) (hm : m = 0) (hd0 : 1 ≤ d) : Con w 152 6 [.int m tm, .int e te, .int d td, .int 38 tt] news (fun r tl => tl = [] ∧ r = .ref 124) := by
  subst hm
  k_with_none
  k_with "my return" => (k_here; exfalso; with_reducible contradiction)
  k_with "my call" => (k_here; (with_reducible show wpAny _ _ (call (Value.ref 131) _) _ _ _); k_dflt (focus ((refine' Con.use (c_count _ _ _ _) ?_ ?_ ?_ ?_ ?_ ?_ ?_ ?_ ?_); (walk_at "my use"); intro r9 tl9 h9 tk9 F9 N9 hR9; (try dsimp only at hR9); obtain ⟨ea9, t9, eb9⟩ := hR9; subst ea9; subst eb9; (try simp only [List.nil_append] at N9); (try dsimp only); (try k_fold))))
  k_with "my call" => (k_here; (with_reducible show wpAny _ _ (call (Value.ref 145) _) _ _ _); k_dflt (focus ((refine' Con.use (c_rd0 _ _ _ _ _ _ _ ?_) ?_ ?_ ?_ ?_ ?_ ?_ ?_ ?_ ?_); (walk_at "my use"); (· first | with_reducible assumption | omega); intro r9 tl9 h9 tk9 F9 N9 hR9; obtain ⟨ea9, eb9⟩ := hR9; subst ea9; subst eb9; (try simp only [List.nil_append] at N9); (try dsimp only); (try k_fold))))
  k_with "my call" => (k_here; (with_reducible show wpAny _ _ (call (Value.ref 145) _) _ _ _); k_dflt (focus ((refine' Con.use (c_rdS _ _ _ _ _ _ _ _ ?_ ?_) ?_ ?_ ?_ ?_ ?_ ?_ ?_ ?_ ?_); (walk_at "my use"); (· first | with_reducible assumption | omega); (· first | with_reducible assumption | omega); intro r9 tl9 h9 tk9 F9 N9 hR9; obtain ⟨D9, u9, v9, m9, e9, j9, ea9, eb9, hm9, he9, hn9, hl9⟩ := hR9; subst ea9; subst eb9; (try simp only [List.nil_append, List.cons_append] at N9); (try dsimp only); (try k_fold))))
  k_with "my call" => (k_here; (with_reducible show wpAny _ _ (call (Value.ref 145) _) _ _ _); k_dflt (focus ((refine' Con.use (c_rdB _ _ _ _ _ _ _ _ ?_ ?_ ?_ ?_ ?_ ?_) ?_ ?_ ?_ ?_ ?_ ?_ ?_ ?_ ?_); (walk_at "my use"); (· first | with_reducible assumption | omega); (· first | with_reducible assumption | omega); (· first | with_reducible assumption | omega); (· first | with_reducible assumption | omega); (· first | with_reducible assumption | omega); (· first | with_reducible assumption | omega); intro r9 tl9 h9 tk9 F9 N9 hR9; obtain ⟨D9, u9, v9, m9, e9, j9, q9, ea9, eb9, hm9, he9, hn9, ho9, hv9, hw9⟩ := hR9; subst ea9; subst eb9; (try simp only [List.nil_append, List.cons_append] at N9); (try dsimp only); (try k_fold))))
  (have fl9 : Filled KT PySem.Challenge.rw_sa0214_01 := (by k_fill; exact True.intro); intro loose mean mg mb dp un gd cn cs ad ccd cl outer A₀ base h₀ L mf s Q E B F X N T hk hd hu hret; refine wpAny_call ?_; k_dflt cell_enter)
  k_steps
  all_goals (refine hret _ [] _ _ (by k_asm) (by k_asm) ⟨rfl, rfl⟩)
theorem c_rrS (w : World) (news : List (Addr × Obj)) (m : Int) (tm : Tok) (e : Int) (te : Tok) (d : Int) (td tt : Tok) (hm : m ≠ 0) (hc : (cdg m.natAbs : Int) ≤ d) (he1 : -38 ≤ e + (cdg m.natAbs : Int) - 1) (he2 : e + (cdg m.natAbs : Int) - 1 ≤ 38) :
    Con w 152 6 [.int m tm, .int e te, .int d td, .int 38 tt] news (fun r tl => ∃ (D : Addr) (t1 t2 : Tok) (m' e' : Int) (j : Nat), r = .ref D ∧ tl = [(D, ({ cls := .type "tuple", data := .seq #[.int m' t1, .int e' t2] } : Obj))] ∧ m = m' * 10 ^ j ∧ e' = e + j ∧ m' ≠ 0) := by
  k_with_none
  k_with "my return" => (k_here; exfalso; with_reducible contradiction)
  k_with "my call" => (k_here; (with_reducible show wpAny _ _ (call (Value.ref 131) _) _ _ _); k_dflt (focus ((refine' Con.use (c_count _ _ _ _) ?_ ?_ ?_ ?_ ?_ ?_ ?_ ?_ ?_); (walk_at "my use"); intro r9 tl9 h9 tk9 F9 N9 hR9; (try dsimp only at hR9); obtain ⟨ea9, t9, eb9⟩ := hR9; subst ea9; subst eb9; (try simp only [List.nil_append] at N9); (try dsimp only); (try k_fold))))
  k_with "my call" => (k_here; (with_reducible show wpAny _ _ (call (Value.ref 145) _) _ _ _); k_dflt (focus ((refine' Con.use (c_rd0 _ _ _ _ _ _ _ ?_) ?_ ?_ ?_ ?_ ?_ ?_ ?_ ?_ ?_); (walk_at "my use"); (· first | with_reducible assumption | omega); intro r9 tl9 h9 tk9 F9 N9 hR9; obtain ⟨ea9, eb9⟩ := hR9; subst ea9; subst eb9; (try simp only [List.nil_append] at N9); (try dsimp only); (try k_fold))))
  k_with "my call" => (k_here; (with_reducible show wpAny _ _ (call (Value.ref 145) _) _ _ _); k_dflt (focus ((refine' Con.use (c_rdS _ _ _ _ _ _ _ _ ?_ ?_) ?_ ?_ ?_ ?_ ?_ ?_ ?_ ?_ ?_); (walk_at "my use"); (· first | with_reducible assumption | omega); (· first | with_reducible assumption | omega); intro r9 tl9 h9 tk9 F9 N9 hR9; obtain ⟨D9, u9, v9, m9, e9, j9, ea9, eb9, hm9, he9, hn9, hl9⟩ := hR9; subst ea9; subst eb9; (try simp only [List.nil_append, List.cons_append] at N9); (try dsimp only); (try k_fold))))
  k_with "my call" => (k_here; (with_reducible show wpAny _ _ (call (Value.ref 145) _) _ _ _); k_dflt (focus ((refine' Con.use (c_rdB _ _ _ _ _ _ _ _ ?_ ?_ ?_ ?_ ?_ ?_) ?_ ?_ ?_ ?_ ?_ ?_ ?_ ?_ ?_); (walk_at "my use"); (· first | with_reducible assumption | omega); (· first | with_reducible assumption | omega); (· first | with_reducible assumption | omega); (· first | with_reducible assumption | omega); (· first | with_reducible assumption | omega); (· first | with_reducible assumption | omega); intro r9 tl9 h9 tk9 F9 N9 hR9; obtain ⟨D9, u9, v9, m9, e9, j9, q9, ea9, eb9, hm9, he9, hn9, ho9, hv9, hw9⟩ := hR9; subst ea9; subst eb9; (try simp only [List.nil_append, List.cons_append] at N9); (try dsimp only); (try k_fold))))
  (have fl9 : Filled KT PySem.Challenge.rw_sa0214_01 := (by k_fill; exact True.intro); intro loose mean mg mb dp un gd cn cs ad ccd cl outer A₀ base h₀ L mf s Q E B F X N T hk hd hu hret; refine wpAny_call ?_; k_dflt cell_enter)
  k_steps
  all_goals first
  | (exfalso; contradiction)
  | (refine' ret2 hret ?zF ?zN ?zR
     case zF => k_asm
     case zN => (first | (refine sub_drop (by with_reducible assumption) ?_; (try simp only [List.nil_append, List.cons_append]); (with_reducible (repeat' (first | exact fun _ h => h | refine sub_same ?_ | refine sub_more ?_))); done) | k_asm | (refine sub_drop (by assumption) ?_; repeat' (first | exact fun _ h => h | refine sub_same ?_ | refine sub_more ?_)))
     case zR => exact ⟨_, _, _, _, _, _, rfl, rfl, by assumption, by assumption, by assumption⟩)
theorem c_rrB (w : World) (news : List (Addr × Obj)) (m : Int) (tm : Tok) (e : Int) (te : Tok) (d : Int) (td tt : Tok) (hm : m ≠ 0) (hd1 : 1 ≤ d) (hc : d < (cdg m.natAbs : Int)) (hc2 : (cdg m.natAbs : Int) ≤ 20) (he1 : -38 ≤ e) (he2 : e ≤ 0) :
    Con w 152 6 [.int m tm, .int e te, .int d td, .int 38 tt] news (fun r tl => ∃ (D : Addr) (t1 t2 : Tok) (m' e' : Int) (j : Nat) (q : Int), r = .ref D ∧ tl = [(D, ({ cls := .type "tuple", data := .seq #[.int m' t1, .int e' t2] } : Obj))] ∧ (if 0 < m then q else -q) = m' * 10 ^ j ∧ e' = e + (cdg m.natAbs - d) + j ∧ Rnd q m.natAbs (10 ^ ((cdg m.natAbs : Int) - d).toNat) ∧ m' ≠ 0) := by
  k_with_none
  k_with "my return" => (k_here; exfalso; with_reducible contradiction)
  k_with "my call" => (k_here; (with_reducible show wpAny _ _ (call (Value.ref 131) _) _ _ _); k_dflt (focus ((refine' Con.use (c_count _ _ _ _) ?_ ?_ ?_ ?_ ?_ ?_ ?_ ?_ ?_); (walk_at "my use"); intro r9 tl9 h9 tk9 F9 N9 hR9; (try dsimp only at hR9); obtain ⟨ea9, t9, eb9⟩ := hR9; subst ea9; subst eb9; (try simp only [List.nil_append] at N9); (try dsimp only); (try k_fold))))
  k_with "my call" => (k_here; (with_reducible show wpAny _ _ (call (Value.ref 145) _) _ _ _); k_dflt (focus ((refine' Con.use (c_rd0 _ _ _ _ _ _ _ ?_) ?_ ?_ ?_ ?_ ?_ ?_ ?_ ?_ ?_); (walk_at "my use"); (· first | with_reducible assumption | omega); intro r9 tl9 h9 tk9 F9 N9 hR9; obtain ⟨ea9, eb9⟩ := hR9; subst ea9; subst eb9; (try simp only [List.nil_append] at N9); (try dsimp only); (try k_fold))))
  k_with "my call" => (k_here; (with_reducible show wpAny _ _ (call (Value.ref 145) _) _ _ _); k_dflt (focus ((refine' Con.use (c_rdS _ _ _ _ _ _ _ _ ?_ ?_) ?_ ?_ ?_ ?_ ?_ ?_ ?_ ?_ ?_); (walk_at "my use"); (· first | with_reducible assumption | omega); (· first | with_reducible assumption | omega); intro r9 tl9 h9 tk9 F9 N9 hR9; obtain ⟨D9, u9, v9, m9, e9, j9, ea9, eb9, hm9, he9, hn9, hl9⟩ := hR9; subst ea9; subst eb9; (try simp only [List.nil_append, List.cons_append] at N9); (try dsimp only); (try k_fold))))
  k_with "my call" => (k_here; (with_reducible show wpAny _ _ (call (Value.ref 145) _) _ _ _); k_dflt (focus ((refine' Con.use (c_rdB _ _ _ _ _ _ _ _ ?_ ?_ ?_ ?_ ?_ ?_) ?_ ?_ ?_ ?_ ?_ ?_ ?_ ?_ ?_); (walk_at "my use"); (· first | with_reducible assumption | omega); (· first | with_reducible assumption | omega); (· first | with_reducible assumption | omega); (· first | with_reducible assumption | omega); (· first | with_reducible assumption | omega); (· first | with_reducible assumption | omega); intro r9 tl9 h9 tk9 F9 N9 hR9; obtain ⟨D9, u9, v9, m9, e9, j9, q9, ea9, eb9, hm9, he9, hn9, ho9, hv9, hw9⟩ := hR9; subst ea9; subst eb9; (try simp only [List.nil_append, List.cons_append] at N9); (try dsimp only); (try k_fold))))
  (have fl9 : Filled KT PySem.Challenge.rw_sa0214_01 := (by k_fill; exact True.intro); intro loose mean mg mb dp un gd cn cs ad ccd cl outer A₀ base h₀ L mf s Q E B F X N T hk hd hu hret; refine wpAny_call ?_; k_dflt cell_enter)
  k_steps
  all_goals first
  | (exfalso; contradiction)
  | (refine' ret2 hret ?zF ?zN ?zR
     case zF => k_asm
     case zN => (first | (refine sub_drop (by with_reducible assumption) ?_; (try simp only [List.nil_append, List.cons_append]); (with_reducible (repeat' (first | exact fun _ h => h | refine sub_same ?_ | refine sub_more ?_))); done) | k_asm | (refine sub_drop (by assumption) ?_; repeat' (first | exact fun _ h => h | refine sub_same ?_ | refine sub_more ?_)))
     case zR => exact ⟨_, _, _, _, _, _, _, rfl, rfl, by assumption, by assumption, by assumption, by assumption⟩)

/-- the number of t tenths at D: the text's nought, or a pair of the ledger -/
def Nm (led : List (Addr × Obj)) (D : Addr) (t : Int) : Prop := (t = 0 ∧ D = 124) ∨ (∃ (m e : Int) (u v : Tok), (D, ({ cls := .type "tuple", data := .seq #[.int m u, .int e v] } : Obj)) ∈ led ∧ m ≠ 0 ∧ -1 ≤ e ∧ t = m * 10 ^ (e + 1).toNat)
/-- a number of t tenths is handed back -/
def Res (t : Int) (r : Value) (tl : List (Addr × Obj)) : Prop := (t = 0 ∧ tl = [] ∧ r = .ref 124) ∨ (∃ (D : Addr) (m e : Int) (u v : Tok), r = .ref D ∧ tl = [(D, ({ cls := .type "tuple", data := .seq #[.int m u, .int e v] } : Obj))] ∧ m ≠ 0 ∧ -1 ≤ e ∧ t = m * 10 ^ (e + 1).toNat)
theorem nm_facts {t m e : Int} (n : m ≠ 0) (he : -1 ≤ e) (hv : t = m * 10 ^ (e + 1).toNat) (hb : t.natAbs < 10000) :
    m.natAbs < 10000 ∧ cdg m.natAbs ≤ 4 ∧ 1 ≤ cdg m.natAbs ∧ e ≤ 2 ∧ t ≠ 0 ∧ -1 ≤ e := by
  have h1 : t.natAbs = m.natAbs * 10 ^ (e + 1).toNat := by rw [hv, Int.natAbs_mul, Int.natAbs_pow]; rfl
  have hp : 1 ≤ 10 ^ (e + 1).toNat := Nat.pow_pos (by omega)
  have hm : 1 ≤ m.natAbs := by omega
  have h2 : m.natAbs * 1 ≤ m.natAbs * 10 ^ (e + 1).toNat := Nat.mul_le_mul_left _ hp
  have h3 : 1 * 10 ^ (e + 1).toNat ≤ m.natAbs * 10 ^ (e + 1).toNat := Nat.mul_le_mul_right _ hm
  have h4 : 10 ^ (e + 1).toNat < 10 ^ 4 := by omega
  have h5 := (Nat.pow_lt_pow_iff_right (a := 10) (by omega)).mp h4
  exact ⟨by omega, cdg_le (k := 4) (by omega), cdg_ge (by omega), by omega, by omega, he⟩
theorem res_of {t S l m e : Int} {j : Nat} (hl : -1 ≤ l) (hv : t = S * 10 ^ (l + 1).toNat) (hj : S = m * 10 ^ j) (he : e = l + j) : -1 ≤ e ∧ t = m * 10 ^ (e + 1).toNat := by
  refine ⟨by omega, ?_⟩
  rw [hv, hj, Int.mul_assoc, ← Int.pow_add]
  congr 2
  omega
/-- the sum of two pairs over the lower of their powers -/
theorem sum_low {t1 t2 m1 m2 e1 e2 : Int} (h1 : -1 ≤ e1) (h2 : -1 ≤ e2) (v1 : t1 = m1 * 10 ^ (e1 + 1).toNat) (v2 : t2 = m2 * 10 ^ (e2 + 1).toNat) :
    -1 ≤ (if e2 < e1 then e2 else e1) ∧ t1 + t2 = (m1 * 10 ^ (e1 - if e2 < e1 then e2 else e1).toNat + m2 * 10 ^ (e2 - if e2 < e1 then e2 else e1).toNat) * 10 ^ ((if e2 < e1 then e2 else e1) + 1).toNat := by
  refine ⟨by split <;> omega, ?_⟩
  generalize hl : (if e2 < e1 then e2 else e1) = l
  have hl1 : l ≤ e1 := by rw [← hl]; split <;> omega
  have hl2 : l ≤ e2 := by rw [← hl]; split <;> omega
  have hl3 : -1 ≤ l := by rw [← hl]; split <;> omega
  rw [Int.add_mul, Int.mul_assoc, Int.mul_assoc, ← Int.pow_add, ← Int.pow_add, v1, v2]
  have a1 : (e1 - l).toNat + (l + 1).toNat = (e1 + 1).toNat := by omega
  have a2 : (e2 - l).toNat + (l + 1).toNat = (e2 + 1).toNat := by omega
  rw [a1, a2]
theorem low_le {e1 e2 : Int} : (if e2 < e1 then e2 else e1) ≤ e1 ∧ (if e2 < e1 then e2 else e1) ≤ e2 := by split <;> omega
theorem neg_mul10 {t m : Int} {k : Nat} (h : t = m * 10 ^ k) : -t = -m * 10 ^ k := by rw [h, Int.neg_mul]
section
variable (w : World) (news : List (Addr × Obj)) (D1 D2 : Addr) (d : Int) (td tt : Tok) (t1 t2 : Int)
theorem c_sub_nn (hd7 : 7 ≤ d) : Con w 194 9 [.ref 124, .ref 124, .int d td, .int 38 tt] news (fun r tl => Res 0 r tl) := by
  k_with_none
  k_with "my return" => (k_here; exfalso; with_reducible contradiction)
  k_with "my call" => (k_here; (with_reducible show wpAny _ _ (call (Value.ref 173) _) _ _ _); (walk_at "my enter"))
  k_with "my call" => (k_here; (with_reducible show wpAny _ _ (call (Value.ref 159) _) _ _ _); (walk_at "my enter"))
  k_with "my call" => (k_here; (with_reducible show wpAny _ _ (call (Value.ref 152) _) _ _ _); k_dflt (focus ((refine' Con.use (c_rr0 _ _ _ _ _ _ _ _ _ ?_ ?_) ?_ ?_ ?_ ?_ ?_ ?_ ?_ ?_ ?_); (walk_at "my use"); (· first | with_reducible assumption | omega | k_extra "hz"); (· first | with_reducible assumption | omega); intro r9 tl9 h9 tk9 F9 N9 hR9; obtain ⟨ea9, eb9⟩ := hR9; subst ea9; subst eb9; (try simp only [List.nil_append] at N9); (try dsimp only); (try k_fold))))
  k_with "my call" => (k_here; (with_reducible show wpAny _ _ (call (Value.ref 152) _) _ _ _); k_dflt (focus ((refine' Con.use (c_rrS _ _ _ _ _ _ _ _ _ ?_ ?_ ?_ ?_) ?_ ?_ ?_ ?_ ?_ ?_ ?_ ?_ ?_); (walk_at "my use"); (· first | with_reducible assumption | omega | k_extra "hp"); (· first | with_reducible assumption | omega | k_extra "hq"); (· first | with_reducible assumption | omega | k_extra "hr"); (· first | with_reducible assumption | omega | k_extra "ht"); intro r9 tl9 h9 tk9 F9 N9 hR9; obtain ⟨D9, u9, v9, m9, e9, j9, ea9, eb9, hm9, he9, hn9⟩ := hR9; subst ea9; subst eb9; (try simp only [List.nil_append, List.cons_append] at N9); (try dsimp only); (try k_fold))))
  k_with "my call" => (k_here; (with_reducible show wpAny _ _ (call (Value.ref 152) _) _ _ _); k_dflt (focus ((refine' Con.use (c_rrB _ _ _ _ _ _ _ _ _ ?_ ?_ ?_ ?_ ?_ ?_) ?_ ?_ ?_ ?_ ?_ ?_ ?_ ?_ ?_); (walk_at "my use"); (· first | with_reducible assumption | omega); (· first | with_reducible assumption | omega); (· first | with_reducible assumption | omega); (· first | with_reducible assumption | omega); (· first | with_reducible assumption | omega); (· first | with_reducible assumption | omega); intro r9 tl9 h9 tk9 F9 N9 hR9; obtain ⟨D9, u9, v9, m9, e9, j9, q9, ea9, eb9, hm9, he9, hn9, ho9⟩ := hR9; subst ea9; subst eb9; (try simp only [List.nil_append, List.cons_append] at N9); (try dsimp only); (try k_fold))))
  (have fl9 : Filled KT PySem.Challenge.rw_sa0214_01 := (by k_fill; exact True.intro); intro loose mean mg mb dp un gd cn cs ad ccd cl outer A₀ base h₀ L mf s Q E B F X N T hk hd hu hret; refine wpAny_call ?_; k_dflt cell_enter)
  k_steps
  all_goals (refine hret _ [] _ _ (by k_asm) (by first | k_asm | (first | (refine sub_drop (by with_reducible assumption) ?_; (try simp only [List.nil_append, List.cons_append]); (with_reducible (repeat' (first | exact fun _ h => h | refine sub_same ?_ | refine sub_more ?_))); done) | k_asm | (refine sub_drop (by assumption) ?_; repeat' (first | exact fun _ h => h | refine sub_same ?_ | refine sub_more ?_)))) (Or.inl ⟨rfl, rfl, rfl⟩))
theorem c_sub_nt (m e : Int) (u v : Tok) (hm : (D2, ({ cls := .type "tuple", data := .seq #[.int m u, .int e v] } : Obj)) ∈ news) (n : m ≠ 0) (he : -1 ≤ e) (hv : t2 = m * 10 ^ (e + 1).toNat) (hb : t2.natAbs < 10000) (hd7 : 7 ≤ d) :
    Con w 194 9 [.ref 124, .ref D2, .int d td, .int 38 tt] news (fun r tl => Res (-t2) r tl) := by
  obtain ⟨f1, f2, f3, f4, f5, f6⟩ := nm_facts n he hv hb
  have g1 : cdg (-m).natAbs = cdg m.natAbs := by rw [Int.natAbs_neg]
  have g2 : -m ≠ 0 := by omega
  k_with_none
  k_with "my return" => (k_here; exfalso; with_reducible contradiction)
  k_with "my call" => (k_here; (with_reducible show wpAny _ _ (call (Value.ref 173) _) _ _ _); (walk_at "my enter"))
  k_with "my call" => (k_here; (with_reducible show wpAny _ _ (call (Value.ref 159) _) _ _ _); (walk_at "my enter"))
  k_with "my call" => (k_here; (with_reducible show wpAny _ _ (call (Value.ref 152) _) _ _ _); k_dflt (focus ((refine' Con.use (c_rr0 _ _ _ _ _ _ _ _ _ ?_ ?_) ?_ ?_ ?_ ?_ ?_ ?_ ?_ ?_ ?_); (walk_at "my use"); (· first | with_reducible assumption | omega | k_extra "hz"); (· first | with_reducible assumption | omega); intro r9 tl9 h9 tk9 F9 N9 hR9; obtain ⟨ea9, eb9⟩ := hR9; subst ea9; subst eb9; (try simp only [List.nil_append] at N9); (try dsimp only); (try k_fold))))
  k_with "my call" => (k_here; (with_reducible show wpAny _ _ (call (Value.ref 152) _) _ _ _); k_dflt (focus ((refine' Con.use (c_rrS _ _ _ _ _ _ _ _ _ ?_ ?_ ?_ ?_) ?_ ?_ ?_ ?_ ?_ ?_ ?_ ?_ ?_); (walk_at "my use"); (· first | with_reducible assumption | omega | k_extra "hp"); (· first | with_reducible assumption | omega | k_extra "hq"); (· first | with_reducible assumption | omega | k_extra "hr"); (· first | with_reducible assumption | omega | k_extra "ht"); intro r9 tl9 h9 tk9 F9 N9 hR9; obtain ⟨D9, u9, v9, m9, e9, j9, ea9, eb9, hm9, he9, hn9⟩ := hR9; subst ea9; subst eb9; (try simp only [List.nil_append, List.cons_append] at N9); (try dsimp only); (try k_fold))))
  k_with "my call" => (k_here; (with_reducible show wpAny _ _ (call (Value.ref 152) _) _ _ _); k_dflt (focus ((refine' Con.use (c_rrB _ _ _ _ _ _ _ _ _ ?_ ?_ ?_ ?_ ?_ ?_) ?_ ?_ ?_ ?_ ?_ ?_ ?_ ?_ ?_); (walk_at "my use"); (· first | with_reducible assumption | omega); (· first | with_reducible assumption | omega); (· first | with_reducible assumption | omega); (· first | with_reducible assumption | omega); (· first | with_reducible assumption | omega); (· first | with_reducible assumption | omega); intro r9 tl9 h9 tk9 F9 N9 hR9; obtain ⟨D9, u9, v9, m9, e9, j9, q9, ea9, eb9, hm9, he9, hn9, ho9⟩ := hR9; subst ea9; subst eb9; (try simp only [List.nil_append, List.cons_append] at N9); (try dsimp only); (try k_fold))))
  (have fl9 : Filled KT PySem.Challenge.rw_sa0214_01 := (by k_fill; exact True.intro); intro loose mean mg mb dp un gd cn cs ad ccd cl outer A₀ base h₀ L mf s Q E B F X N T hk hd hu hret; refine wpAny_call ?_; k_dflt cell_enter)
  k_steps
  all_goals (
    rename (_ = _ * 10 ^ _) => hj
    have hr := res_of he (neg_mul10 hv) hj (by assumption)
    refine' ret2 hret ?zF ?zN ?zR
    case zF => k_asm
    case zN => (first | (refine sub_drop (by with_reducible assumption) ?_; (try simp only [List.nil_append, List.cons_append]); (with_reducible (repeat' (first | exact fun _ h => h | refine sub_same ?_ | refine sub_more ?_))); done) | k_asm | (refine sub_drop (by assumption) ?_; repeat' (first | exact fun _ h => h | refine sub_same ?_ | refine sub_more ?_)))
    case zR => exact Or.inr ⟨_, _, _, _, _, rfl, rfl, by assumption, hr.1, hr.2⟩)
theorem c_sub_tn (m e : Int) (u v : Tok) (hm : (D1, ({ cls := .type "tuple", data := .seq #[.int m u, .int e v] } : Obj)) ∈ news) (n : m ≠ 0) (he : -1 ≤ e) (hv : t1 = m * 10 ^ (e + 1).toNat) (hb : t1.natAbs < 10000) (hd7 : 7 ≤ d) :
    Con w 194 9 [.ref D1, .ref 124, .int d td, .int 38 tt] news (fun r tl => Res t1 r tl) := by
  obtain ⟨f1, f2, f3, f4, f5, f6⟩ := nm_facts n he hv hb
  k_with_none
  k_with "my return" => (k_here; exfalso; with_reducible contradiction)
  k_with "my call" => (k_here; (with_reducible show wpAny _ _ (call (Value.ref 173) _) _ _ _); (walk_at "my enter"))
  k_with "my call" => (k_here; (with_reducible show wpAny _ _ (call (Value.ref 159) _) _ _ _); (walk_at "my enter"))
  k_with "my call" => (k_here; (with_reducible show wpAny _ _ (call (Value.ref 152) _) _ _ _); k_dflt (focus ((refine' Con.use (c_rr0 _ _ _ _ _ _ _ _ _ ?_ ?_) ?_ ?_ ?_ ?_ ?_ ?_ ?_ ?_ ?_); (walk_at "my use"); (· first | with_reducible assumption | omega | k_extra "hz"); (· first | with_reducible assumption | omega); intro r9 tl9 h9 tk9 F9 N9 hR9; obtain ⟨ea9, eb9⟩ := hR9; subst ea9; subst eb9; (try simp only [List.nil_append] at N9); (try dsimp only); (try k_fold))))
  k_with "my call" => (k_here; (with_reducible show wpAny _ _ (call (Value.ref 152) _) _ _ _); k_dflt (focus ((refine' Con.use (c_rrS _ _ _ _ _ _ _ _ _ ?_ ?_ ?_ ?_) ?_ ?_ ?_ ?_ ?_ ?_ ?_ ?_ ?_); (walk_at "my use"); (· first | with_reducible assumption | omega | k_extra "hp"); (· first | with_reducible assumption | omega | k_extra "hq"); (· first | with_reducible assumption | omega | k_extra "hr"); (· first | with_reducible assumption | omega | k_extra "ht"); intro r9 tl9 h9 tk9 F9 N9 hR9; obtain ⟨D9, u9, v9, m9, e9, j9, ea9, eb9, hm9, he9, hn9⟩ := hR9; subst ea9; subst eb9; (try simp only [List.nil_append, List.cons_append] at N9); (try dsimp only); (try k_fold))))
  k_with "my call" => (k_here; (with_reducible show wpAny _ _ (call (Value.ref 152) _) _ _ _); k_dflt (focus ((refine' Con.use (c_rrB _ _ _ _ _ _ _ _ _ ?_ ?_ ?_ ?_ ?_ ?_) ?_ ?_ ?_ ?_ ?_ ?_ ?_ ?_ ?_); (walk_at "my use"); (· first | with_reducible assumption | omega); (· first | with_reducible assumption | omega); (· first | with_reducible assumption | omega); (· first | with_reducible assumption | omega); (· first | with_reducible assumption | omega); (· first | with_reducible assumption | omega); intro r9 tl9 h9 tk9 F9 N9 hR9; obtain ⟨D9, u9, v9, m9, e9, j9, q9, ea9, eb9, hm9, he9, hn9, ho9⟩ := hR9; subst ea9; subst eb9; (try simp only [List.nil_append, List.cons_append] at N9); (try dsimp only); (try k_fold))))
  (have fl9 : Filled KT PySem.Challenge.rw_sa0214_01 := (by k_fill; exact True.intro); intro loose mean mg mb dp un gd cn cs ad ccd cl outer A₀ base h₀ L mf s Q E B F X N T hk hd hu hret; refine wpAny_call ?_; k_dflt cell_enter)
  k_steps
  all_goals (
    rename (_ = _ * 10 ^ _) => hj
    have hr := res_of he hv hj (by assumption)
    refine' ret2 hret ?zF ?zN ?zR
    case zF => k_asm
    case zN => (first | (refine sub_drop (by with_reducible assumption) ?_; (try simp only [List.nil_append, List.cons_append]); (with_reducible (repeat' (first | exact fun _ h => h | refine sub_same ?_ | refine sub_more ?_))); done) | k_asm | (refine sub_drop (by assumption) ?_; repeat' (first | exact fun _ h => h | refine sub_same ?_ | refine sub_more ?_)))
    case zR => exact Or.inr ⟨_, _, _, _, _, rfl, rfl, by assumption, hr.1, hr.2⟩)
theorem c_sub_tt (m1 e1 : Int) (u1 v1 : Tok) (hm1 : (D1, ({ cls := .type "tuple", data := .seq #[.int m1 u1, .int e1 v1] } : Obj)) ∈ news) (n1 : m1 ≠ 0) (he1 : -1 ≤ e1) (hv1 : t1 = m1 * 10 ^ (e1 + 1).toNat) (hb1 : t1.natAbs < 10000)
    (m2 e2 : Int) (u2 v2 : Tok) (hm2 : (D2, ({ cls := .type "tuple", data := .seq #[.int m2 u2, .int e2 v2] } : Obj)) ∈ news) (n2 : m2 ≠ 0) (he2 : -1 ≤ e2) (hv2 : t2 = m2 * 10 ^ (e2 + 1).toNat) (hb2 : t2.natAbs < 10000) (hb : (t1 - t2).natAbs < 10000) (hd7 : 7 ≤ d) :
    Con w 194 9 [.ref D1, .ref D2, .int d td, .int 38 tt] news (fun r tl => Res (t1 - t2) r tl) := by
  obtain ⟨f1, f2, f3, f4, f5, f6⟩ := nm_facts n1 he1 hv1 hb1
  obtain ⟨g1, g2, g3, g4, g5, g6⟩ := nm_facts n2 he2 hv2 hb2
  obtain ⟨w1, w2⟩ := low_le (e1 := e1) (e2 := e2)
  obtain ⟨l1, l2⟩ := sum_low (m1 := m1) (m2 := -m2) he1 he2 hv1 (neg_mul10 hv2)
  rw [← Int.sub_eq_add_neg] at l2
  have n3 : -m2 ≠ 0 := by omega
  generalize hl : (if e2 < e1 then e2 else e1) = lo at l1 l2 w1 w2
  by_cases hz : t1 - t2 = 0
  · have hS : m1 * 10 ^ (e1 - lo).toNat + -m2 * 10 ^ (e2 - lo).toNat = 0 := by
      rw [hz] at l2
      rcases Int.mul_eq_zero.mp l2.symm with q | q
      · exact q
      · exact absurd q (Int.ne_of_gt (pow10_pos _))
    subst hl
    k_with_none
    k_with "my return" => (k_here; exfalso; with_reducible contradiction)
    k_with "my call" => (k_here; (with_reducible show wpAny _ _ (call (Value.ref 173) _) _ _ _); (walk_at "my enter"))
    k_with "my call" => (k_here; (with_reducible show wpAny _ _ (call (Value.ref 159) _) _ _ _); (walk_at "my enter"))
    k_with "my call" => (k_here; (with_reducible show wpAny _ _ (call (Value.ref 152) _) _ _ _); k_dflt (focus ((refine' Con.use (c_rr0 _ _ _ _ _ _ _ _ _ ?_ ?_) ?_ ?_ ?_ ?_ ?_ ?_ ?_ ?_ ?_); (walk_at "my use"); (· first | with_reducible assumption | omega | k_extra "hz"); (· first | with_reducible assumption | omega); intro r9 tl9 h9 tk9 F9 N9 hR9; obtain ⟨ea9, eb9⟩ := hR9; subst ea9; subst eb9; (try simp only [List.nil_append] at N9); (try dsimp only); (try k_fold))))
    k_with "my call" => (k_here; (with_reducible show wpAny _ _ (call (Value.ref 152) _) _ _ _); k_dflt (focus ((refine' Con.use (c_rrS _ _ _ _ _ _ _ _ _ ?_ ?_ ?_ ?_) ?_ ?_ ?_ ?_ ?_ ?_ ?_ ?_ ?_); (walk_at "my use"); (· first | with_reducible assumption | omega | k_extra "hp"); (· first | with_reducible assumption | omega | k_extra "hq"); (· first | with_reducible assumption | omega | k_extra "hr"); (· first | with_reducible assumption | omega | k_extra "ht"); intro r9 tl9 h9 tk9 F9 N9 hR9; obtain ⟨D9, u9, v9, m9, e9, j9, ea9, eb9, hm9, he9, hn9⟩ := hR9; subst ea9; subst eb9; (try simp only [List.nil_append, List.cons_append] at N9); (try dsimp only); (try k_fold))))
    k_with "my call" => (k_here; (with_reducible show wpAny _ _ (call (Value.ref 152) _) _ _ _); k_dflt (focus ((refine' Con.use (c_rrB _ _ _ _ _ _ _ _ _ ?_ ?_ ?_ ?_ ?_ ?_) ?_ ?_ ?_ ?_ ?_ ?_ ?_ ?_ ?_); (walk_at "my use"); (· first | with_reducible assumption | omega); (· first | with_reducible assumption | omega); (· first | with_reducible assumption | omega); (· first | with_reducible assumption | omega); (· first | with_reducible assumption | omega); (· first | with_reducible assumption | omega); intro r9 tl9 h9 tk9 F9 N9 hR9; obtain ⟨D9, u9, v9, m9, e9, j9, q9, ea9, eb9, hm9, he9, hn9, ho9⟩ := hR9; subst ea9; subst eb9; (try simp only [List.nil_append, List.cons_append] at N9); (try dsimp only); (try k_fold))))
    (have fl9 : Filled KT PySem.Challenge.rw_sa0214_01 := (by k_fill; exact True.intro); intro loose mean mg mb dp un gd cn cs ad ccd cl outer A₀ base h₀ L mf s Q E B F X N T hk hd hu hret; refine wpAny_call ?_; k_dflt cell_enter)
    k_steps
    all_goals (refine hret _ [] _ _ (by k_asm) (by first | k_asm | (first | (refine sub_drop (by with_reducible assumption) ?_; (try simp only [List.nil_append, List.cons_append]); (with_reducible (repeat' (first | exact fun _ h => h | refine sub_same ?_ | refine sub_more ?_))); done) | k_asm | (refine sub_drop (by assumption) ?_; repeat' (first | exact fun _ h => h | refine sub_same ?_ | refine sub_more ?_)))) (Or.inl ⟨hz, rfl, rfl⟩))
  · have hS : m1 * 10 ^ (e1 - lo).toNat + -m2 * 10 ^ (e2 - lo).toNat ≠ 0 := by
      intro q
      rw [q, Int.zero_mul] at l2
      exact hz l2
    obtain ⟨k1, k2, k3, k4, k5, k6⟩ := nm_facts hS l1 l2 hb
    subst hl
    k_with_none
    k_with "my return" => (k_here; exfalso; with_reducible contradiction)
    k_with "my call" => (k_here; (with_reducible show wpAny _ _ (call (Value.ref 173) _) _ _ _); (walk_at "my enter"))
    k_with "my call" => (k_here; (with_reducible show wpAny _ _ (call (Value.ref 159) _) _ _ _); (walk_at "my enter"))
    k_with "my call" => (k_here; (with_reducible show wpAny _ _ (call (Value.ref 152) _) _ _ _); k_dflt (focus ((refine' Con.use (c_rr0 _ _ _ _ _ _ _ _ _ ?_ ?_) ?_ ?_ ?_ ?_ ?_ ?_ ?_ ?_ ?_); (walk_at "my use"); (· first | with_reducible assumption | omega | k_extra "hz"); (· first | with_reducible assumption | omega); intro r9 tl9 h9 tk9 F9 N9 hR9; obtain ⟨ea9, eb9⟩ := hR9; subst ea9; subst eb9; (try simp only [List.nil_append] at N9); (try dsimp only); (try k_fold))))
    k_with "my call" => (k_here; (with_reducible show wpAny _ _ (call (Value.ref 152) _) _ _ _); k_dflt (focus ((refine' Con.use (c_rrS _ _ _ _ _ _ _ _ _ ?_ ?_ ?_ ?_) ?_ ?_ ?_ ?_ ?_ ?_ ?_ ?_ ?_); (walk_at "my use"); (· first | with_reducible assumption | omega | k_extra "hp"); (· first | with_reducible assumption | omega | k_extra "hq"); (· first | with_reducible assumption | omega | k_extra "hr"); (· first | with_reducible assumption | omega | k_extra "ht"); intro r9 tl9 h9 tk9 F9 N9 hR9; obtain ⟨D9, u9, v9, m9, e9, j9, ea9, eb9, hm9, he9, hn9⟩ := hR9; subst ea9; subst eb9; (try simp only [List.nil_append, List.cons_append] at N9); (try dsimp only); (try k_fold))))
    k_with "my call" => (k_here; (with_reducible show wpAny _ _ (call (Value.ref 152) _) _ _ _); k_dflt (focus ((refine' Con.use (c_rrB _ _ _ _ _ _ _ _ _ ?_ ?_ ?_ ?_ ?_ ?_) ?_ ?_ ?_ ?_ ?_ ?_ ?_ ?_ ?_); (walk_at "my use"); (· first | with_reducible assumption | omega); (· first | with_reducible assumption | omega); (· first | with_reducible assumption | omega); (· first | with_reducible assumption | omega); (· first | with_reducible assumption | omega); (· first | with_reducible assumption | omega); intro r9 tl9 h9 tk9 F9 N9 hR9; obtain ⟨D9, u9, v9, m9, e9, j9, q9, ea9, eb9, hm9, he9, hn9, ho9⟩ := hR9; subst ea9; subst eb9; (try simp only [List.nil_append, List.cons_append] at N9); (try dsimp only); (try k_fold))))
    (have fl9 : Filled KT PySem.Challenge.rw_sa0214_01 := (by k_fill; exact True.intro); intro loose mean mg mb dp un gd cn cs ad ccd cl outer A₀ base h₀ L mf s Q E B F X N T hk hd hu hret; refine wpAny_call ?_; k_dflt cell_enter)
    k_steps
    all_goals (
      rename (_ = _ * 10 ^ _) => hj
      have hr := res_of l1 l2 hj (by assumption)
      refine' ret2 hret ?zF ?zN ?zR
      case zF => k_asm
      case zN => (first | (refine sub_drop (by with_reducible assumption) ?_; (try simp only [List.nil_append, List.cons_append]); (with_reducible (repeat' (first | exact fun _ h => h | refine sub_same ?_ | refine sub_more ?_))); done) | k_asm | (refine sub_drop (by assumption) ?_; repeat' (first | exact fun _ h => h | refine sub_same ?_ | refine sub_more ?_)))
      case zR => exact Or.inr ⟨_, _, _, _, _, rfl, rfl, by assumption, hr.1, hr.2⟩)
theorem c_sub (h1 : Nm news D1 t1) (h2 : Nm news D2 t2) (hb1 : t1.natAbs < 10000) (hb2 : t2.natAbs < 10000) (hb : (t1 - t2).natAbs < 10000) (hd7 : 7 ≤ d) :
    Con w 194 9 [.ref D1, .ref D2, .int d td, .int 38 tt] news (fun r tl => Res (t1 - t2) r tl) := by
  rcases h1 with ⟨z1, hD1⟩ | ⟨m1, e1, u1, v1, mem1, n1, he1, hv1⟩
  · rcases h2 with ⟨z2, hD2⟩ | ⟨m2, e2, u2, v2, mem2, n2, he2, hv2⟩
    · subst z1; subst z2; subst hD1; subst hD2; exact c_sub_nn w news d td tt hd7
    · subst z1; subst hD1; rw [Int.zero_sub]; exact c_sub_nt w news D2 d td tt t2 m2 e2 u2 v2 mem2 n2 he2 hv2 hb2 hd7
  · rcases h2 with ⟨z2, hD2⟩ | ⟨m2, e2, u2, v2, mem2, n2, he2, hv2⟩
    · subst z2; subst hD2; rw [Int.sub_zero]; exact c_sub_tn w news D1 d td tt t1 m1 e1 u1 v1 mem1 n1 he1 hv1 hb1 hd7
    · exact c_sub_tt w news D1 D2 d td tt t1 t2 m1 e1 u1 v1 mem1 n1 he1 hv1 hb1 m2 e2 u2 v2 mem2 n2 he2 hv2 hb2 hb hd7
end

section
variable (w : World) (news : List (Addr × Obj)) (D1 D2 : Addr) (d : Int) (td tt : Tok) (t1 t2 : Int)
theorem c_add_nn (hd7 : 7 ≤ d) : Con w 187 9 [.ref 124, .ref 124, .int d td, .int 38 tt] news (fun r tl => Res 0 r tl) := by
  k_with_none
  k_with "my return" => (k_here; exfalso; with_reducible contradiction)
  k_with "my call" => (k_here; (with_reducible show wpAny _ _ (call (Value.ref 159) _) _ _ _); (walk_at "my enter"))
  k_with "my call" => (k_here; (with_reducible show wpAny _ _ (call (Value.ref 152) _) _ _ _); k_dflt (focus ((refine' Con.use (c_rr0 _ _ _ _ _ _ _ _ _ ?_ ?_) ?_ ?_ ?_ ?_ ?_ ?_ ?_ ?_ ?_); (walk_at "my use"); (· first | with_reducible assumption | omega | k_extra "hz"); (· first | with_reducible assumption | omega); intro r9 tl9 h9 tk9 F9 N9 hR9; obtain ⟨ea9, eb9⟩ := hR9; subst ea9; subst eb9; (try simp only [List.nil_append] at N9); (try dsimp only); (try k_fold))))
  k_with "my call" => (k_here; (with_reducible show wpAny _ _ (call (Value.ref 152) _) _ _ _); k_dflt (focus ((refine' Con.use (c_rrS _ _ _ _ _ _ _ _ _ ?_ ?_ ?_ ?_) ?_ ?_ ?_ ?_ ?_ ?_ ?_ ?_ ?_); (walk_at "my use"); (· first | with_reducible assumption | omega | k_extra "hp"); (· first | with_reducible assumption | omega | k_extra "hq"); (· first | with_reducible assumption | omega | k_extra "hr"); (· first | with_reducible assumption | omega | k_extra "ht"); intro r9 tl9 h9 tk9 F9 N9 hR9; obtain ⟨D9, u9, v9, m9, e9, j9, ea9, eb9, hm9, he9, hn9⟩ := hR9; subst ea9; subst eb9; (try simp only [List.nil_append, List.cons_append] at N9); (try dsimp only); (try k_fold))))
  k_with "my call" => (k_here; (with_reducible show wpAny _ _ (call (Value.ref 152) _) _ _ _); k_dflt (focus ((refine' Con.use (c_rrB _ _ _ _ _ _ _ _ _ ?_ ?_ ?_ ?_ ?_ ?_) ?_ ?_ ?_ ?_ ?_ ?_ ?_ ?_ ?_); (walk_at "my use"); (· first | with_reducible assumption | omega); (· first | with_reducible assumption | omega); (· first | with_reducible assumption | omega); (· first | with_reducible assumption | omega); (· first | with_reducible assumption | omega); (· first | with_reducible assumption | omega); intro r9 tl9 h9 tk9 F9 N9 hR9; obtain ⟨D9, u9, v9, m9, e9, j9, q9, ea9, eb9, hm9, he9, hn9, ho9⟩ := hR9; subst ea9; subst eb9; (try simp only [List.nil_append, List.cons_append] at N9); (try dsimp only); (try k_fold))))
  (have fl9 : Filled KT PySem.Challenge.rw_sa0214_01 := (by k_fill; exact True.intro); intro loose mean mg mb dp un gd cn cs ad ccd cl outer A₀ base h₀ L mf s Q E B F X N T hk hd hu hret; refine wpAny_call ?_; k_dflt cell_enter)
  k_steps
  all_goals (refine hret _ [] _ _ (by k_asm) (by first | k_asm | (first | (refine sub_drop (by with_reducible assumption) ?_; (try simp only [List.nil_append, List.cons_append]); (with_reducible (repeat' (first | exact fun _ h => h | refine sub_same ?_ | refine sub_more ?_))); done) | k_asm | (refine sub_drop (by assumption) ?_; repeat' (first | exact fun _ h => h | refine sub_same ?_ | refine sub_more ?_)))) (Or.inl ⟨rfl, rfl, rfl⟩))
theorem c_add_nt (m e : Int) (u v : Tok) (hm : (D2, ({ cls := .type "tuple", data := .seq #[.int m u, .int e v] } : Obj)) ∈ news) (n : m ≠ 0) (he : -1 ≤ e) (hv : t2 = m * 10 ^ (e + 1).toNat) (hb : t2.natAbs < 10000) (hd7 : 7 ≤ d) :
    Con w 187 9 [.ref 124, .ref D2, .int d td, .int 38 tt] news (fun r tl => Res t2 r tl) := by
  obtain ⟨f1, f2, f3, f4, f5, f6⟩ := nm_facts n he hv hb
  k_with_none
  k_with "my return" => (k_here; exfalso; with_reducible contradiction)
  k_with "my call" => (k_here; (with_reducible show wpAny _ _ (call (Value.ref 159) _) _ _ _); (walk_at "my enter"))
  k_with "my call" => (k_here; (with_reducible show wpAny _ _ (call (Value.ref 152) _) _ _ _); k_dflt (focus ((refine' Con.use (c_rr0 _ _ _ _ _ _ _ _ _ ?_ ?_) ?_ ?_ ?_ ?_ ?_ ?_ ?_ ?_ ?_); (walk_at "my use"); (· first | with_reducible assumption | omega | k_extra "hz"); (· first | with_reducible assumption | omega); intro r9 tl9 h9 tk9 F9 N9 hR9; obtain ⟨ea9, eb9⟩ := hR9; subst ea9; subst eb9; (try simp only [List.nil_append] at N9); (try dsimp only); (try k_fold))))
  k_with "my call" => (k_here; (with_reducible show wpAny _ _ (call (Value.ref 152) _) _ _ _); k_dflt (focus ((refine' Con.use (c_rrS _ _ _ _ _ _ _ _ _ ?_ ?_ ?_ ?_) ?_ ?_ ?_ ?_ ?_ ?_ ?_ ?_ ?_); (walk_at "my use"); (· first | with_reducible assumption | omega | k_extra "hp"); (· first | with_reducible assumption | omega | k_extra "hq"); (· first | with_reducible assumption | omega | k_extra "hr"); (· first | with_reducible assumption | omega | k_extra "ht"); intro r9 tl9 h9 tk9 F9 N9 hR9; obtain ⟨D9, u9, v9, m9, e9, j9, ea9, eb9, hm9, he9, hn9⟩ := hR9; subst ea9; subst eb9; (try simp only [List.nil_append, List.cons_append] at N9); (try dsimp only); (try k_fold))))
  k_with "my call" => (k_here; (with_reducible show wpAny _ _ (call (Value.ref 152) _) _ _ _); k_dflt (focus ((refine' Con.use (c_rrB _ _ _ _ _ _ _ _ _ ?_ ?_ ?_ ?_ ?_ ?_) ?_ ?_ ?_ ?_ ?_ ?_ ?_ ?_ ?_); (walk_at "my use"); (· first | with_reducible assumption | omega); (· first | with_reducible assumption | omega); (· first | with_reducible assumption | omega); (· first | with_reducible assumption | omega); (· first | with_reducible assumption | omega); (· first | with_reducible assumption | omega); intro r9 tl9 h9 tk9 F9 N9 hR9; obtain ⟨D9, u9, v9, m9, e9, j9, q9, ea9, eb9, hm9, he9, hn9, ho9⟩ := hR9; subst ea9; subst eb9; (try simp only [List.nil_append, List.cons_append] at N9); (try dsimp only); (try k_fold))))
  (have fl9 : Filled KT PySem.Challenge.rw_sa0214_01 := (by k_fill; exact True.intro); intro loose mean mg mb dp un gd cn cs ad ccd cl outer A₀ base h₀ L mf s Q E B F X N T hk hd hu hret; refine wpAny_call ?_; k_dflt cell_enter)
  k_steps
  all_goals (
    rename (_ = _ * 10 ^ _) => hj
    have hr := res_of he hv hj (by assumption)
    refine' ret2 hret ?zF ?zN ?zR
    case zF => k_asm
    case zN => (first | (refine sub_drop (by with_reducible assumption) ?_; (try simp only [List.nil_append, List.cons_append]); (with_reducible (repeat' (first | exact fun _ h => h | refine sub_same ?_ | refine sub_more ?_))); done) | k_asm | (refine sub_drop (by assumption) ?_; repeat' (first | exact fun _ h => h | refine sub_same ?_ | refine sub_more ?_)))
    case zR => exact Or.inr ⟨_, _, _, _, _, rfl, rfl, by assumption, hr.1, hr.2⟩)
theorem c_add_tn (m e : Int) (u v : Tok) (hm : (D1, ({ cls := .type "tuple", data := .seq #[.int m u, .int e v] } : Obj)) ∈ news) (n : m ≠ 0) (he : -1 ≤ e) (hv : t1 = m * 10 ^ (e + 1).toNat) (hb : t1.natAbs < 10000) (hd7 : 7 ≤ d) :
    Con w 187 9 [.ref D1, .ref 124, .int d td, .int 38 tt] news (fun r tl => Res t1 r tl) := by
  obtain ⟨f1, f2, f3, f4, f5, f6⟩ := nm_facts n he hv hb
  k_with_none
  k_with "my return" => (k_here; exfalso; with_reducible contradiction)
  k_with "my call" => (k_here; (with_reducible show wpAny _ _ (call (Value.ref 159) _) _ _ _); (walk_at "my enter"))
  k_with "my call" => (k_here; (with_reducible show wpAny _ _ (call (Value.ref 152) _) _ _ _); k_dflt (focus ((refine' Con.use (c_rr0 _ _ _ _ _ _ _ _ _ ?_ ?_) ?_ ?_ ?_ ?_ ?_ ?_ ?_ ?_ ?_); (walk_at "my use"); (· first | with_reducible assumption | omega | k_extra "hz"); (· first | with_reducible assumption | omega); intro r9 tl9 h9 tk9 F9 N9 hR9; obtain ⟨ea9, eb9⟩ := hR9; subst ea9; subst eb9; (try simp only [List.nil_append] at N9); (try dsimp only); (try k_fold))))
  k_with "my call" => (k_here; (with_reducible show wpAny _ _ (call (Value.ref 152) _) _ _ _); k_dflt (focus ((refine' Con.use (c_rrS _ _ _ _ _ _ _ _ _ ?_ ?_ ?_ ?_) ?_ ?_ ?_ ?_ ?_ ?_ ?_ ?_ ?_); (walk_at "my use"); (· first | with_reducible assumption | omega | k_extra "hp"); (· first | with_reducible assumption | omega | k_extra "hq"); (· first | with_reducible assumption | omega | k_extra "hr"); (· first | with_reducible assumption | omega | k_extra "ht"); intro r9 tl9 h9 tk9 F9 N9 hR9; obtain ⟨D9, u9, v9, m9, e9, j9, ea9, eb9, hm9, he9, hn9⟩ := hR9; subst ea9; subst eb9; (try simp only [List.nil_append, List.cons_append] at N9); (try dsimp only); (try k_fold))))
  k_with "my call" => (k_here; (with_reducible show wpAny _ _ (call (Value.ref 152) _) _ _ _); k_dflt (focus ((refine' Con.use (c_rrB _ _ _ _ _ _ _ _ _ ?_ ?_ ?_ ?_ ?_ ?_) ?_ ?_ ?_ ?_ ?_ ?_ ?_ ?_ ?_); (walk_at "my use"); (· first | with_reducible assumption | omega); (· first | with_reducible assumption | omega); (· first | with_reducible assumption | omega); (· first | with_reducible assumption | omega); (· first | with_reducible assumption | omega); (· first | with_reducible assumption | omega); intro r9 tl9 h9 tk9 F9 N9 hR9; obtain ⟨D9, u9, v9, m9, e9, j9, q9, ea9, eb9, hm9, he9, hn9, ho9⟩ := hR9; subst ea9; subst eb9; (try simp only [List.nil_append, List.cons_append] at N9); (try dsimp only); (try k_fold))))
  (have fl9 : Filled KT PySem.Challenge.rw_sa0214_01 := (by k_fill; exact True.intro); intro loose mean mg mb dp un gd cn cs ad ccd cl outer A₀ base h₀ L mf s Q E B F X N T hk hd hu hret; refine wpAny_call ?_; k_dflt cell_enter)
  k_steps
  all_goals (
    rename (_ = _ * 10 ^ _) => hj
    have hr := res_of he hv hj (by assumption)
    refine' ret2 hret ?zF ?zN ?zR
    case zF => k_asm
    case zN => (first | (refine sub_drop (by with_reducible assumption) ?_; (try simp only [List.nil_append, List.cons_append]); (with_reducible (repeat' (first | exact fun _ h => h | refine sub_same ?_ | refine sub_more ?_))); done) | k_asm | (refine sub_drop (by assumption) ?_; repeat' (first | exact fun _ h => h | refine sub_same ?_ | refine sub_more ?_)))
    case zR => exact Or.inr ⟨_, _, _, _, _, rfl, rfl, by assumption, hr.1, hr.2⟩)
theorem c_add_tt (m1 e1 : Int) (u1 v1 : Tok) (hm1 : (D1, ({ cls := .type "tuple", data := .seq #[.int m1 u1, .int e1 v1] } : Obj)) ∈ news) (n1 : m1 ≠ 0) (he1 : -1 ≤ e1) (hv1 : t1 = m1 * 10 ^ (e1 + 1).toNat) (hb1 : t1.natAbs < 10000)
    (m2 e2 : Int) (u2 v2 : Tok) (hm2 : (D2, ({ cls := .type "tuple", data := .seq #[.int m2 u2, .int e2 v2] } : Obj)) ∈ news) (n2 : m2 ≠ 0) (he2 : -1 ≤ e2) (hv2 : t2 = m2 * 10 ^ (e2 + 1).toNat) (hb2 : t2.natAbs < 10000) (hb : (t1 + t2).natAbs < 10000) (hd7 : 7 ≤ d) :
    Con w 187 9 [.ref D1, .ref D2, .int d td, .int 38 tt] news (fun r tl => Res (t1 + t2) r tl) := by
  obtain ⟨f1, f2, f3, f4, f5, f6⟩ := nm_facts n1 he1 hv1 hb1
  obtain ⟨g1, g2, g3, g4, g5, g6⟩ := nm_facts n2 he2 hv2 hb2
  obtain ⟨w1, w2⟩ := low_le (e1 := e1) (e2 := e2)
  obtain ⟨l1, l2⟩ := sum_low (m1 := m1) (m2 := m2) he1 he2 hv1 hv2
  generalize hl : (if e2 < e1 then e2 else e1) = lo at l1 l2 w1 w2
  by_cases hz : t1 + t2 = 0
  · have hS : m1 * 10 ^ (e1 - lo).toNat + m2 * 10 ^ (e2 - lo).toNat = 0 := by
      rw [hz] at l2
      rcases Int.mul_eq_zero.mp l2.symm with q | q
      · exact q
      · exact absurd q (Int.ne_of_gt (pow10_pos _))
    subst hl
    k_with_none
    k_with "my return" => (k_here; exfalso; with_reducible contradiction)
    k_with "my call" => (k_here; (with_reducible show wpAny _ _ (call (Value.ref 159) _) _ _ _); (walk_at "my enter"))
    k_with "my call" => (k_here; (with_reducible show wpAny _ _ (call (Value.ref 152) _) _ _ _); k_dflt (focus ((refine' Con.use (c_rr0 _ _ _ _ _ _ _ _ _ ?_ ?_) ?_ ?_ ?_ ?_ ?_ ?_ ?_ ?_ ?_); (walk_at "my use"); (· first | with_reducible assumption | omega | k_extra "hz"); (· first | with_reducible assumption | omega); intro r9 tl9 h9 tk9 F9 N9 hR9; obtain ⟨ea9, eb9⟩ := hR9; subst ea9; subst eb9; (try simp only [List.nil_append] at N9); (try dsimp only); (try k_fold))))
    k_with "my call" => (k_here; (with_reducible show wpAny _ _ (call (Value.ref 152) _) _ _ _); k_dflt (focus ((refine' Con.use (c_rrS _ _ _ _ _ _ _ _ _ ?_ ?_ ?_ ?_) ?_ ?_ ?_ ?_ ?_ ?_ ?_ ?_ ?_); (walk_at "my use"); (· first | with_reducible assumption | omega | k_extra "hp"); (· first | with_reducible assumption | omega | k_extra "hq"); (· first | with_reducible assumption | omega | k_extra "hr"); (· first | with_reducible assumption | omega | k_extra "ht"); intro r9 tl9 h9 tk9 F9 N9 hR9; obtain ⟨D9, u9, v9, m9, e9, j9, ea9, eb9, hm9, he9, hn9⟩ := hR9; subst ea9; subst eb9; (try simp only [List.nil_append, List.cons_append] at N9); (try dsimp only); (try k_fold))))
    k_with "my call" => (k_here; (with_reducible show wpAny _ _ (call (Value.ref 152) _) _ _ _); k_dflt (focus ((refine' Con.use (c_rrB _ _ _ _ _ _ _ _ _ ?_ ?_ ?_ ?_ ?_ ?_) ?_ ?_ ?_ ?_ ?_ ?_ ?_ ?_ ?_); (walk_at "my use"); (· first | with_reducible assumption | omega); (· first | with_reducible assumption | omega); (· first | with_reducible assumption | omega); (· first | with_reducible assumption | omega); (· first | with_reducible assumption | omega); (· first | with_reducible assumption | omega); intro r9 tl9 h9 tk9 F9 N9 hR9; obtain ⟨D9, u9, v9, m9, e9, j9, q9, ea9, eb9, hm9, he9, hn9, ho9⟩ := hR9; subst ea9; subst eb9; (try simp only [List.nil_append, List.cons_append] at N9); (try dsimp only); (try k_fold))))
    (have fl9 : Filled KT PySem.Challenge.rw_sa0214_01 := (by k_fill; exact True.intro); intro loose mean mg mb dp un gd cn cs ad ccd cl outer A₀ base h₀ L mf s Q E B F X N T hk hd hu hret; refine wpAny_call ?_; k_dflt cell_enter)
    k_steps
    all_goals (refine hret _ [] _ _ (by k_asm) (by first | k_asm | (first | (refine sub_drop (by with_reducible assumption) ?_; (try simp only [List.nil_append, List.cons_append]); (with_reducible (repeat' (first | exact fun _ h => h | refine sub_same ?_ | refine sub_more ?_))); done) | k_asm | (refine sub_drop (by assumption) ?_; repeat' (first | exact fun _ h => h | refine sub_same ?_ | refine sub_more ?_)))) (Or.inl ⟨hz, rfl, rfl⟩))
  · have hS : m1 * 10 ^ (e1 - lo).toNat + m2 * 10 ^ (e2 - lo).toNat ≠ 0 := by
      intro q
      rw [q, Int.zero_mul] at l2
      exact hz l2
    obtain ⟨k1, k2, k3, k4, k5, k6⟩ := nm_facts hS l1 l2 hb
    subst hl
    k_with_none
    k_with "my return" => (k_here; exfalso; with_reducible contradiction)
    k_with "my call" => (k_here; (with_reducible show wpAny _ _ (call (Value.ref 159) _) _ _ _); (walk_at "my enter"))
    k_with "my call" => (k_here; (with_reducible show wpAny _ _ (call (Value.ref 152) _) _ _ _); k_dflt (focus ((refine' Con.use (c_rr0 _ _ _ _ _ _ _ _ _ ?_ ?_) ?_ ?_ ?_ ?_ ?_ ?_ ?_ ?_ ?_); (walk_at "my use"); (· first | with_reducible assumption | omega | k_extra "hz"); (· first | with_reducible assumption | omega); intro r9 tl9 h9 tk9 F9 N9 hR9; obtain ⟨ea9, eb9⟩ := hR9; subst ea9; subst eb9; (try simp only [List.nil_append] at N9); (try dsimp only); (try k_fold))))
    k_with "my call" => (k_here; (with_reducible show wpAny _ _ (call (Value.ref 152) _) _ _ _); k_dflt (focus ((refine' Con.use (c_rrS _ _ _ _ _ _ _ _ _ ?_ ?_ ?_ ?_) ?_ ?_ ?_ ?_ ?_ ?_ ?_ ?_ ?_); (walk_at "my use"); (· first | with_reducible assumption | omega | k_extra "hp"); (· first | with_reducible assumption | omega | k_extra "hq"); (· first | with_reducible assumption | omega | k_extra "hr"); (· first | with_reducible assumption | omega | k_extra "ht"); intro r9 tl9 h9 tk9 F9 N9 hR9; obtain ⟨D9, u9, v9, m9, e9, j9, ea9, eb9, hm9, he9, hn9⟩ := hR9; subst ea9; subst eb9; (try simp only [List.nil_append, List.cons_append] at N9); (try dsimp only); (try k_fold))))
    k_with "my call" => (k_here; (with_reducible show wpAny _ _ (call (Value.ref 152) _) _ _ _); k_dflt (focus ((refine' Con.use (c_rrB _ _ _ _ _ _ _ _ _ ?_ ?_ ?_ ?_ ?_ ?_) ?_ ?_ ?_ ?_ ?_ ?_ ?_ ?_ ?_); (walk_at "my use"); (· first | with_reducible assumption | omega); (· first | with_reducible assumption | omega); (· first | with_reducible assumption | omega); (· first | with_reducible assumption | omega); (· first | with_reducible assumption | omega); (· first | with_reducible assumption | omega); intro r9 tl9 h9 tk9 F9 N9 hR9; obtain ⟨D9, u9, v9, m9, e9, j9, q9, ea9, eb9, hm9, he9, hn9, ho9⟩ := hR9; subst ea9; subst eb9; (try simp only [List.nil_append, List.cons_append] at N9); (try dsimp only); (try k_fold))))
    (have fl9 : Filled KT PySem.Challenge.rw_sa0214_01 := (by k_fill; exact True.intro); intro loose mean mg mb dp un gd cn cs ad ccd cl outer A₀ base h₀ L mf s Q E B F X N T hk hd hu hret; refine wpAny_call ?_; k_dflt cell_enter)
    k_steps
    all_goals (
      rename (_ = _ * 10 ^ _) => hj
      have hr := res_of l1 l2 hj (by assumption)
      refine' ret2 hret ?zF ?zN ?zR
      case zF => k_asm
      case zN => (first | (refine sub_drop (by with_reducible assumption) ?_; (try simp only [List.nil_append, List.cons_append]); (with_reducible (repeat' (first | exact fun _ h => h | refine sub_same ?_ | refine sub_more ?_))); done) | k_asm | (refine sub_drop (by assumption) ?_; repeat' (first | exact fun _ h => h | refine sub_same ?_ | refine sub_more ?_)))
      case zR => exact Or.inr ⟨_, _, _, _, _, rfl, rfl, by assumption, hr.1, hr.2⟩)
theorem c_add (h1 : Nm news D1 t1) (h2 : Nm news D2 t2) (hb1 : t1.natAbs < 10000) (hb2 : t2.natAbs < 10000) (hb : (t1 + t2).natAbs < 10000) (hd7 : 7 ≤ d) :
    Con w 187 9 [.ref D1, .ref D2, .int d td, .int 38 tt] news (fun r tl => Res (t1 + t2) r tl) := by
  rcases h1 with ⟨z1, hD1⟩ | ⟨m1, e1, u1, v1, mem1, n1, he1, hv1⟩
  · rcases h2 with ⟨z2, hD2⟩ | ⟨m2, e2, u2, v2, mem2, n2, he2, hv2⟩
    · subst z1; subst z2; subst hD1; subst hD2; exact c_add_nn w news d td tt hd7
    · subst z1; subst hD1; rw [Int.zero_add]; exact c_add_nt w news D2 d td tt t2 m2 e2 u2 v2 mem2 n2 he2 hv2 hb2 hd7
  · rcases h2 with ⟨z2, hD2⟩ | ⟨m2, e2, u2, v2, mem2, n2, he2, hv2⟩
    · subst z2; subst hD2; rw [Int.add_zero]; exact c_add_tn w news D1 d td tt t1 m1 e1 u1 v1 mem1 n1 he1 hv1 hb1 hd7
    · exact c_add_tt w news D1 D2 d td tt t1 t2 m1 e1 u1 v1 mem1 n1 he1 hv1 hb1 m2 e2 u2 v2 mem2 n2 he2 hv2 hb2 hb hd7
end

/-- ten times the whole quotient of a * 10 ^ s by b, and one more where a rest is left -/
def quoN (a b s : Nat) : Nat := 10 * (a * 10 ^ s / b) + if a * 10 ^ s % b = 0 then 0 else 1
theorem quoN_size {a b d : Nat} (ha : 1 ≤ a) (hb : 1 ≤ b) (hd : 7 ≤ d) (hca : cdg a ≤ 4) : d < cdg (quoN a b (d + 2 + cdg b - cdg a)) ∧ cdg (quoN a b (d + 2 + cdg b - cdg a)) ≤ d + 4 := by
  have hb1 := cdg_ge (n := b) (by omega)
  have hA : cdg (a * 10 ^ (d + 2 + cdg b - cdg a)) = d + 2 + cdg b := by rw [cdg_pow (by omega)]; omega
  have hA0 : a * 10 ^ (d + 2 + cdg b - cdg a) ≠ 0 := Nat.mul_ne_zero (by omega) (Nat.ne_of_gt (Nat.pow_pos (by omega)))
  have h1 := cdg_pow_le hA0
  have h2 := cdg_lt_pow (n := a * 10 ^ (d + 2 + cdg b - cdg a))
  rw [hA] at h1 h2
  have h3 := cdg_lt_pow (n := b)
  have h4 := cdg_pow_le (n := b) (by omega)
  generalize hS : a * 10 ^ (d + 2 + cdg b - cdg a) = A at *
  have k1 : 10 ^ (d + 1) ≤ A / b := by
    rw [Nat.le_div_iff_mul_le (by omega)]
    have : 10 ^ (d + 1) * b ≤ 10 ^ (d + 1) * 10 ^ cdg b := Nat.mul_le_mul_left _ (by omega)
    rw [← Nat.pow_add] at this
    have e : d + 2 + cdg b - 1 = d + 1 + cdg b := by omega
    rw [e] at h1
    omega
  have k2 : A / b < 10 ^ (d + 3) := by
    rw [Nat.div_lt_iff_lt_mul (by omega)]
    have : 10 ^ (d + 3) * 10 ^ (cdg b - 1) ≤ 10 ^ (d + 3) * b := Nat.mul_le_mul_left _ h4
    rw [← Nat.pow_add] at this
    have e : d + 3 + (cdg b - 1) = d + 2 + cdg b := by omega
    rw [e] at this
    omega
  have p1 : 10 ^ (d + 2) = 10 ^ (d + 1) * 10 := by rw [← Nat.pow_succ]
  have p2 : 10 ^ (d + 4) = 10 ^ (d + 3) * 10 := by rw [← Nat.pow_succ]
  have n1 : 10 ^ (d + 2) ≤ quoN a b (d + 2 + cdg b - cdg a) := by unfold quoN; rw [hS]; omega
  have n2 : quoN a b (d + 2 + cdg b - cdg a) < 10 ^ (d + 4) := by unfold quoN; rw [hS]; split <;> omega
  refine ⟨?_, cdg_le n2⟩
  have n3 := cdg_lt_pow (n := quoN a b (d + 2 + cdg b - cdg a))
  have n4 : 10 ^ (d + 2) < 10 ^ cdg (quoN a b (d + 2 + cdg b - cdg a)) := by omega
  have n5 := (Nat.pow_lt_pow_iff_right (a := 10) (by omega)).mp n4
  omega
theorem quoN_bound {a b s : Nat} (_hb : 1 ≤ b) : 10 * (a * 10 ^ s / b) ≤ quoN a b s ∧ quoN a b s * b ≤ 10 * (a * 10 ^ s) + b := by
  have h := Nat.div_mul_le_self (a * 10 ^ s) b
  unfold quoN
  generalize a * 10 ^ s / b = k at *
  refine ⟨by omega, ?_⟩
  have h2 : (10 * k + if a * 10 ^ s % b = 0 then 0 else 1) * b ≤ (10 * k + 1) * b := Nat.mul_le_mul_right _ (by split <;> omega)
  have h3 : (10 * k + 1) * b = 10 * (k * b) + b := by rw [Nat.add_mul, Nat.one_mul, Nat.mul_assoc]
  omega
theorem quo_floor {a b kp kq sh E D F q : Nat} (hb : 1 ≤ b) (hE : E + kp = sh + 1 + kq) (hE1 : 1 ≤ E) (hF : E = F + D) (hbig : (10 ^ D + 2) * (b * 10 ^ kp) < 2 * 10 ^ (sh + 1))
    (hq : q = quoN a b sh / 10 ^ D ∨ (q = quoN a b sh / 10 ^ D + 1 ∧ 10 ^ D ≤ 2 * (quoN a b sh % 10 ^ D))) : q / 10 ^ F = (a * 10 ^ kp) / (b * 10 ^ kq) := by
  obtain ⟨hn1, hn2⟩ := quoN_bound (a := a) (s := sh) hb
  generalize quoN a b sh = n at *
  have hA : 10 * (a * 10 ^ sh) = a * 10 ^ (sh + 1) := by rw [Nat.pow_succ]; simp only [Nat.mul_comm, Nat.mul_left_comm]
  have hc0 : 0 < b * 10 ^ kq := Nat.mul_pos (by omega) (Nat.pow_pos (by omega))
  have hN1 := Nat.div_mul_le_self (a * 10 ^ kp) (b * 10 ^ kq)
  have hN2 := Nat.lt_mul_div_succ (a * 10 ^ kp) hc0
  generalize hN0 : a * 10 ^ kp / (b * 10 ^ kq) = N at *
  have hk : 0 < 10 ^ kp := Nat.pow_pos (by omega)
  have hpow : 10 ^ kq * 10 ^ (sh + 1) = 10 ^ E * 10 ^ kp := by rw [← Nat.pow_add, ← Nat.pow_add]; congr 1; omega
  -- the lower bound
  have lo : N * 10 ^ E ≤ n := by
    have h1 : N * (b * 10 ^ kq) * 10 ^ (sh + 1) ≤ a * 10 ^ kp * 10 ^ (sh + 1) := Nat.mul_le_mul_right _ hN1
    have h2 : N * (b * 10 ^ kq) * 10 ^ (sh + 1) = (N * b * 10 ^ E) * 10 ^ kp := by
      rw [show N * (b * 10 ^ kq) * 10 ^ (sh + 1) = N * b * (10 ^ kq * 10 ^ (sh + 1)) by simp only [Nat.mul_assoc], hpow]
      simp only [Nat.mul_assoc]
    have h3 : a * 10 ^ kp * 10 ^ (sh + 1) = (10 * (a * 10 ^ sh)) * 10 ^ kp := by rw [hA]; simp only [Nat.mul_comm, Nat.mul_left_comm, Nat.mul_assoc]
    rw [h2, h3] at h1
    have h4 := Nat.le_of_mul_le_mul_right h1 hk
    obtain ⟨E', rfl⟩ : ∃ E', E = E' + 1 := ⟨E - 1, by omega⟩
    have h5 : N * b * 10 ^ (E' + 1) = 10 * (N * 10 ^ E' * b) := by rw [Nat.pow_succ]; simp only [Nat.mul_comm, Nat.mul_left_comm, Nat.mul_assoc]
    have h6 : N * 10 ^ E' ≤ a * 10 ^ sh / b := by rw [Nat.le_div_iff_mul_le (by omega)]; omega
    have h7 : N * 10 ^ (E' + 1) = 10 * (N * 10 ^ E') := by rw [Nat.pow_succ]; simp only [Nat.mul_comm, Nat.mul_left_comm, Nat.mul_assoc]
    omega
  have hi : 2 * n + 10 ^ D < 2 * ((N + 1) * 10 ^ E) := by
    have hM : 0 < b * 10 ^ kp := Nat.mul_pos (by omega) hk
    refine Nat.lt_of_mul_lt_mul_right (a := b * 10 ^ kp) ?_
    have h1 : (a * 10 ^ kp + 1) * 10 ^ (sh + 1) ≤ (b * 10 ^ kq * (N + 1)) * 10 ^ (sh + 1) := Nat.mul_le_mul_right _ hN2
    have h2 : (b * 10 ^ kq * (N + 1)) * 10 ^ (sh + 1) = (N + 1) * 10 ^ E * (b * 10 ^ kp) := by
      rw [show b * 10 ^ kq * (N + 1) * 10 ^ (sh + 1) = (N + 1) * b * (10 ^ kq * 10 ^ (sh + 1)) by simp only [Nat.mul_comm, Nat.mul_left_comm, Nat.mul_assoc], hpow]
      simp only [Nat.mul_comm, Nat.mul_left_comm, Nat.mul_assoc]
    have h3 : (a * 10 ^ kp + 1) * 10 ^ (sh + 1) = (10 * (a * 10 ^ sh)) * 10 ^ kp + 10 ^ (sh + 1) := by
      rw [hA, Nat.add_mul, Nat.one_mul]; simp only [Nat.mul_comm, Nat.mul_left_comm, Nat.mul_assoc]
    have h4 : n * b * 10 ^ kp ≤ (10 * (a * 10 ^ sh) + b) * 10 ^ kp := Nat.mul_le_mul_right _ hn2
    rw [Nat.add_mul] at h4
    have h5 : (2 * n + 10 ^ D) * (b * 10 ^ kp) = 2 * (n * b * 10 ^ kp) + 10 ^ D * (b * 10 ^ kp) := by
      rw [Nat.add_mul]; simp only [Nat.mul_assoc]
    have h6 : (10 ^ D + 2) * (b * 10 ^ kp) = 10 ^ D * (b * 10 ^ kp) + 2 * (b * 10 ^ kp) := Nat.add_mul _ _ _
    have h7 : 2 * ((N + 1) * 10 ^ E) * (b * 10 ^ kp) = 2 * ((N + 1) * 10 ^ E * (b * 10 ^ kp)) := Nat.mul_assoc _ _ _
    rw [h5, h7, ← h2]
    rw [h6] at hbig
    rw [h3] at h1
    omega
  have hE2 : 10 ^ E = 10 ^ F * 10 ^ D := by rw [hF, Nat.pow_add]
  have hD : 0 < 10 ^ D := Nat.pow_pos (by omega)
  have lo2 : N * 10 ^ F ≤ n / 10 ^ D := by rw [Nat.le_div_iff_mul_le hD, Nat.mul_assoc, ← hE2]; exact lo
  have hdm := Nat.div_add_mod n (10 ^ D)
  have hq2 : 2 * (q * 10 ^ D) ≤ 2 * n + 10 ^ D := by
    rcases hq with rfl | ⟨rfl, h⟩
    · have := Nat.div_mul_le_self n (10 ^ D); omega
    · rw [Nat.add_mul, Nat.one_mul, Nat.mul_comm (n / 10 ^ D)]; omega
  have hi2 : q < (N + 1) * 10 ^ F := by
    refine Nat.lt_of_mul_lt_mul_right (a := 10 ^ D) ?_
    rw [Nat.mul_assoc, ← hE2]
    omega
  have hF0 : 0 < 10 ^ F := Nat.pow_pos (by omega)
  refine Nat.le_antisymm ?_ ?_
  · have := (Nat.div_lt_iff_lt_mul hF0).mpr hi2; omega
  · rw [Nat.le_div_iff_mul_le hF0]; rcases hq with rfl | ⟨rfl, h⟩ <;> omega
theorem quo_big {a b kp d D : Nat} (hb : 1 ≤ b) (hd : 7 ≤ d) (hk : cdg a + kp ≤ 3) (hD : D ≤ 4) : (10 ^ D + 2) * (b * 10 ^ kp) < 2 * 10 ^ (d + 2 + cdg b - cdg a + 1) := by
  have h1 := cdg_lt_pow (n := b)
  have hb1 := cdg_ge (n := b) (by omega)
  have h2 : 10 ^ D ≤ 10 ^ 4 := Nat.pow_le_pow_right (by omega) hD
  have h3 : b * 10 ^ kp ≤ 10 ^ cdg b * 10 ^ kp := Nat.mul_le_mul_right _ (by omega)
  rw [← Nat.pow_add] at h3
  have h4 : (10 ^ D + 2) * (b * 10 ^ kp) ≤ 10 ^ 7 * 10 ^ (cdg b + kp) := Nat.mul_le_mul (by omega) h3
  rw [← Nat.pow_add] at h4
  have h5 : 10 ^ (7 + (cdg b + kp)) ≤ 10 ^ (d + 2 + cdg b - cdg a + 1) := Nat.pow_le_pow_right (by omega) (by omega)
  have h6 : 0 < 10 ^ (d + 2 + cdg b - cdg a + 1) := Nat.pow_pos (by omega)
  omega
/-- the quotient cut off towards nought -/
def tdv (x y : Int) : Int := if (decide (x < 0) != decide (y < 0)) = true then -((x.natAbs / y.natAbs : Nat) : Int) else ((x.natAbs / y.natAbs : Nat) : Int)
/-- m * 10 ^ e cut off towards nought -/
def tr (m e : Int) : Int := if 0 ≤ e then m * 10 ^ e.toNat else if 0 < m then ((m.natAbs / 10 ^ (-e).toNat : Nat) : Int) else -((m.natAbs / 10 ^ (-e).toNat : Nat) : Int)
theorem tr_pos {m e : Int} {F j q : Nat} (hm : 0 < m) (hq : q = m.natAbs * 10 ^ j) (he : e = (j : Int) - F) : tr m e = ((q / 10 ^ F : Nat) : Int) := by
  unfold tr
  have hF0 : 0 < 10 ^ F := Nat.pow_pos (by omega)
  by_cases h : 0 ≤ e
  · rw [if_pos h]
    have hj : j = e.toNat + F := by omega
    rw [hq, hj, Nat.pow_add, ← Nat.mul_assoc, Nat.mul_div_cancel _ hF0]
    push_cast
    congr 1
    omega
  · rw [if_neg h, if_pos hm]
    have hj : F = (-e).toNat + j := by omega
    rw [hq, hj, Nat.pow_add, Nat.mul_div_mul_right _ _ (Nat.pow_pos (by omega))]
theorem tr_neg {m e : Int} {F j q : Nat} (hm : m < 0) (hq : q = m.natAbs * 10 ^ j) (he : e = (j : Int) - F) : tr m e = -((q / 10 ^ F : Nat) : Int) := by
  have h := tr_pos (m := -m) (F := F) (j := j) (q := q) (e := e) (by omega) (by rw [Int.natAbs_neg]; exact hq) he
  rw [← h]
  unfold tr
  by_cases h : 0 ≤ e
  · rw [if_pos h, if_pos h, Int.neg_mul, Int.neg_neg]
  · rw [if_neg h, if_neg h, if_neg (by omega), if_pos (by omega), Int.natAbs_neg]
theorem sign_mul10 {x t : Int} {k : Nat} (hv : t = x * 10 ^ k) : decide (t < 0) = decide (x < 0) ∧ t.natAbs = x.natAbs * 10 ^ k := by
  have hp := pow10_pos k
  refine ⟨?_, by rw [hv, Int.natAbs_mul, Int.natAbs_pow]; rfl⟩
  rw [hv]
  by_cases h : x < 0
  · have := Int.mul_neg_of_neg_of_pos h hp; simp [h, this]
  · have := Int.mul_nonneg (a := x) (b := 10 ^ k) (by omega) (by omega); simp [h]; omega
theorem abs_ite {c : Prop} [Decidable c] {n : Nat} : (if c then -(n : Int) else (n : Int)).natAbs = n := by split <;> simp
theorem ite_abs {c : Prop} [Decidable c] {n : Nat} : (if c then (n : Int) else -(n : Int)).natAbs = n := by split <;> simp
theorem exp_sum {ex ey d e e' : Int} {kx ky dn ca cb cn D F j : Nat} (hx : ex + 1 = kx) (hy : ey + 1 = ky) (hd : d = dn) (he : e = (ex - ey) - (d + 2 + (cb : Int) - ca) - 1) (he' : e' = e + ((cn : Int) - d) + j)
    (hcn : cn = dn + D) (hF : F + D + kx + ca = dn + 3 + cb + ky) : e' = (j : Int) - F := by omega
theorem shift_nat {dn ca cb : Nat} (h : ca ≤ dn) : ((dn : Int) + 2 + (cb : Int) - ca).toNat = dn + 2 + cb - ca := by omega
theorem rest_nat {cn dn D : Nat} (h : cn = dn + D) : ((cn : Int) - (dn : Int)).toNat = D := by omega
theorem rnd_nat {q n D : Nat} (h : Rnd (q : Int) (n : Int) ((10 : Int) ^ D)) : 1 ≤ q ∧ (q = n / 10 ^ D ∨ (q = n / 10 ^ D + 1 ∧ 10 ^ D ≤ 2 * (n % 10 ^ D))) := by
  rw [show (10 : Int) ^ D = ((10 ^ D : Nat) : Int) by push_cast; rfl] at h
  obtain ⟨h1, h2⟩ := h
  refine ⟨by exact_mod_cast h1, ?_⟩
  rcases h2 with h | ⟨h, h'⟩
  · left; exact_mod_cast h
  · right; exact ⟨by exact_mod_cast h, by exact_mod_cast h'⟩
theorem cdg_small {a k c : Nat} (ha : 1 ≤ a) (h : a * 10 ^ k < 10 ^ c) : cdg a + k ≤ c := by
  have := cdg_le h
  rw [cdg_pow (Nat.ne_of_gt ha)] at this
  exact this
theorem le_of_add1 {x k c : Nat} (h : x + k ≤ c) : x ≤ c := Nat.le_trans (Nat.le_add_right _ _) h
theorem exp_ex {dn ca cb kx ky D : Nat} (h1 : ca + kx ≤ 3) (h2 : cb + ky ≤ 3) (hd : 7 ≤ dn) (hd2 : dn ≤ 15) (hD : D ≤ 4) : ∃ F E : Nat, F + D + kx + ca = dn + 3 + cb + ky ∧ E = F + D ∧ E + kx = (dn + 2 + cb - ca) + 1 + ky ∧ 1 ≤ E ∧ F ≤ 40 :=
  ⟨dn + 3 + cb + ky - kx - ca - D, dn + 3 + cb + ky - kx - ca, by omega, by omega, by omega, by omega, by omega⟩
theorem le_up {a b c : Nat} (h : a < b) (hc : c = a ∨ (c = a + 1 ∧ True)) : c ≤ b := by omega
theorem pow_le15 {q dn j mq : Nat} (hq : q ≤ 10 ^ dn) (hd : dn ≤ 15) (hq1 : 1 ≤ q) (hj : q = mq * 10 ^ j) : mq < 4611686018427387904 ∧ j ≤ 15 ∧ 1 ≤ mq := by
  have hm0 : 1 ≤ mq := by
    rcases Nat.eq_zero_or_pos mq with h | h
    · rw [h, Nat.zero_mul] at hj; rw [hj] at hq1; exact absurd hq1 (by decide)
    · exact h
  have h1 : q ≤ 10 ^ 15 := Nat.le_trans hq (Nat.pow_le_pow_right (by decide) hd)
  have h2 : mq * 1 ≤ mq * 10 ^ j := Nat.mul_le_mul_left _ (Nat.pow_pos (by decide))
  have h3 : 1 * 10 ^ j ≤ mq * 10 ^ j := Nat.mul_le_mul_right _ hm0
  rw [← hj] at h2 h3
  rw [Nat.mul_one] at h2
  rw [Nat.one_mul] at h3
  exact ⟨Nat.lt_of_le_of_lt (Nat.le_trans h2 h1) (by decide), (Nat.pow_le_pow_iff_right (by decide)).mp (Nat.le_trans h3 h1), hm0⟩
theorem div_nat {a b dn kx ky j mq qn D n : Nat} (ha : 1 ≤ a) (hb : 1 ≤ b) (hA : a * 10 ^ kx < 1000) (hB : b * 10 ^ ky < 1000) (hd7 : 7 ≤ dn) (hd15 : dn ≤ 15)
    (hn : quoN a b (dn + 2 + cdg b - cdg a) = n) (hD : cdg n = dn + D)
    (hq : 1 ≤ qn ∧ (qn = n / 10 ^ D ∨ (qn = n / 10 ^ D + 1 ∧ 10 ^ D ≤ 2 * (n % 10 ^ D)))) (hj : qn = mq * 10 ^ j) :
    ∃ F : Nat, F + D + kx + cdg a = dn + 3 + cdg b + ky ∧ qn / 10 ^ F = (a * 10 ^ kx) / (b * 10 ^ ky) ∧ mq < 4611686018427387904 ∧ j ≤ 15 ∧ F ≤ 40 ∧ 1 ≤ mq := by
  have c1 : cdg a + kx ≤ 3 := cdg_small ha hA
  have c2 : cdg b + ky ≤ 3 := cdg_small hb hB
  have z := quoN_size (a := a) (b := b) (d := dn) ha hb hd7 (Nat.le_trans (le_of_add1 c1) (by decide))
  rw [hn, hD, Nat.add_le_add_iff_left] at z
  have hbg := quo_big (a := a) (b := b) (kp := kx) (d := dn) (D := D) hb hd7 c1 z.2
  obtain ⟨F, E, f1, f2, f3, f4, f5⟩ := exp_ex c1 c2 hd7 hd15 z.2
  have hfl := @quo_floor a b kx ky (dn + 2 + cdg b - cdg a) E D F qn hb f3 f4 f2 hbg
  rw [hn] at hfl
  have hlt : n < 10 ^ dn * 10 ^ D := by rw [← Nat.pow_add, ← hD]; exact cdg_lt_pow
  have h1 : n / 10 ^ D < 10 ^ dn := (Nat.div_lt_iff_lt_mul (Nat.pow_pos (by decide))).mpr hlt
  have h2 : qn ≤ 10 ^ dn := le_up h1 (hq.2.imp id fun x => ⟨x.1, trivial⟩)
  obtain ⟨m1, m2, m3⟩ := pow_le15 h2 hd15 hq.1 hj
  exact ⟨F, f1, hfl hq.2, m1, m2, f5, m3⟩
theorem range_nat {j F : Nat} {e : Int} (h : e = (j : Int) - F) (hj : j ≤ 15) (hF : F ≤ 40) : -40 ≤ e ∧ e ≤ 40 := by omega
theorem neg_of {m' : Int} {q j : Nat} (h : -(q : Int) = m' * 10 ^ j) (hq : 1 ≤ q) : m' < 0 := by
  rcases Int.lt_or_le m' 0 with h' | h'
  · exact h'
  · have := Int.mul_nonneg h' (Int.le_of_lt (pow10_pos j)); rw [← h] at this; omega
theorem pos_of {m' : Int} {q j : Nat} (h : (q : Int) = m' * 10 ^ j) (hq : 1 ≤ q) : 0 < m' := by
  rcases Int.lt_or_le 0 m' with h' | h'
  · exact h'
  · have := Int.mul_nonpos_of_nonpos_of_nonneg h' (Int.le_of_lt (pow10_pos j)); rw [← h] at this; omega
theorem neg_lt {n : Nat} : ¬ (0 < -(n : Int)) := by omega
theorem pos_lt {n : Nat} (h : 1 ≤ n) : (0 : Int) < n := by omega
theorem quo_one {a b s : Nat} (h : 7 ≤ cdg (quoN a b s)) : 1 ≤ quoN a b s := by
  rcases Nat.eq_zero_or_pos (quoN a b s) with h' | h'
  · rw [h', cdg_zero] at h; exact absurd h (by decide)
  · exact h'
theorem div_end {x y ex ey d m e q m' e' t1 t2 : Int} {j : Nat} (hx : x ≠ 0) (hy : y ≠ 0) (hex : -1 ≤ ex) (hey : -1 ≤ ey) (hv1 : t1 = x * 10 ^ (ex + 1).toNat) (hv2 : t2 = y * 10 ^ (ey + 1).toNat)
    (hb1 : t1.natAbs < 1000) (hb2 : t2.natAbs < 1000) (hd7 : 7 ≤ d) (hd15 : d ≤ 15) (_hcy : cdg y.natAbs ≤ 4)
    (hm : m = if (decide (x < 0) != decide (y < 0)) = true then -(quoN x.natAbs y.natAbs (d + 2 + (cdg y.natAbs : Int) - cdg x.natAbs).toNat : Int) else (quoN x.natAbs y.natAbs (d + 2 + (cdg y.natAbs : Int) - cdg x.natAbs).toNat : Int))
    (he : e = (ex - ey) - (d + 2 + (cdg y.natAbs : Int) - cdg x.natAbs) - 1)
    (hj : (if 0 < m then q else -q) = m' * 10 ^ j) (he' : e' = e + ((cdg m.natAbs : Int) - d) + j) (hR : Rnd q m.natAbs (10 ^ ((cdg m.natAbs : Int) - d).toNat)) :
    tr m' e' = tdv t1 t2 ∧ m'.natAbs < 4611686018427387904 ∧ -40 ≤ e' ∧ e' ≤ 40 := by
  obtain ⟨kx, hkx⟩ := Int.eq_ofNat_of_zero_le (a := ex + 1) (by omega)
  obtain ⟨ky, hky⟩ := Int.eq_ofNat_of_zero_le (a := ey + 1) (by omega)
  obtain ⟨dn, hdn⟩ := Int.eq_ofNat_of_zero_le (a := d) (by omega)
  obtain ⟨qn, rfl⟩ := Int.eq_ofNat_of_zero_le (a := q) (Int.le_trans (by decide) hR.1)
  rw [hkx, Int.toNat_natCast] at hv1
  rw [hky, Int.toNat_natCast] at hv2
  obtain ⟨s1, a1⟩ := sign_mul10 hv1
  obtain ⟨s2, a2⟩ := sign_mul10 hv2
  rw [a1] at hb1
  rw [a2] at hb2
  have ha : 1 ≤ x.natAbs := Int.natAbs_pos.mpr hx
  have hb : 1 ≤ y.natAbs := Int.natAbs_pos.mpr hy
  have h7 : 7 ≤ dn := by rw [hdn] at hd7; exact_mod_cast hd7
  have h15 : dn ≤ 15 := by rw [hdn] at hd15; exact_mod_cast hd15
  have c1 : cdg x.natAbs ≤ 3 := le_of_add1 (cdg_small ha hb1)
  have hm2 := hm
  rw [hdn, shift_nat (Nat.le_trans c1 (Nat.le_trans (by decide) h7))] at hm2
  have z := (quoN_size (a := x.natAbs) (b := y.natAbs) (d := dn) ha hb h7 (Nat.le_trans c1 (by decide))).1
  have hn1 := quo_one (Nat.le_trans h7 (Nat.le_of_lt z))
  generalize hn : quoN x.natAbs y.natAbs (dn + 2 + cdg y.natAbs - cdg x.natAbs) = n at hm2 z hn1
  have hmn : m.natAbs = n := by rw [hm2]; exact abs_ite
  rw [hmn] at he' hR
  obtain ⟨D, hD⟩ := Nat.exists_eq_add_of_le (Nat.le_of_lt z)
  rw [hdn, rest_nat hD] at hR
  have hjq : qn = m'.natAbs * 10 ^ j := by
    have h1 : (if 0 < m then (qn : Int) else -(qn : Int)).natAbs = qn := ite_abs
    rw [← h1, hj, Int.natAbs_mul, Int.natAbs_pow]; rfl
  obtain ⟨F, f1, f2, f3, f4, f5, f6⟩ := div_nat ha hb hb1 hb2 h7 h15 hn hD (rnd_nat hR) hjq
  have he2 : e' = (j : Int) - (F : Nat) := exp_sum hkx hky hdn he he' hD f1
  refine ⟨?_, f3, range_nat he2 f4 f5⟩
  have hq1 := (rnd_nat hR).1
  unfold tdv
  rw [s1, s2, a1, a2, ← f2]
  by_cases hc : (decide (x < 0) != decide (y < 0)) = true
  · rw [if_pos hc] at hm2 ⊢
    rw [hm2, if_neg neg_lt] at hj
    exact tr_neg (neg_of hj hq1) hjq he2
  · rw [if_neg hc] at hm2 ⊢
    rw [hm2, if_pos (pos_lt hn1)] at hj
    exact tr_pos (pos_of hj hq1) hjq he2

theorem quo_facts {x y d : Int} (hcx : cdg x.natAbs ≤ 4) (hd7 : 7 ≤ d) (hy : y ≠ 0) :
    (if 0 > d + 2 + (cdg y.natAbs : Int) - cdg x.natAbs then 0 else d + 2 + (cdg y.natAbs : Int) - cdg x.natAbs) = d + 2 + (cdg y.natAbs : Int) - cdg x.natAbs ∧
    ((if x < 0 then -x else x) * 10 ^ (if 0 > d + 2 + (cdg y.natAbs : Int) - cdg x.natAbs then 0 else d + 2 + (cdg y.natAbs : Int) - cdg x.natAbs).toNat).fdiv (if y < 0 then -y else y) = ((x.natAbs * 10 ^ (d + 2 + (cdg y.natAbs : Int) - cdg x.natAbs).toNat / y.natAbs : Nat) : Int) ∧
    ((if x < 0 then -x else x) * 10 ^ (if 0 > d + 2 + (cdg y.natAbs : Int) - cdg x.natAbs then 0 else d + 2 + (cdg y.natAbs : Int) - cdg x.natAbs).toNat).fmod (if y < 0 then -y else y) = ((x.natAbs * 10 ^ (d + 2 + (cdg y.natAbs : Int) - cdg x.natAbs).toNat % y.natAbs : Nat) : Int) := by
  have e1 : (if x < 0 then -x else x) = (x.natAbs : Int) := by split <;> omega
  have e2 : (if y < 0 then -y else y) = (y.natAbs : Int) := by split <;> omega
  have e3 : (if 0 > d + 2 + (cdg y.natAbs : Int) - cdg x.natAbs then 0 else d + 2 + (cdg y.natAbs : Int) - cdg x.natAbs) = d + 2 + (cdg y.natAbs : Int) - cdg x.natAbs := if_neg (by omega)
  refine ⟨e3, ?_, ?_⟩
  · rw [e1, e2, e3, fdiv_pos (by omega)]
    push_cast
    rfl
  · rw [e1, e2, e3, Int.fmod_eq_emod_of_nonneg _ (by omega)]
    push_cast
    rfl
theorem quo_m1 {c : Bool} {F R : Int} {a b s : Nat} (hK : F = ((a * 10 ^ s / b : Nat) : Int)) (hR : R = ((a * 10 ^ s % b : Nat) : Int)) (hc : c = true) (h : R ≠ 0) : -(10 * F + 1) = if c = true then -(quoN a b s : Int) else (quoN a b s : Int) := by
  rw [if_pos hc, quoN, if_neg (by omega)]; omega
theorem quo_m2 {c : Bool} {F R : Int} {a b s : Nat} (hK : F = ((a * 10 ^ s / b : Nat) : Int)) (hR : R = ((a * 10 ^ s % b : Nat) : Int)) (hc : c = true) (h : R = 0) : -(10 * F + 0) = if c = true then -(quoN a b s : Int) else (quoN a b s : Int) := by
  rw [if_pos hc, quoN, if_pos (by omega)]; omega
theorem quo_m3 {c : Bool} {F R : Int} {a b s : Nat} (hK : F = ((a * 10 ^ s / b : Nat) : Int)) (hR : R = ((a * 10 ^ s % b : Nat) : Int)) (hc : c = false) (h : R ≠ 0) : 10 * F + 1 = if c = true then -(quoN a b s : Int) else (quoN a b s : Int) := by
  rw [if_neg (by rw [hc]; decide), quoN, if_neg (by omega)]; omega
theorem quo_m4 {c : Bool} {F R : Int} {a b s : Nat} (hK : F = ((a * 10 ^ s / b : Nat) : Int)) (hR : R = ((a * 10 ^ s % b : Nat) : Int)) (hc : c = false) (h : R = 0) : 10 * F + 0 = if c = true then -(quoN a b s : Int) else (quoN a b s : Int) := by
  rw [if_neg (by rw [hc]; decide), quoN, if_pos (by omega)]; omega
theorem quo_pack {x y e d m' e' : Int} (hx : x ≠ 0) (hy : y ≠ 0) (hcx : cdg x.natAbs ≤ 4) (hcy : cdg y.natAbs ≤ 4) (hcx1 : 1 ≤ cdg x.natAbs) (hcy1 : 1 ≤ cdg y.natAbs) (hd7 : 7 ≤ d) (hd15 : d ≤ 15) (he3 : -3 ≤ e) (he4 : e ≤ 3)
    (he : e' = e - (d + 2 + (cdg y.natAbs : Int) - cdg x.natAbs) - 1)
    (hm : m' = if (decide (x < 0) != decide (y < 0)) = true then -(quoN x.natAbs y.natAbs (d + 2 + (cdg y.natAbs : Int) - cdg x.natAbs).toNat : Int) else (quoN x.natAbs y.natAbs (d + 2 + (cdg y.natAbs : Int) - cdg x.natAbs).toNat : Int)) :
    e' = e - (d + 2 + (cdg y.natAbs : Int) - cdg x.natAbs) - 1 ∧ (m' = if (decide (x < 0) != decide (y < 0)) = true then -(quoN x.natAbs y.natAbs (d + 2 + (cdg y.natAbs : Int) - cdg x.natAbs).toNat : Int) else (quoN x.natAbs y.natAbs (d + 2 + (cdg y.natAbs : Int) - cdg x.natAbs).toNat : Int)) ∧
      m' ≠ 0 ∧ d < (cdg m'.natAbs : Int) ∧ (cdg m'.natAbs : Int) ≤ 20 ∧ -38 ≤ e' ∧ e' ≤ 0 := by
  refine ⟨he, hm, ?_⟩
  obtain ⟨dn, rfl⟩ : ∃ dn : Nat, d = dn := ⟨d.toNat, by omega⟩
  have hsh : ((dn : Int) + 2 + (cdg y.natAbs : Int) - cdg x.natAbs).toNat = dn + 2 + cdg y.natAbs - cdg x.natAbs := by omega
  rw [hsh] at hm
  obtain ⟨z1, z2⟩ := quoN_size (a := x.natAbs) (b := y.natAbs) (d := dn) (by omega) (by omega) (by omega) (by omega)
  generalize quoN x.natAbs y.natAbs (dn + 2 + cdg y.natAbs - cdg x.natAbs) = n at *
  have hmn : m'.natAbs = n := by rw [hm]; split <;> omega
  rw [hmn]
  have hn0 : n ≠ 0 := by rintro rfl; rw [cdg_zero] at z1; omega
  refine ⟨by omega, by omega, by omega, by omega, by omega⟩
theorem c_quo (w : World) (news : List (Addr × Obj)) (x y e d : Int) (tx ty te td : Tok) (hx : x ≠ 0) (hx1 : x.natAbs < 10000) (hy : y ≠ 0) (hy1 : y.natAbs < 10000) (hcx : cdg x.natAbs ≤ 4) (hcx1 : 1 ≤ cdg x.natAbs) (hcy : cdg y.natAbs ≤ 4) (hcy1 : 1 ≤ cdg y.natAbs) (hd7 : 7 ≤ d) (hd15 : d ≤ 15) (he3 : -3 ≤ e) (he4 : e ≤ 3) :
    Con w 180 4 [.int x tx, .int y ty, .int e te, .int d td] news (fun r tl => ∃ (D : Addr) (m' e' : Int) (u v : Tok), r = .ref D ∧ tl = [(D, ({ cls := .type "tuple", data := .seq #[.int m' u, .int e' v] } : Obj))] ∧ e' = e - (d + 2 + (cdg y.natAbs : Int) - cdg x.natAbs) - 1 ∧
      (m' = if (decide (x < 0) != decide (y < 0)) = true then -(quoN x.natAbs y.natAbs (d + 2 + (cdg y.natAbs : Int) - cdg x.natAbs).toNat : Int) else (quoN x.natAbs y.natAbs (d + 2 + (cdg y.natAbs : Int) - cdg x.natAbs).toNat : Int)) ∧ m' ≠ 0 ∧ d < (cdg m'.natAbs : Int) ∧ (cdg m'.natAbs : Int) ≤ 20 ∧ -38 ≤ e' ∧ e' ≤ 0) := by
  obtain ⟨q1, q2, q3⟩ := quo_facts (y := y) hcx hd7 hy
  k_with_none
  k_with "my return" => (k_here; exfalso; with_reducible contradiction)
  k_with "my call" => (k_here; (with_reducible show wpAny _ _ (call (Value.ref 131) _) _ _ _); k_dflt (focus ((refine' Con.use (c_count _ _ _ _) ?_ ?_ ?_ ?_ ?_ ?_ ?_ ?_ ?_); (walk_at "my use"); intro r9 tl9 h9 tk9 F9 N9 hR9; (try dsimp only at hR9); obtain ⟨ea9, t9, eb9⟩ := hR9; subst ea9; subst eb9; (try simp only [List.nil_append] at N9); (try dsimp only); (try k_fold))))
  (have fl9 : Filled KT PySem.Challenge.rw_sa0214_01 := (by k_fill; exact True.intro); intro loose mean mg mb dp un gd cn cs ad ccd cl outer A₀ base h₀ L mf s Q E B F X N T hk hd hu hret; refine wpAny_call ?_; k_dflt cell_enter)
  k_steps
  all_goals (
    refine' ret2 hret ?zF ?zN ?zR
    case zF => k_asm
    case zN => (first | (refine sub_drop (by with_reducible assumption) ?_; (try simp only [List.nil_append, List.cons_append]); (with_reducible (repeat' (first | exact fun _ h => h | refine sub_same ?_ | refine sub_more ?_))); done) | k_asm | (refine sub_drop (by assumption) ?_; repeat' (first | exact fun _ h => h | refine sub_same ?_ | refine sub_more ?_)))
    case zR =>
      refine ⟨_, _, _, _, _, rfl, rfl, quo_pack hx hy hcx hcy hcx1 hcy1 hd7 hd15 he3 he4 (by rw [q1]) ?_⟩
      first
      | exact quo_m1 q2 q3 (by assumption) (by assumption)
      | exact quo_m2 q2 q3 (by assumption) (by assumption)
      | exact quo_m3 q2 q3 (by assumption) (by assumption)
      | exact quo_m4 q2 q3 (by assumption) (by assumption))
theorem quo0_facts {y d : Int} :
    ((if (0 : Int) < 0 then -0 else 0) * 10 ^ (if 0 > d + 2 + (cdg y.natAbs : Int) - cdg (0 : Int).natAbs then 0 else d + 2 + (cdg y.natAbs : Int) - cdg (0 : Int).natAbs).toNat).fdiv (if y < 0 then -y else y) = 0 ∧
    ((if (0 : Int) < 0 then -0 else 0) * 10 ^ (if 0 > d + 2 + (cdg y.natAbs : Int) - cdg (0 : Int).natAbs then 0 else d + 2 + (cdg y.natAbs : Int) - cdg (0 : Int).natAbs).toNat).fmod (if y < 0 then -y else y) = 0 := by
  rw [if_neg (by omega), Int.zero_mul]
  exact ⟨Int.zero_fdiv _, Int.zero_fmod _⟩
theorem c_quo0 (w : World) (news : List (Addr × Obj)) (y e d : Int) (tx ty te td : Tok) (hy : y ≠ 0) (hy1 : y.natAbs < 10000) (hcy : cdg y.natAbs ≤ 4) (hcy1 : 1 ≤ cdg y.natAbs) (hd7 : 7 ≤ d) (hd15 : d ≤ 15) :
    Con w 180 4 [.int 0 tx, .int y ty, .int e te, .int d td] news (fun r tl => ∃ (D : Addr) (m' e' : Int) (u v : Tok), r = .ref D ∧ tl = [(D, ({ cls := .type "tuple", data := .seq #[.int m' u, .int e' v] } : Obj))] ∧ m' = 0) := by
  obtain ⟨q2, q3⟩ := quo0_facts (y := y) (d := d)
  have q4 : cdg (0 : Int).natAbs = 0 := cdg_zero
  k_with_none
  k_with "my return" => (k_here; exfalso; with_reducible contradiction)
  k_with "my call" => (k_here; (with_reducible show wpAny _ _ (call (Value.ref 131) _) _ _ _); k_dflt (focus ((refine' Con.use (c_count _ _ _ _) ?_ ?_ ?_ ?_ ?_ ?_ ?_ ?_ ?_); (walk_at "my use"); intro r9 tl9 h9 tk9 F9 N9 hR9; (try dsimp only at hR9); obtain ⟨ea9, t9, eb9⟩ := hR9; subst ea9; subst eb9; (try simp only [List.nil_append] at N9); (try dsimp only); (try k_fold))))
  (have fl9 : Filled KT PySem.Challenge.rw_sa0214_01 := (by k_fill; exact True.intro); intro loose mean mg mb dp un gd cn cs ad ccd cl outer A₀ base h₀ L mf s Q E B F X N T hk hd hu hret; refine wpAny_call ?_; k_dflt cell_enter)
  k_steps
  all_goals first
  | (exfalso; contradiction)
  | (refine' ret2 hret ?zF ?zN ?zR
     case zF => k_asm
     case zN => (first | (refine sub_drop (by with_reducible assumption) ?_; (try simp only [List.nil_append, List.cons_append]); (with_reducible (repeat' (first | exact fun _ h => h | refine sub_same ?_ | refine sub_more ?_))); done) | k_asm | (refine sub_drop (by assumption) ?_; repeat' (first | exact fun _ h => h | refine sub_same ?_ | refine sub_more ?_)))
     case zR => exact ⟨_, _, _, _, _, rfl, rfl, by rw [q2]; rfl⟩)

theorem c_rti0 (w : World) (news : List (Addr × Obj)) : Con w 222 4 [.ref 124] news (fun r tl => tl = [] ∧ ∃ t, r = .int 0 t) := by
  k_with_none
  k_with "my return" => (k_here; exfalso; with_reducible contradiction)
  (have fl9 : Filled KT PySem.Challenge.rw_sa0214_01 := (by k_fill; exact True.intro); intro loose mean mg mb dp un gd cn cs ad ccd cl outer A₀ base h₀ L mf s Q E B F X N T hk hd hu hret; refine wpAny_call ?_; k_dflt cell_enter)
  k_steps
  all_goals (refine hret _ [] _ _ (by k_asm) (by k_asm) ⟨rfl, eq_int (by decide)⟩)
theorem rti_fact {m e : Int} : (if m < 0 then -m else m).fdiv (10 ^ (-e).toNat) = ((m.natAbs / 10 ^ (-e).toNat : Nat) : Int) := by
  have e1 : (if m < 0 then -m else m) = (m.natAbs : Int) := by split <;> omega
  rw [e1, fdiv_pos (pow10_pos _)]
  push_cast
  rfl
local macro_rules | `(tactic| walk_at "binaryOp FloorDiv int int") => `(tactic| (k_here; (with_reducible show wpAny _ _ (binaryOp _ (Value.int _ _) (Value.int (10 ^ _) _)) _ _ _); (with_reducible refine floordiv_int ?k1 ?_ (Or.inl (pow10_py ?k2))); (case k1 => exact Int.ne_of_gt (pow10_pos _)); (case k2 => omega)))
theorem c_rti (w : World) (news : List (Addr × Obj)) (D : Addr) (m e : Int) (u v : Tok) (hm : (D, ({ cls := .type "tuple", data := .seq #[.int m u, .int e v] } : Obj)) ∈ news) (hb : m.natAbs < 4611686018427387904) (he1 : -40 ≤ e) (he2 : e ≤ 40) : Con w 222 4 [.ref D] news (fun r tl => tl = [] ∧ ∃ t, r = .int (tr m e) t) := by
  have q1 := rti_fact (m := m) (e := e)
  k_with_none
  k_with "my return" => (k_here; exfalso; with_reducible contradiction)
  (have fl9 : Filled KT PySem.Challenge.rw_sa0214_01 := (by k_fill; exact True.intro); intro loose mean mg mb dp un gd cn cs ad ccd cl outer A₀ base h₀ L mf s Q E B F X N T hk hd hu hret; refine wpAny_call ?_; k_dflt cell_enter)
  k_steps
  all_goals (
    refine hret _ [] _ _ (by k_asm) (by k_asm) ⟨rfl, eq_int ?_⟩
    unfold tr
    first
    | exact (if_pos (by assumption)).symm
    | (rw [q1, if_neg (by assumption), if_pos (by assumption)])
    | (rw [q1, if_neg (by assumption), if_neg (by assumption)]))
/-- what real_div hands back: a number that is cut off to z -/
def Quo (z : Int) (r : Value) (tl : List (Addr × Obj)) : Prop := (z = 0 ∧ tl = [] ∧ r = .ref 124) ∨ (∃ (D : Addr) (m e : Int) (u v : Tok), r = .ref D ∧ tl = [(D, ({ cls := .type "tuple", data := .seq #[.int m u, .int e v] } : Obj))] ∧ tr m e = z ∧ m.natAbs < 4611686018427387904 ∧ -40 ≤ e ∧ e ≤ 40)
section
variable (w : World) (news : List (Addr × Obj)) (D1 D2 : Addr) (d : Int) (td tt : Tok) (t1 t2 : Int)
theorem c_div_tt (m1 e1 : Int) (u1 v1 : Tok) (hm1 : (D1, ({ cls := .type "tuple", data := .seq #[.int m1 u1, .int e1 v1] } : Obj)) ∈ news) (n1 : m1 ≠ 0) (he1 : -1 ≤ e1) (hv1 : t1 = m1 * 10 ^ (e1 + 1).toNat) (hb1 : t1.natAbs < 1000)
    (m2 e2 : Int) (u2 v2 : Tok) (hm2 : (D2, ({ cls := .type "tuple", data := .seq #[.int m2 u2, .int e2 v2] } : Obj)) ∈ news) (n2 : m2 ≠ 0) (he2 : -1 ≤ e2) (hv2 : t2 = m2 * 10 ^ (e2 + 1).toNat) (hb2 : t2.natAbs < 1000) (hd7 : 7 ≤ d) (hd15 : d ≤ 15) :
    Con w 208 9 [.ref D1, .ref D2, .int d td, .int 38 tt] news (fun r tl => Quo (tdv t1 t2) r tl) := by
  obtain ⟨f1, f2, f3, f4, f5, f6⟩ := nm_facts n1 he1 hv1 (by omega)
  obtain ⟨g1, g2, g3, g4, g5, g6⟩ := nm_facts n2 he2 hv2 (by omega)
  k_with_none
  k_with "my return" => (k_here; exfalso; with_reducible contradiction)
  k_with "my call" => (k_here; (with_reducible show wpAny _ _ (call (Value.ref 152) _) _ _ _); k_dflt (focus ((refine' Con.use (c_rr0 _ _ _ _ _ _ _ _ _ ?_ ?_) ?_ ?_ ?_ ?_ ?_ ?_ ?_ ?_ ?_); (walk_at "my use"); (· first | with_reducible assumption | omega | k_extra "hz"); (· first | with_reducible assumption | omega); intro r9 tl9 h9 tk9 F9 N9 hR9; obtain ⟨ea9, eb9⟩ := hR9; subst ea9; subst eb9; (try simp only [List.nil_append] at N9); (try dsimp only); (try k_fold))))
  k_with "my call" => (k_here; (with_reducible show wpAny _ _ (call (Value.ref 152) _) _ _ _); k_dflt (focus ((refine' Con.use (c_rrS _ _ _ _ _ _ _ _ _ ?_ ?_ ?_ ?_) ?_ ?_ ?_ ?_ ?_ ?_ ?_ ?_ ?_); (walk_at "my use"); (· first | with_reducible assumption | omega | k_extra "hp"); (· first | with_reducible assumption | omega | k_extra "hq"); (· first | with_reducible assumption | omega | k_extra "hr"); (· first | with_reducible assumption | omega | k_extra "ht"); intro r9 tl9 h9 tk9 F9 N9 hR9; obtain ⟨D9, u9, v9, m9, e9, j9, ea9, eb9, hm9, he9, hn9⟩ := hR9; subst ea9; subst eb9; (try simp only [List.nil_append, List.cons_append] at N9); (try dsimp only); (try k_fold))))
  k_with "my call" => (k_here; (with_reducible show wpAny _ _ (call (Value.ref 152) _) _ _ _); k_dflt (focus ((refine' Con.use (c_rrB _ _ _ _ _ _ _ _ _ ?_ ?_ ?_ ?_ ?_ ?_) ?_ ?_ ?_ ?_ ?_ ?_ ?_ ?_ ?_); (walk_at "my use"); (· first | with_reducible assumption | omega); (· first | with_reducible assumption | omega); (· first | with_reducible assumption | omega); (· first | with_reducible assumption | omega); (· first | with_reducible assumption | omega); (· first | with_reducible assumption | omega); intro r9 tl9 h9 tk9 F9 N9 hR9; obtain ⟨D9, u9, v9, m9, e9, j9, q9, ea9, eb9, hm9, he9, hn9, ho9⟩ := hR9; subst ea9; subst eb9; (try simp only [List.nil_append, List.cons_append] at N9); (try dsimp only); (try k_fold))))
  k_with "my call" => (k_here; (with_reducible show wpAny _ _ (call (Value.ref 180) _) _ _ _); k_dflt (focus ((refine' Con.use (c_quo _ _ _ _ _ _ _ _ _ _ ?_ ?_ ?_ ?_ ?_ ?_ ?_ ?_ ?_ ?_ ?_ ?_) ?_ ?_ ?_ ?_ ?_ ?_ ?_ ?_ ?_); (walk_at "my use"); (· first | with_reducible assumption | omega); (· first | with_reducible assumption | omega); (· first | with_reducible assumption | omega); (· first | with_reducible assumption | omega); (· first | with_reducible assumption | omega); (· first | with_reducible assumption | omega); (· first | with_reducible assumption | omega); (· first | with_reducible assumption | omega); (· first | with_reducible assumption | omega); (· first | with_reducible assumption | omega); (· first | with_reducible assumption | omega); (· first | with_reducible assumption | omega); intro r9 tl9 h9 tk9 F9 N9 hR9; obtain ⟨D9, m9, e9, u9, v9, ea9, eb9, he9, hm9, hn9, ho9, hp9, hq9, hs9⟩ := hR9; subst ea9; subst eb9; (try simp only [List.nil_append, List.cons_append] at N9); (try dsimp only); (try k_fold))))
  k_with "my call" => (k_here; (with_reducible show wpAny _ _ (call (Value.ref 180) _) _ _ _); k_dflt (focus ((refine' Con.use (c_quo0 _ _ _ _ _ _ _ _ _ ?_ ?_ ?_ ?_ ?_ ?_) ?_ ?_ ?_ ?_ ?_ ?_ ?_ ?_ ?_); (walk_at "my use"); (· first | with_reducible assumption | omega); (· first | with_reducible assumption | omega); (· first | with_reducible assumption | omega); (· first | with_reducible assumption | omega); (· first | with_reducible assumption | omega); (· first | with_reducible assumption | omega); intro r9 tl9 h9 tk9 F9 N9 hR9; obtain ⟨D9, m9, e9, u9, v9, ea9, eb9, hm9⟩ := hR9; subst ea9; subst eb9; (try simp only [List.nil_append, List.cons_append] at N9); (try dsimp only); (try k_fold))))
  (have fl9 : Filled KT PySem.Challenge.rw_sa0214_01 := (by k_fill; exact True.intro); intro loose mean mg mb dp un gd cn cs ad ccd cl outer A₀ base h₀ L mf s Q E B F X N T hk hd hu hret; refine wpAny_call ?_; k_dflt cell_enter)
  k_steps
  all_goals first
  | (exfalso; contradiction)
  | (rename (_ = _ * 10 ^ _) => hj
     have hr := div_end n1 n2 he1 he2 hv1 hv2 hb1 hb2 hd7 hd15 g2 (by assumption) (by assumption) hj (by assumption) (by assumption)
     refine' ret2 hret ?zF ?zN ?zR
     case zF => k_asm
     case zN => (first | (refine sub_drop (by with_reducible assumption) ?_; (try simp only [List.nil_append, List.cons_append]); (with_reducible (repeat' (first | exact fun _ h => h | refine sub_same ?_ | refine sub_more ?_))); done) | k_asm | (refine sub_drop (by assumption) ?_; repeat' (first | exact fun _ h => h | refine sub_same ?_ | refine sub_more ?_)))
     case zR => exact Or.inr ⟨_, _, _, _, _, rfl, rfl, hr.1, hr.2⟩)
theorem c_div_nt (m2 e2 : Int) (u2 v2 : Tok) (hm2 : (D2, ({ cls := .type "tuple", data := .seq #[.int m2 u2, .int e2 v2] } : Obj)) ∈ news) (n2 : m2 ≠ 0) (he2 : -1 ≤ e2) (hv2 : t2 = m2 * 10 ^ (e2 + 1).toNat) (hb2 : t2.natAbs < 1000) (hd7 : 7 ≤ d) (hd15 : d ≤ 15) :
    Con w 208 9 [.ref 124, .ref D2, .int d td, .int 38 tt] news (fun r tl => Quo 0 r tl) := by
  obtain ⟨g1, g2, g3, g4, g5, g6⟩ := nm_facts n2 he2 hv2 (by omega)
  k_with_none
  k_with "my return" => (k_here; exfalso; with_reducible contradiction)
  k_with "my call" => (k_here; (with_reducible show wpAny _ _ (call (Value.ref 152) _) _ _ _); k_dflt (focus ((refine' Con.use (c_rr0 _ _ _ _ _ _ _ _ _ ?_ ?_) ?_ ?_ ?_ ?_ ?_ ?_ ?_ ?_ ?_); (walk_at "my use"); (· first | with_reducible assumption | omega | k_extra "hz"); (· first | with_reducible assumption | omega); intro r9 tl9 h9 tk9 F9 N9 hR9; obtain ⟨ea9, eb9⟩ := hR9; subst ea9; subst eb9; (try simp only [List.nil_append] at N9); (try dsimp only); (try k_fold))))
  k_with "my call" => (k_here; (with_reducible show wpAny _ _ (call (Value.ref 152) _) _ _ _); k_dflt (focus ((refine' Con.use (c_rrS _ _ _ _ _ _ _ _ _ ?_ ?_ ?_ ?_) ?_ ?_ ?_ ?_ ?_ ?_ ?_ ?_ ?_); (walk_at "my use"); (· first | with_reducible assumption | omega | k_extra "hp"); (· first | with_reducible assumption | omega | k_extra "hq"); (· first | with_reducible assumption | omega | k_extra "hr"); (· first | with_reducible assumption | omega | k_extra "ht"); intro r9 tl9 h9 tk9 F9 N9 hR9; obtain ⟨D9, u9, v9, m9, e9, j9, ea9, eb9, hm9, he9, hn9⟩ := hR9; subst ea9; subst eb9; (try simp only [List.nil_append, List.cons_append] at N9); (try dsimp only); (try k_fold))))
  k_with "my call" => (k_here; (with_reducible show wpAny _ _ (call (Value.ref 152) _) _ _ _); k_dflt (focus ((refine' Con.use (c_rrB _ _ _ _ _ _ _ _ _ ?_ ?_ ?_ ?_ ?_ ?_) ?_ ?_ ?_ ?_ ?_ ?_ ?_ ?_ ?_); (walk_at "my use"); (· first | with_reducible assumption | omega); (· first | with_reducible assumption | omega); (· first | with_reducible assumption | omega); (· first | with_reducible assumption | omega); (· first | with_reducible assumption | omega); (· first | with_reducible assumption | omega); intro r9 tl9 h9 tk9 F9 N9 hR9; obtain ⟨D9, u9, v9, m9, e9, j9, q9, ea9, eb9, hm9, he9, hn9, ho9⟩ := hR9; subst ea9; subst eb9; (try simp only [List.nil_append, List.cons_append] at N9); (try dsimp only); (try k_fold))))
  k_with "my call" => (k_here; (with_reducible show wpAny _ _ (call (Value.ref 180) _) _ _ _); k_dflt (focus ((refine' Con.use (c_quo _ _ _ _ _ _ _ _ _ _ ?_ ?_ ?_ ?_ ?_ ?_ ?_ ?_ ?_ ?_ ?_ ?_) ?_ ?_ ?_ ?_ ?_ ?_ ?_ ?_ ?_); (walk_at "my use"); (· first | with_reducible assumption | omega); (· first | with_reducible assumption | omega); (· first | with_reducible assumption | omega); (· first | with_reducible assumption | omega); (· first | with_reducible assumption | omega); (· first | with_reducible assumption | omega); (· first | with_reducible assumption | omega); (· first | with_reducible assumption | omega); (· first | with_reducible assumption | omega); (· first | with_reducible assumption | omega); (· first | with_reducible assumption | omega); (· first | with_reducible assumption | omega); intro r9 tl9 h9 tk9 F9 N9 hR9; obtain ⟨D9, m9, e9, u9, v9, ea9, eb9, he9, hm9, hn9, ho9, hp9, hq9, hs9⟩ := hR9; subst ea9; subst eb9; (try simp only [List.nil_append, List.cons_append] at N9); (try dsimp only); (try k_fold))))
  k_with "my call" => (k_here; (with_reducible show wpAny _ _ (call (Value.ref 180) _) _ _ _); k_dflt (focus ((refine' Con.use (c_quo0 _ _ _ _ _ _ _ _ _ ?_ ?_ ?_ ?_ ?_ ?_) ?_ ?_ ?_ ?_ ?_ ?_ ?_ ?_ ?_); (walk_at "my use"); (· first | with_reducible assumption | omega); (· first | with_reducible assumption | omega); (· first | with_reducible assumption | omega); (· first | with_reducible assumption | omega); (· first | with_reducible assumption | omega); (· first | with_reducible assumption | omega); intro r9 tl9 h9 tk9 F9 N9 hR9; obtain ⟨D9, m9, e9, u9, v9, ea9, eb9, hm9⟩ := hR9; subst ea9; subst eb9; (try simp only [List.nil_append, List.cons_append] at N9); (try dsimp only); (try k_fold))))
  (have fl9 : Filled KT PySem.Challenge.rw_sa0214_01 := (by k_fill; exact True.intro); intro loose mean mg mb dp un gd cn cs ad ccd cl outer A₀ base h₀ L mf s Q E B F X N T hk hd hu hret; refine wpAny_call ?_; k_dflt cell_enter)
  k_steps
  all_goals first
  | (exfalso; contradiction)
  | (refine hret _ [] _ _ (by k_asm) (by first | k_asm | (first | (refine sub_drop (by with_reducible assumption) ?_; (try simp only [List.nil_append, List.cons_append]); (with_reducible (repeat' (first | exact fun _ h => h | refine sub_same ?_ | refine sub_more ?_))); done) | k_asm | (refine sub_drop (by assumption) ?_; repeat' (first | exact fun _ h => h | refine sub_same ?_ | refine sub_more ?_)))) (Or.inl ⟨rfl, rfl, rfl⟩))
theorem c_div (h1 : Nm news D1 t1) (h2 : Nm news D2 t2) (n2 : t2 ≠ 0) (hb1 : t1.natAbs < 1000) (hb2 : t2.natAbs < 1000) (hd7 : 7 ≤ d) (hd15 : d ≤ 15) :
    Con w 208 9 [.ref D1, .ref D2, .int d td, .int 38 tt] news (fun r tl => Quo (tdv t1 t2) r tl) := by
  rcases h2 with ⟨z2, hD2⟩ | ⟨m2, e2, u2, v2, mem2, n2, he2, hv2⟩
  · exact absurd z2 n2
  · rcases h1 with ⟨z1, hD1⟩ | ⟨m1, e1, u1, v1, mem1, n1, he1, hv1⟩
    · subst z1; subst hD1
      have e0 : tdv 0 t2 = 0 := by unfold tdv; split <;> simp
      rw [e0]
      exact c_div_nt w news D2 d td tt t2 m2 e2 u2 v2 mem2 n2 he2 hv2 hb2 hd7 hd15
    · exact c_div_tt w news D1 D2 d td tt t1 t2 m1 e1 u1 v1 mem1 n1 he1 hv1 hb1 m2 e2 u2 v2 mem2 n2 he2 hv2 hb2 hd7 hd15
end

theorem fit_e : (1 : Int) * 2 ^ ((32 : Int) - 1).toNat = 2147483648 := by decide
theorem nm0 {news : List (Addr × Obj)} : Nm news 124 0 := Or.inl ⟨rfl, rfl⟩
theorem c_worth (w : World) (news : List (Addr × Obj)) (k t : Int) (tk tt : Tok) (hk12 : k = 1 ∨ k = 2) (hb : t.natAbs < 10000) : Con w 300 8 [.int k tk, .int t tt] news (fun r tl => Res t r tl) := by
  have hc : cdg t.natAbs ≤ 4 := cdg_le (k := 4) (by omega)
  by_cases h0 : t = 0
  · rcases hk12 with rfl | rfl
    all_goals (
      k_with_none
      k_with "my return" => (k_here; exfalso; with_reducible contradiction)
      k_with "my call" => (k_here; (with_reducible show wpAny _ _ (call (Value.ref 152) _) _ _ _); k_dflt (focus ((refine' Con.use (c_rr0 _ _ _ _ _ _ _ _ _ ?_ ?_) ?_ ?_ ?_ ?_ ?_ ?_ ?_ ?_ ?_); (walk_at "my use"); (· first | with_reducible assumption | omega | k_extra "hz"); (· first | with_reducible assumption | omega); intro r9 tl9 h9 tk9 F9 N9 hR9; obtain ⟨ea9, eb9⟩ := hR9; subst ea9; subst eb9; (try simp only [List.nil_append] at N9); (try dsimp only); (try k_fold))))
      k_with "my call" => (k_here; (with_reducible show wpAny _ _ (call (Value.ref 152) _) _ _ _); k_dflt (focus ((refine' Con.use (c_rrS _ _ _ _ _ _ _ _ _ ?_ ?_ ?_ ?_) ?_ ?_ ?_ ?_ ?_ ?_ ?_ ?_ ?_); (walk_at "my use"); (· first | with_reducible assumption | omega | k_extra "hp"); (· first | with_reducible assumption | omega | k_extra "hq"); (· first | with_reducible assumption | omega | k_extra "hr"); (· first | with_reducible assumption | omega | k_extra "ht"); intro r9 tl9 h9 tk9 F9 N9 hR9; obtain ⟨D9, u9, v9, m9, e9, j9, ea9, eb9, hm9, he9, hn9⟩ := hR9; subst ea9; subst eb9; (try simp only [List.nil_append, List.cons_append] at N9); (try dsimp only); (try k_fold))))
      k_with "my call" => (k_here; (with_reducible show wpAny _ _ (call (Value.ref 152) _) _ _ _); k_dflt (focus ((refine' Con.use (c_rrB _ _ _ _ _ _ _ _ _ ?_ ?_ ?_ ?_ ?_ ?_) ?_ ?_ ?_ ?_ ?_ ?_ ?_ ?_ ?_); (walk_at "my use"); (· first | with_reducible assumption | omega); (· first | with_reducible assumption | omega); (· first | with_reducible assumption | omega); (· first | with_reducible assumption | omega); (· first | with_reducible assumption | omega); (· first | with_reducible assumption | omega); intro r9 tl9 h9 tk9 F9 N9 hR9; obtain ⟨D9, u9, v9, m9, e9, j9, q9, ea9, eb9, hm9, he9, hn9, ho9⟩ := hR9; subst ea9; subst eb9; (try simp only [List.nil_append, List.cons_append] at N9); (try dsimp only); (try k_fold))))
      (have fl9 : Filled KT PySem.Challenge.rw_sa0214_01 := (by k_fill; exact True.intro); intro loose mean mg mb dp un gd cn cs ad ccd cl outer A₀ base h₀ L mf s Q E B F X N T hk hd hu hret; refine wpAny_call ?_; k_dflt cell_enter)
      k_steps
      all_goals (refine hret _ [] _ _ (by k_asm) (by first | k_asm | (first | (refine sub_drop (by with_reducible assumption) ?_; (try simp only [List.nil_append, List.cons_append]); (with_reducible (repeat' (first | exact fun _ h => h | refine sub_same ?_ | refine sub_more ?_))); done) | k_asm | (refine sub_drop (by assumption) ?_; repeat' (first | exact fun _ h => h | refine sub_same ?_ | refine sub_more ?_)))) (Or.inl ⟨h0, rfl, rfl⟩)))
  · have hc1 := cdg_ge (n := t.natAbs) (by omega)
    have ht : t = t * 10 ^ ((-1 : Int) + 1).toNat := by simp
    rcases hk12 with rfl | rfl
    all_goals (
      k_with_none
      k_with "my return" => (k_here; exfalso; with_reducible contradiction)
      k_with "my call" => (k_here; (with_reducible show wpAny _ _ (call (Value.ref 152) _) _ _ _); k_dflt (focus ((refine' Con.use (c_rr0 _ _ _ _ _ _ _ _ _ ?_ ?_) ?_ ?_ ?_ ?_ ?_ ?_ ?_ ?_ ?_); (walk_at "my use"); (· first | with_reducible assumption | omega | k_extra "hz"); (· first | with_reducible assumption | omega); intro r9 tl9 h9 tk9 F9 N9 hR9; obtain ⟨ea9, eb9⟩ := hR9; subst ea9; subst eb9; (try simp only [List.nil_append] at N9); (try dsimp only); (try k_fold))))
      k_with "my call" => (k_here; (with_reducible show wpAny _ _ (call (Value.ref 152) _) _ _ _); k_dflt (focus ((refine' Con.use (c_rrS _ _ _ _ _ _ _ _ _ ?_ ?_ ?_ ?_) ?_ ?_ ?_ ?_ ?_ ?_ ?_ ?_ ?_); (walk_at "my use"); (· first | with_reducible assumption | omega | k_extra "hp"); (· first | with_reducible assumption | omega | k_extra "hq"); (· first | with_reducible assumption | omega | k_extra "hr"); (· first | with_reducible assumption | omega | k_extra "ht"); intro r9 tl9 h9 tk9 F9 N9 hR9; obtain ⟨D9, u9, v9, m9, e9, j9, ea9, eb9, hm9, he9, hn9⟩ := hR9; subst ea9; subst eb9; (try simp only [List.nil_append, List.cons_append] at N9); (try dsimp only); (try k_fold))))
      k_with "my call" => (k_here; (with_reducible show wpAny _ _ (call (Value.ref 152) _) _ _ _); k_dflt (focus ((refine' Con.use (c_rrB _ _ _ _ _ _ _ _ _ ?_ ?_ ?_ ?_ ?_ ?_) ?_ ?_ ?_ ?_ ?_ ?_ ?_ ?_ ?_); (walk_at "my use"); (· first | with_reducible assumption | omega); (· first | with_reducible assumption | omega); (· first | with_reducible assumption | omega); (· first | with_reducible assumption | omega); (· first | with_reducible assumption | omega); (· first | with_reducible assumption | omega); intro r9 tl9 h9 tk9 F9 N9 hR9; obtain ⟨D9, u9, v9, m9, e9, j9, q9, ea9, eb9, hm9, he9, hn9, ho9⟩ := hR9; subst ea9; subst eb9; (try simp only [List.nil_append, List.cons_append] at N9); (try dsimp only); (try k_fold))))
      (have fl9 : Filled KT PySem.Challenge.rw_sa0214_01 := (by k_fill; exact True.intro); intro loose mean mg mb dp un gd cn cs ad ccd cl outer A₀ base h₀ L mf s Q E B F X N T hk hd hu hret; refine wpAny_call ?_; k_dflt cell_enter)
      k_steps
      all_goals (
        rename (t = _ * 10 ^ _) => hj
        have hr := res_of (by omega) ht hj (by assumption)
        refine' ret2 hret ?zF ?zN ?zR
        case zF => k_asm
        case zN => (first | (refine sub_drop (by with_reducible assumption) ?_; (try simp only [List.nil_append, List.cons_append]); (with_reducible (repeat' (first | exact fun _ h => h | refine sub_same ?_ | refine sub_more ?_))); done) | k_asm | (refine sub_drop (by assumption) ?_; repeat' (first | exact fun _ h => h | refine sub_same ?_ | refine sub_more ?_)))
        case zR => exact Or.inr ⟨_, _, _, _, _, rfl, rfl, by assumption, hr.1, hr.2⟩))
/-- r is the number of t tenths, p the ledger's entry that bears it (any entry where it is nought) -/
def NmP (p : Addr × Obj) (r : Value) (t : Int) : Prop := (t = 0 ∧ r = .ref 124) ∨ (∃ (m e : Int) (u v : Tok), r = .ref p.1 ∧ p.2 = ({ cls := .type "tuple", data := .seq #[.int m u, .int e v] } : Obj) ∧ m ≠ 0 ∧ -1 ≤ e ∧ t = m * 10 ^ (e + 1).toNat)
def QuoP (p : Addr × Obj) (r : Value) (z : Int) : Prop := (z = 0 ∧ r = .ref 124) ∨ (∃ (m e : Int) (u v : Tok), r = .ref p.1 ∧ p.2 = ({ cls := .type "tuple", data := .seq #[.int m u, .int e v] } : Obj) ∧ tr m e = z ∧ m.natAbs < 4611686018427387904 ∧ -40 ≤ e ∧ e ≤ 40)
theorem NmP.nm {p : Addr × Obj} {r : Value} {t : Int} {led : List (Addr × Obj)} (h : NmP p r t) (hm : p ∈ led) : ∃ D, r = .ref D ∧ Nm led D t := by
  obtain ⟨a, o⟩ := p
  rcases h with ⟨hz, rfl⟩ | ⟨m, e, u, v, rfl, ho, n, he, hv⟩
  · exact ⟨124, rfl, Or.inl ⟨hz, rfl⟩⟩
  · dsimp only at ho
    subst ho
    exact ⟨a, rfl, Or.inr ⟨m, e, u, v, hm, n, he, hv⟩⟩
theorem news_dup {h₀ h : Heap} {L : Addr} {q : Addr × Obj} {rest : List (Addr × Obj)} (N : News h₀ L h (q :: rest)) : News h₀ L h (q :: q :: rest) := fun p hp => by
  rcases List.mem_cons.mp hp with rfl | hp
  · exact N _ (.head _)
  · exact N p hp
theorem conV {w : World} {f : Addr} {need : Nat} {vs : List Value} {q : Addr × Obj} {rest : List (Addr × Obj)} {t : Int} (C : Con w f need vs (q :: rest) (fun r tl => Res t r tl)) :
    Con w f need vs (q :: rest) (fun r tl => ∃ p, tl = [p] ∧ NmP p r t) := by
  intro loose mean mg mb dp un gd cn cs ad ccd cl outer A₀ base h₀ L mf s Q E B F X N T hk hd hu hret
  refine C loose mean mg mb dp un gd cn cs ad ccd cl outer A₀ base h₀ L mf s Q E B F X N T hk hd hu (fun r tl h' tk' F' N' hR => ?_)
  rcases hR with ⟨hz, rfl, rfl⟩ | ⟨D, m, e, u, v, rfl, rfl, n, he, hv⟩
  · exact hret _ [q] h' tk' F' (news_dup N') ⟨q, rfl, Or.inl ⟨hz, rfl⟩⟩
  · exact hret _ _ h' tk' F' N' ⟨_, rfl, Or.inr ⟨m, e, u, v, rfl, rfl, n, he, hv⟩⟩
theorem conQ {w : World} {f : Addr} {need : Nat} {vs : List Value} {q : Addr × Obj} {rest : List (Addr × Obj)} {z : Int} (C : Con w f need vs (q :: rest) (fun r tl => Quo z r tl)) :
    Con w f need vs (q :: rest) (fun r tl => ∃ p, tl = [p] ∧ QuoP p r z) := by
  intro loose mean mg mb dp un gd cn cs ad ccd cl outer A₀ base h₀ L mf s Q E B F X N T hk hd hu hret
  refine C loose mean mg mb dp un gd cn cs ad ccd cl outer A₀ base h₀ L mf s Q E B F X N T hk hd hu (fun r tl h' tk' F' N' hR => ?_)
  rcases hR with ⟨hz, rfl, rfl⟩ | ⟨D, m, e, u, v, rfl, rfl, n, hb, he, hv⟩
  · exact hret _ [q] h' tk' F' (news_dup N') ⟨q, rfl, Or.inl ⟨hz, rfl⟩⟩
  · exact hret _ _ h' tk' F' N' ⟨_, rfl, Or.inr ⟨m, e, u, v, rfl, rfl, n, hb, he, hv⟩⟩
section
variable (w : World) (q : Addr × Obj) (rest : List (Addr × Obj)) (d : Int) (td tt : Tok) {r1 r2 : Value} {p1 p2 : Addr × Obj} {t1 t2 : Int}
theorem v_worth (k t : Int) (tk tv : Tok) (hk12 : k = 1 ∨ k = 2) (hb : t.natAbs < 10000) : Con w 300 8 [.int k tk, .int t tv] (q :: rest) (fun r tl => ∃ p, tl = [p] ∧ NmP p r t) := conV (c_worth w _ k t tk tv hk12 hb)
theorem v_sub (h1 : NmP p1 r1 t1) (h2 : NmP p2 r2 t2) (m1 : p1 ∈ q :: rest) (m2 : p2 ∈ q :: rest) (hb1 : t1.natAbs < 10000) (hb2 : t2.natAbs < 10000) (hb : (t1 - t2).natAbs < 10000) (hd7 : 7 ≤ d) :
    Con w 194 9 [r1, r2, .int d td, .int 38 tt] (q :: rest) (fun r tl => ∃ p, tl = [p] ∧ NmP p r (t1 - t2)) := by
  obtain ⟨D1, rfl, n1⟩ := h1.nm m1
  obtain ⟨D2, rfl, n2⟩ := h2.nm m2
  exact conV (c_sub w _ D1 D2 d td tt t1 t2 n1 n2 hb1 hb2 hb hd7)
theorem v_add (h1 : NmP p1 r1 t1) (h2 : NmP p2 r2 t2) (m1 : p1 ∈ q :: rest) (m2 : p2 ∈ q :: rest) (hb1 : t1.natAbs < 10000) (hb2 : t2.natAbs < 10000) (hb : (t1 + t2).natAbs < 10000) (hd7 : 7 ≤ d) :
    Con w 187 9 [r1, r2, .int d td, .int 38 tt] (q :: rest) (fun r tl => ∃ p, tl = [p] ∧ NmP p r (t1 + t2)) := by
  obtain ⟨D1, rfl, n1⟩ := h1.nm m1
  obtain ⟨D2, rfl, n2⟩ := h2.nm m2
  exact conV (c_add w _ D1 D2 d td tt t1 t2 n1 n2 hb1 hb2 hb hd7)
theorem v_div (h1 : NmP p1 r1 t1) (h2 : NmP p2 r2 t2) (m1 : p1 ∈ q :: rest) (m2 : p2 ∈ q :: rest) (hn : t2 ≠ 0) (hb1 : t1.natAbs < 1000) (hb2 : t2.natAbs < 1000) (hd7 : 7 ≤ d) (hd15 : d ≤ 15) :
    Con w 208 9 [r1, r2, .int d td, .int 38 tt] (q :: rest) (fun r tl => ∃ p, tl = [p] ∧ QuoP p r (tdv t1 t2)) := by
  obtain ⟨D1, rfl, n1⟩ := h1.nm m1
  obtain ⟨D2, rfl, n2⟩ := h2.nm m2
  exact conQ (c_div w _ D1 D2 d td tt t1 t2 n1 n2 hn hb1 hb2 hd7 hd15)
theorem v_rti {z : Int} (h1 : QuoP p1 r1 z) (m1 : p1 ∈ q :: rest) : Con w 222 4 [r1] (q :: rest) (fun r tl => tl = [] ∧ ∃ t, r = .int z t) := by
  obtain ⟨a, o⟩ := p1
  rcases h1 with ⟨rfl, rfl⟩ | ⟨m, e, u, v, rfl, ho, hz, hb, he, hv⟩
  · exact c_rti0 w _
  · dsimp only at ho
    subst ho
    subst hz
    exact c_rti w _ a m e u v m1 hb he hv
theorem c_isz (D : Addr) (m e : Int) (u v : Tok) (hm : (D, ({ cls := .type "tuple", data := .seq #[.int m u, .int e v] } : Obj)) ∈ rest) (n : m ≠ 0) : Con w 257 2 [.ref D] rest (fun r tl => tl = [] ∧ r = .bool false) := by
  have n' : (m == 0) = false := by simpa using n
  k_with_none
  k_with "my return" => (k_here; exfalso; with_reducible contradiction)
  (have fl9 : Filled KT PySem.Challenge.rw_sa0214_01 := (by k_fill; exact True.intro); intro loose mean mg mb dp un gd cn cs ad ccd cl outer A₀ base h₀ L mf s Q E B F X N T hk hd hu hret; refine wpAny_call ?_; k_dflt cell_enter)
  k_steps
  all_goals (refine hret _ [] _ _ (by k_asm) (by k_asm) ⟨rfl, by rw [n']⟩)
theorem v_isz (h1 : NmP p1 r1 t1) (m1 : p1 ∈ rest) (hn : t1 ≠ 0) : Con w 257 2 [r1] rest (fun r tl => tl = [] ∧ r = .bool false) := by
  obtain ⟨a, o⟩ := p1
  rcases h1 with ⟨hz, rfl⟩ | ⟨m, e, u, v, rfl, ho, n, he, hv⟩
  · exact absurd hz hn
  · dsimp only at ho
    subst ho
    exact c_isz w rest a m e u v m1 n
theorem c_fit (n : Int) (tn tw : Tok) (h1 : -2147483648 ≤ n) (h2 : n < 2147483648) : Con w 53 2 [.int n tn, .int 32 tw] rest (fun r tl => tl = [] ∧ ∃ t, r = .int n t) := by
  k_with_none
  k_with "my return" => (k_here; exfalso; with_reducible contradiction)
  (have fl9 : Filled KT PySem.Challenge.rw_sa0214_01 := (by k_fill; exact True.intro); intro loose mean mg mb dp un gd cn cs ad ccd cl outer A₀ base h₀ L mf s Q E B F X N T hk hd hu hret; refine wpAny_call ?_; k_dflt cell_enter)
  k_steps
  all_goals first
  | exact hret _ [] _ _ (by k_asm) (by k_asm) ⟨rfl, eq_int rfl⟩
  | (exfalso; rename n < _ => hz; rw [fit_e] at hz; omega)
  | (exfalso; rename _ ≤ n => hz; rw [fit_e] at hz; omega)
end
local macro_rules | `(tactic| walk_at "eval Dict") => `(tactic| (k_here; (with_reducible show wpAny _ _ (eval (PySem.Expr.Dict (some (PySem.Expr.Name _ _) :: _) _ _) _) _ _ _); k_dflt (refine' kdn_eval (knd := PySem.intKind _ _) ?F ?N ?b ?a ?l ?e ?n ?_; (case F => k_asm); (case N => first | k_asm | exact News.nil); (case b => exact Top.nolimit (by k_asm)); (case a => rfl); (case l => rfl); (case e => exact List.cons_ne_nil _ _); (case n => exact Nat.le_of_ble_eq_true rfl)); intro d' h' o' F' N' l1 lo' hd'; (try k_lt l1)))

theorem c_limits (w : World) (news : List (Addr × Obj)) : Con w 282 4 [] news (fun r tl => ∃ (D d : Addr) (n : Nat) (k1 u1 k2 u2 k3 u3 k4 u4 k5 u5 k6 u6 k7 u7 k8 u8 : Tok), r = .ref D ∧ tl = [(D, instObj 282 d), (d, dictOf [{ hash := PyData.keyHash w.params (Str.ofString "width"), key := .str (Str.ofString "width") k1, val := .int 32 u1 }, { hash := PyData.keyHash w.params (Str.ofString "real_digits"), key := .str (Str.ofString "real_digits") k2, val := .int 7 u2 }, { hash := PyData.keyHash w.params (Str.ofString "double_digits"), key := .str (Str.ofString "double_digits") k3, val := .int 15 u3 }, { hash := PyData.keyHash w.params (Str.ofString "top_exponent"), key := .str (Str.ofString "top_exponent") k4, val := .int 38 u4 }, { hash := PyData.keyHash w.params (Str.ofString "steps"), key := .str (Str.ofString "steps") k5, val := .int 1000000 u5 }, { hash := PyData.keyHash w.params (Str.ofString "continuations"), key := .str (Str.ofString "continuations") k6, val := .int 19 u6 }, { hash := PyData.keyHash w.params (Str.ofString "columns"), key := .str (Str.ofString "columns") k7, val := .int 72 u7 }, { hash := PyData.keyHash w.params (Str.ofString "depth"), key := .str (Str.ofString "depth") k8, val := .int 40 u8 }] n)]) := by
  k_with_none
  k_with "my return" => (k_here; exfalso; with_reducible contradiction)
  (have fl9 : Filled KT PySem.Challenge.rw_sa0214_01 := (by k_fill; exact True.intro); intro loose mean mg mb dp un gd cn cs ad ccd cl outer A₀ base h₀ L mf s Q E B F X N T hk hd hu hret)
  k_dflt (refine' call_cls ?k1 ?k2 ?k3 ?k4 ?k5 ?k6 ?_; (case k1 => k_asm); (case k2 => k_asm); (case k3 => k_asm); (case k4 => k_is); (case k5 => k_is); (case k6 => k_is); k_whole)
  intro x' d' h' F' N' l1 l2
  (try k_lt l1)
  (try k_lt2 l2)
  (try k_sweep)
  k_dflt (refine' code_def ?k1 ?k2 ?k3 ?k4 ?k5 ?kA ?kF ?kK ?k6 ?k7 ?k8 ?k9 ?kB ?_ ?c2 ?c3 ?c4 ?c5; (case kA => exact rfl); (case kF => exact rfl); (case kK => assumption); (case k1 => k_asm); (case k2 => k_asm); (case k3 => k_asm); (case k4 => k_asm); (case k5 => k_asm); (case k6 => k_is); (case k7 => k_is); (case k8 => ktr_room); (case k9 => exact binds_K (by k_in) rfl (by k_is) rfl rfl rfl); (case kB => exact locs rfl); (case c2 => exact rfl); (case c3 => exact rfl); (case c4 => exact rfl); (case c5 => decide); k_whole)
  intro g' L' h' FG' F' N' B' X' T'
  (try dsimp only)
  (try k_lift B')
  (try k_fold)
  k_steps
  all_goals first
  | exact hret _ [_, _] _ _ (by k_asm) (by k_asm) ⟨_, _, _, _, _, _, _, _, _, _, _, _, _, _, _, _, _, _, _, rfl, rfl⟩
  | skip

local macro_rules | `(tactic| kcj_all) => `(tactic| kcj_in)
/-- the count of rounds -/
def rounds (f l st : Int) : Int := if 0 > tdv (l - f + st) st then 0 else tdv (l - f + st) st
theorem tdv_small {x y : Int} (h : x.natAbs < 1000) : -1000 < tdv x y ∧ tdv x y < 1000 := by
  have := Nat.div_le_self x.natAbs y.natAbs
  unfold tdv
  generalize x.natAbs / y.natAbs = k at *
  split <;> omega
theorem c_rounds1 (w : World) (q : Addr × Obj) (rest : List (Addr × Obj)) (f l st : Int) (tk tf tl0 ts : Tok) (hs : st ≠ 0) (hf1 : f.natAbs < 3000) (hl1 : l.natAbs < 3000) (hs1 : st.natAbs < 50) (hd1 : (l - f).natAbs < 900) :
    Con w 307 14 [.int 1 tk, .int f tf, .int l tl0, .int st ts] (q :: rest) (fun r tl => tl = [] ∧ ∃ t, r = .int (rounds f l st) t) := by
  obtain ⟨b1, b2⟩ := tdv_small (x := l - f + st) (y := st) (by omega)
  k_with_none
  k_with "my return" => (k_here; exfalso; with_reducible contradiction)
  k_with "my call" => (k_here; (with_reducible show wpAny _ _ (call (Value.ref 300) _) _ _ _); k_dflt (focus ((refine' Con.use (v_worth _ _ _ _ _ _ _ ?_ ?_) ?_ ?_ ?_ ?_ ?_ ?_ ?_ ?_ ?_); (walk_at "my use"); (· first | exact Or.inl rfl | exact Or.inr rfl | with_reducible assumption); (· first | with_reducible assumption | omega); intro r9 tl9 h9 tk9 F9 N9 hR9; obtain ⟨p9, ea9, hp9⟩ := hR9; subst ea9; (try simp only [List.nil_append, List.cons_append] at N9); (try dsimp only); (try k_fold))))
  k_with "my call" => (k_here; (with_reducible show wpAny _ _ (call (Value.ref 194) _) _ _ _); k_dflt (focus ((refine' Con.use (v_sub _ _ _ _ _ _ ?_ ?_ ?_ ?_ ?_ ?_ ?_ ?_) ?_ ?_ ?_ ?_ ?_ ?_ ?_ ?_ ?_); (walk_at "my use"); (any_goals ((with_reducible first | show NmP _ _ _ | show QuoP _ _ _); with_reducible assumption)); (· (with_reducible (repeat (first | assumption | exact List.mem_cons_self | refine List.mem_cons_of_mem _ ?_)))); (· (with_reducible (repeat (first | assumption | exact List.mem_cons_self | refine List.mem_cons_of_mem _ ?_)))); (· first | with_reducible assumption | omega); (· first | with_reducible assumption | omega); (· first | with_reducible assumption | omega); (· first | with_reducible assumption | omega); intro r9 tl9 h9 tk9 F9 N9 hR9; obtain ⟨p9, ea9, hp9⟩ := hR9; subst ea9; (try simp only [List.nil_append, List.cons_append] at N9); (try dsimp only); (try k_fold))))
  k_with "my call" => (k_here; (with_reducible show wpAny _ _ (call (Value.ref 187) _) _ _ _); k_dflt (focus ((refine' Con.use (v_add _ _ _ _ _ _ ?_ ?_ ?_ ?_ ?_ ?_ ?_ ?_) ?_ ?_ ?_ ?_ ?_ ?_ ?_ ?_ ?_); (walk_at "my use"); (any_goals ((with_reducible first | show NmP _ _ _ | show QuoP _ _ _); with_reducible assumption)); (· (with_reducible (repeat (first | assumption | exact List.mem_cons_self | refine List.mem_cons_of_mem _ ?_)))); (· (with_reducible (repeat (first | assumption | exact List.mem_cons_self | refine List.mem_cons_of_mem _ ?_)))); (· first | with_reducible assumption | omega); (· first | with_reducible assumption | omega); (· first | with_reducible assumption | omega); (· first | with_reducible assumption | omega); intro r9 tl9 h9 tk9 F9 N9 hR9; obtain ⟨p9, ea9, hp9⟩ := hR9; subst ea9; (try simp only [List.nil_append, List.cons_append] at N9); (try dsimp only); (try k_fold))))
  k_with "my call" => (k_here; (with_reducible show wpAny _ _ (call (Value.ref 208) _) _ _ _); k_dflt (focus ((refine' Con.use (v_div _ _ _ _ _ _ ?_ ?_ ?_ ?_ ?_ ?_ ?_ ?_ ?_) ?_ ?_ ?_ ?_ ?_ ?_ ?_ ?_ ?_); (walk_at "my use"); (any_goals ((with_reducible first | show NmP _ _ _ | show QuoP _ _ _); with_reducible assumption)); (· (with_reducible (repeat (first | assumption | exact List.mem_cons_self | refine List.mem_cons_of_mem _ ?_)))); (· (with_reducible (repeat (first | assumption | exact List.mem_cons_self | refine List.mem_cons_of_mem _ ?_)))); (· first | with_reducible assumption | omega); (· first | with_reducible assumption | omega); (· first | with_reducible assumption | omega); (· first | with_reducible assumption | omega); (· first | with_reducible assumption | omega); intro r9 tl9 h9 tk9 F9 N9 hR9; obtain ⟨p9, ea9, hp9⟩ := hR9; subst ea9; (try simp only [List.nil_append, List.cons_append] at N9); (try dsimp only); (try k_fold))))
  k_with "my call" => (k_here; (with_reducible show wpAny _ _ (call (Value.ref 222) _) _ _ _); k_dflt (focus ((refine' Con.use (v_rti _ _ _ ?_ ?_) ?_ ?_ ?_ ?_ ?_ ?_ ?_ ?_ ?_); (walk_at "my use"); (any_goals ((with_reducible first | show NmP _ _ _ | show QuoP _ _ _); with_reducible assumption)); (· (with_reducible (repeat (first | assumption | exact List.mem_cons_self | refine List.mem_cons_of_mem _ ?_)))); intro r9 tl9 h9 tk9 F9 N9 hR9; (try dsimp only at hR9); obtain ⟨ea9, t9, eb9⟩ := hR9; subst ea9; subst eb9; (try simp only [List.nil_append] at N9); (try dsimp only); (try k_fold))))
  k_with "my call" => (k_here; (with_reducible show wpAny _ _ (call (Value.ref 257) _) _ _ _); k_dflt (focus ((refine' Con.use (v_isz _ _ ?_ ?_ ?_) ?_ ?_ ?_ ?_ ?_ ?_ ?_ ?_ ?_); (walk_at "my use"); (any_goals ((with_reducible first | show NmP _ _ _ | show QuoP _ _ _); with_reducible assumption)); (· (with_reducible (repeat (first | assumption | exact List.mem_cons_self | refine List.mem_cons_of_mem _ ?_)))); (· first | with_reducible assumption | omega); intro r9 tl9 h9 tk9 F9 N9 hR9; obtain ⟨ea9, eb9⟩ := hR9; subst ea9; subst eb9; (try simp only [List.nil_append] at N9); (try dsimp only); (try k_fold))))
  k_with "my call" => (k_here; (with_reducible show wpAny _ _ (call (Value.ref 53) _) _ _ _); k_dflt (focus ((refine' Con.use (c_fit _ _ _ _ _ ?_ ?_) ?_ ?_ ?_ ?_ ?_ ?_ ?_ ?_ ?_); (walk_at "my use"); (· first | omega | k_extra "fit"); (· first | omega | k_extra "fit"); intro r9 tl9 h9 tk9 F9 N9 hR9; (try dsimp only at hR9); obtain ⟨ea9, t9, eb9⟩ := hR9; subst ea9; subst eb9; (try simp only [List.nil_append] at N9); (try dsimp only); (try k_fold))))
  k_with "my call" => (k_here; (with_reducible show wpAny _ _ (call (Value.ref 250) _) _ _ _); (walk_at "my enter"))
  k_with "my call" => (k_here; (with_reducible show wpAny _ _ (call (Value.ref 243) _) _ _ _); (walk_at "my enter"))
  k_with "my call" => (k_here; (with_reducible show wpAny _ _ (call (Value.ref 264) _) _ _ _); (walk_at "my enter"))
  k_with "my call" => (k_here; (with_reducible show wpAny _ _ (call (Value.ref 123) _) _ _ _); (walk_at "my enter"))
  k_with "my call" => (k_here; (with_reducible show wpAny _ _ (call (Value.ref 60) _) _ _ _); (walk_at "my enter"))
  k_with "my call" => (k_here; (with_reducible show wpAny _ _ (call (Value.ref 67) _) _ _ _); (walk_at "my enter"))
  k_with "my call" => (k_here; (with_reducible show wpAny _ _ (call (Value.ref 88) _) _ _ _); (walk_at "my enter"))
  k_with "my call" => (k_here; (with_reducible show wpAny _ _ (call (Value.ref 81) _) _ _ _); (walk_at "my enter"))
  k_with "my call" => (k_here; (with_reducible show wpAny _ _ (call (Value.ref 282) _) _ _ _); k_dflt (focus ((refine' Con.use (c_limits _ _) ?_ ?_ ?_ ?_ ?_ ?_ ?_ ?_ ?_); (walk_at "my use"); intro r9 tl9 h9 tk9 F9 N9 hR9; obtain ⟨D9, d9, n9, k19, u19, k29, u29, k39, u39, k49, u49, k59, u59, k69, u69, k79, u79, k89, u89, ea9, eb9⟩ := hR9; subst ea9; subst eb9; (try simp only [List.nil_append, List.cons_append] at N9); (try dsimp only); (try k_fold))))
  (have fl9 : Filled KT PySem.Challenge.rw_sa0214_01 := (by k_fill; exact True.intro); intro loose mean mg mb dp un gd cn cs ad ccd cl outer A₀ base h₀ L mf s Q E B F X N T hk hd hu hret; refine wpAny_call ?_; k_dflt cell_enter)
  k_steps
  all_goals first
  | exact hret _ [] _ _ (by k_asm) (by (first | (refine sub_drop (by with_reducible assumption) ?_; (try simp only [List.nil_append, List.cons_append]); (with_reducible (repeat' (first | exact fun _ h => h | refine sub_same ?_ | refine sub_more ?_))); done) | k_asm | (refine sub_drop (by assumption) ?_; repeat' (first | exact fun _ h => h | refine sub_same ?_ | refine sub_more ?_)))) ⟨rfl, eq_int rfl⟩
  | skip

theorem c_rounds2 (w : World) (q : Addr × Obj) (rest : List (Addr × Obj)) (f l st : Int) (tk tf tl0 ts : Tok) (hs : st ≠ 0) (hf1 : f.natAbs < 3000) (hl1 : l.natAbs < 3000) (hs1 : st.natAbs < 50) (hd1 : (l - f).natAbs < 900) :
    Con w 307 14 [.int 2 tk, .int f tf, .int l tl0, .int st ts] (q :: rest) (fun r tl => tl = [] ∧ ∃ t, r = .int (rounds f l st) t) := by
  obtain ⟨b1, b2⟩ := tdv_small (x := l - f + st) (y := st) (by omega)
  k_with_none
  k_with "my return" => (k_here; exfalso; with_reducible contradiction)
  k_with "my call" => (k_here; (with_reducible show wpAny _ _ (call (Value.ref 300) _) _ _ _); k_dflt (focus ((refine' Con.use (v_worth _ _ _ _ _ _ _ ?_ ?_) ?_ ?_ ?_ ?_ ?_ ?_ ?_ ?_ ?_); (walk_at "my use"); (· first | exact Or.inl rfl | exact Or.inr rfl | with_reducible assumption); (· first | with_reducible assumption | omega); intro r9 tl9 h9 tk9 F9 N9 hR9; obtain ⟨p9, ea9, hp9⟩ := hR9; subst ea9; (try simp only [List.nil_append, List.cons_append] at N9); (try dsimp only); (try k_fold))))
  k_with "my call" => (k_here; (with_reducible show wpAny _ _ (call (Value.ref 194) _) _ _ _); k_dflt (focus ((refine' Con.use (v_sub _ _ _ _ _ _ ?_ ?_ ?_ ?_ ?_ ?_ ?_ ?_) ?_ ?_ ?_ ?_ ?_ ?_ ?_ ?_ ?_); (walk_at "my use"); (any_goals ((with_reducible first | show NmP _ _ _ | show QuoP _ _ _); with_reducible assumption)); (· (with_reducible (repeat (first | assumption | exact List.mem_cons_self | refine List.mem_cons_of_mem _ ?_)))); (· (with_reducible (repeat (first | assumption | exact List.mem_cons_self | refine List.mem_cons_of_mem _ ?_)))); (· first | with_reducible assumption | omega); (· first | with_reducible assumption | omega); (· first | with_reducible assumption | omega); (· first | with_reducible assumption | omega); intro r9 tl9 h9 tk9 F9 N9 hR9; obtain ⟨p9, ea9, hp9⟩ := hR9; subst ea9; (try simp only [List.nil_append, List.cons_append] at N9); (try dsimp only); (try k_fold))))
  k_with "my call" => (k_here; (with_reducible show wpAny _ _ (call (Value.ref 187) _) _ _ _); k_dflt (focus ((refine' Con.use (v_add _ _ _ _ _ _ ?_ ?_ ?_ ?_ ?_ ?_ ?_ ?_) ?_ ?_ ?_ ?_ ?_ ?_ ?_ ?_ ?_); (walk_at "my use"); (any_goals ((with_reducible first | show NmP _ _ _ | show QuoP _ _ _); with_reducible assumption)); (· (with_reducible (repeat (first | assumption | exact List.mem_cons_self | refine List.mem_cons_of_mem _ ?_)))); (· (with_reducible (repeat (first | assumption | exact List.mem_cons_self | refine List.mem_cons_of_mem _ ?_)))); (· first | with_reducible assumption | omega); (· first | with_reducible assumption | omega); (· first | with_reducible assumption | omega); (· first | with_reducible assumption | omega); intro r9 tl9 h9 tk9 F9 N9 hR9; obtain ⟨p9, ea9, hp9⟩ := hR9; subst ea9; (try simp only [List.nil_append, List.cons_append] at N9); (try dsimp only); (try k_fold))))
  k_with "my call" => (k_here; (with_reducible show wpAny _ _ (call (Value.ref 208) _) _ _ _); k_dflt (focus ((refine' Con.use (v_div _ _ _ _ _ _ ?_ ?_ ?_ ?_ ?_ ?_ ?_ ?_ ?_) ?_ ?_ ?_ ?_ ?_ ?_ ?_ ?_ ?_); (walk_at "my use"); (any_goals ((with_reducible first | show NmP _ _ _ | show QuoP _ _ _); with_reducible assumption)); (· (with_reducible (repeat (first | assumption | exact List.mem_cons_self | refine List.mem_cons_of_mem _ ?_)))); (· (with_reducible (repeat (first | assumption | exact List.mem_cons_self | refine List.mem_cons_of_mem _ ?_)))); (· first | with_reducible assumption | omega); (· first | with_reducible assumption | omega); (· first | with_reducible assumption | omega); (· first | with_reducible assumption | omega); (· first | with_reducible assumption | omega); intro r9 tl9 h9 tk9 F9 N9 hR9; obtain ⟨p9, ea9, hp9⟩ := hR9; subst ea9; (try simp only [List.nil_append, List.cons_append] at N9); (try dsimp only); (try k_fold))))
  k_with "my call" => (k_here; (with_reducible show wpAny _ _ (call (Value.ref 222) _) _ _ _); k_dflt (focus ((refine' Con.use (v_rti _ _ _ ?_ ?_) ?_ ?_ ?_ ?_ ?_ ?_ ?_ ?_ ?_); (walk_at "my use"); (any_goals ((with_reducible first | show NmP _ _ _ | show QuoP _ _ _); with_reducible assumption)); (· (with_reducible (repeat (first | assumption | exact List.mem_cons_self | refine List.mem_cons_of_mem _ ?_)))); intro r9 tl9 h9 tk9 F9 N9 hR9; (try dsimp only at hR9); obtain ⟨ea9, t9, eb9⟩ := hR9; subst ea9; subst eb9; (try simp only [List.nil_append] at N9); (try dsimp only); (try k_fold))))
  k_with "my call" => (k_here; (with_reducible show wpAny _ _ (call (Value.ref 257) _) _ _ _); k_dflt (focus ((refine' Con.use (v_isz _ _ ?_ ?_ ?_) ?_ ?_ ?_ ?_ ?_ ?_ ?_ ?_ ?_); (walk_at "my use"); (any_goals ((with_reducible first | show NmP _ _ _ | show QuoP _ _ _); with_reducible assumption)); (· (with_reducible (repeat (first | assumption | exact List.mem_cons_self | refine List.mem_cons_of_mem _ ?_)))); (· first | with_reducible assumption | omega); intro r9 tl9 h9 tk9 F9 N9 hR9; obtain ⟨ea9, eb9⟩ := hR9; subst ea9; subst eb9; (try simp only [List.nil_append] at N9); (try dsimp only); (try k_fold))))
  k_with "my call" => (k_here; (with_reducible show wpAny _ _ (call (Value.ref 53) _) _ _ _); k_dflt (focus ((refine' Con.use (c_fit _ _ _ _ _ ?_ ?_) ?_ ?_ ?_ ?_ ?_ ?_ ?_ ?_ ?_); (walk_at "my use"); (· first | omega | k_extra "fit"); (· first | omega | k_extra "fit"); intro r9 tl9 h9 tk9 F9 N9 hR9; (try dsimp only at hR9); obtain ⟨ea9, t9, eb9⟩ := hR9; subst ea9; subst eb9; (try simp only [List.nil_append] at N9); (try dsimp only); (try k_fold))))
  k_with "my call" => (k_here; (with_reducible show wpAny _ _ (call (Value.ref 250) _) _ _ _); (walk_at "my enter"))
  k_with "my call" => (k_here; (with_reducible show wpAny _ _ (call (Value.ref 243) _) _ _ _); (walk_at "my enter"))
  k_with "my call" => (k_here; (with_reducible show wpAny _ _ (call (Value.ref 264) _) _ _ _); (walk_at "my enter"))
  k_with "my call" => (k_here; (with_reducible show wpAny _ _ (call (Value.ref 123) _) _ _ _); (walk_at "my enter"))
  k_with "my call" => (k_here; (with_reducible show wpAny _ _ (call (Value.ref 60) _) _ _ _); (walk_at "my enter"))
  k_with "my call" => (k_here; (with_reducible show wpAny _ _ (call (Value.ref 67) _) _ _ _); (walk_at "my enter"))
  k_with "my call" => (k_here; (with_reducible show wpAny _ _ (call (Value.ref 88) _) _ _ _); (walk_at "my enter"))
  k_with "my call" => (k_here; (with_reducible show wpAny _ _ (call (Value.ref 81) _) _ _ _); (walk_at "my enter"))
  k_with "my call" => (k_here; (with_reducible show wpAny _ _ (call (Value.ref 282) _) _ _ _); k_dflt (focus ((refine' Con.use (c_limits _ _) ?_ ?_ ?_ ?_ ?_ ?_ ?_ ?_ ?_); (walk_at "my use"); intro r9 tl9 h9 tk9 F9 N9 hR9; obtain ⟨D9, d9, n9, k19, u19, k29, u29, k39, u39, k49, u49, k59, u59, k69, u69, k79, u79, k89, u89, ea9, eb9⟩ := hR9; subst ea9; subst eb9; (try simp only [List.nil_append, List.cons_append] at N9); (try dsimp only); (try k_fold))))
  (have fl9 : Filled KT PySem.Challenge.rw_sa0214_01 := (by k_fill; exact True.intro); intro loose mean mg mb dp un gd cn cs ad ccd cl outer A₀ base h₀ L mf s Q E B F X N T hk hd hu hret; refine wpAny_call ?_; k_dflt cell_enter)
  k_steps
  all_goals exact hret _ [] _ _ (by k_asm) (by (first | (refine sub_drop (by with_reducible assumption) ?_; (try simp only [List.nil_append, List.cons_append]); (with_reducible (repeat' (first | exact fun _ h => h | refine sub_same ?_ | refine sub_more ?_))); done) | k_asm | (refine sub_drop (by assumption) ?_; repeat' (first | exact fun _ h => h | refine sub_same ?_ | refine sub_more ?_)))) ⟨rfl, eq_int rfl⟩

theorem cut_fact {x y : Int} (_hy : y ≠ 0) : (if x < 0 then -x else x).fdiv (if y < 0 then -y else y) = ((x.natAbs / y.natAbs : Nat) : Int) := by
  have e1 : (if x < 0 then -x else x) = (x.natAbs : Int) := by split <;> omega
  have e2 : (if y < 0 then -y else y) = (y.natAbs : Int) := by split <;> omega
  rw [e1, e2, fdiv_pos (by omega)]
  push_cast
  rfl
theorem cut_m1 {a b : Bool} {F z : Int} (hF : F = z) (h : (a == b) = true) : F = if (a != b) = true then -z else z := by
  rw [if_neg (by cases a <;> cases b <;> simp_all)]; exact hF
theorem cut_m2 {a b : Bool} {F z : Int} (hF : F = z) (h : (a == b) = false) : -F = if (a != b) = true then -z else z := by
  rw [if_pos (by cases a <;> cases b <;> simp_all), hF]
theorem c_cut (w : World) (rest : List (Addr × Obj)) (x y : Int) (tx ty : Tok) (hy : y ≠ 0) (hy1 : y.natAbs < 10000) : Con w 81 2 [.int x tx, .int y ty] rest (fun r tl => tl = [] ∧ ∃ t, r = .int (tdv x y) t) := by
  have q1 := cut_fact (x := x) hy
  k_with_none
  k_with "my return" => (k_here; exfalso; with_reducible contradiction)
  (have fl9 : Filled KT PySem.Challenge.rw_sa0214_01 := (by k_fill; exact True.intro); intro loose mean mg mb dp un gd cn cs ad ccd cl outer A₀ base h₀ L mf s Q E B F X N T hk hd hu hret; refine wpAny_call ?_; k_dflt cell_enter)
  k_steps
  all_goals first
  | exact hret _ [] _ _ (by k_asm) (by k_asm) ⟨rfl, eq_int (cut_m1 q1 (by assumption))⟩
  | exact hret _ [] _ _ (by k_asm) (by k_asm) ⟨rfl, eq_int (cut_m2 q1 (by assumption))⟩
theorem c_idiv (w : World) (rest : List (Addr × Obj)) (x y : Int) (tx ty tw : Tok) (hx : x.natAbs < 1000) (hy : y ≠ 0) (hy1 : y.natAbs < 10000) : Con w 88 6 [.int x tx, .int y ty, .int 32 tw] rest (fun r tl => tl = [] ∧ ∃ t, r = .int (tdv x y) t) := by
  obtain ⟨b1, b2⟩ := tdv_small (x := x) (y := y) hx
  k_with_none
  k_with "my return" => (k_here; exfalso; with_reducible contradiction)
  k_with "my call" => (k_here; (with_reducible show wpAny _ _ (call (Value.ref 53) _) _ _ _); k_dflt (focus ((refine' Con.use (c_fit _ _ _ _ _ ?_ ?_) ?_ ?_ ?_ ?_ ?_ ?_ ?_ ?_ ?_); (walk_at "my use"); (· first | omega | k_extra "fit"); (· first | omega | k_extra "fit"); intro r9 tl9 h9 tk9 F9 N9 hR9; (try dsimp only at hR9); obtain ⟨ea9, t9, eb9⟩ := hR9; subst ea9; subst eb9; (try simp only [List.nil_append] at N9); (try dsimp only); (try k_fold))))
  k_with "my call" => (k_here; (with_reducible show wpAny _ _ (call (Value.ref 81) _) _ _ _); (walk_at "my enter"))
  k_with "my call" => (k_here; (with_reducible show wpAny _ _ (call (Value.ref 81) _) _ _ _); k_dflt (focus ((refine' Con.use (c_cut _ _ _ _ _ _ ?_ ?_) ?_ ?_ ?_ ?_ ?_ ?_ ?_ ?_ ?_); (walk_at "my use"); (· first | with_reducible assumption | omega); (· first | with_reducible assumption | omega); intro r9 tl9 h9 tk9 F9 N9 hR9; (try dsimp only at hR9); obtain ⟨ea9, t9, eb9⟩ := hR9; subst ea9; subst eb9; (try simp only [List.nil_append] at N9); (try dsimp only); (try k_fold))))
  (have fl9 : Filled KT PySem.Challenge.rw_sa0214_01 := (by k_fill; exact True.intro); intro loose mean mg mb dp un gd cn cs ad ccd cl outer A₀ base h₀ L mf s Q E B F X N T hk hd hu hret; refine wpAny_call ?_; k_dflt cell_enter)
  k_steps
  all_goals first
  | (exfalso; contradiction)
  | exact hret _ [] _ _ (by k_asm) (by k_asm) ⟨rfl, eq_int rfl⟩
theorem c_iszI (w : World) (rest : List (Addr × Obj)) (n : Int) (tn : Tok) (hn : n ≠ 0) : Con w 257 2 [.int n tn] rest (fun r tl => tl = [] ∧ r = .bool false) := by
  have n' : (n == 0) = false := by simpa using hn
  k_with_none
  k_with "my return" => (k_here; exfalso; with_reducible contradiction)
  (have fl9 : Filled KT PySem.Challenge.rw_sa0214_01 := (by k_fill; exact True.intro); intro loose mean mg mb dp un gd cn cs ad ccd cl outer A₀ base h₀ L mf s Q E B F X N T hk hd hu hret; refine wpAny_call ?_; k_dflt cell_enter)
  k_steps
  all_goals (refine hret _ [] _ _ (by k_asm) (by k_asm) ⟨rfl, by rw [n']⟩)
theorem c_worthI (w : World) (rest : List (Addr × Obj)) (n : Int) (tk tn : Tok) : Con w 300 2 [.int 0 tk, .int n tn] rest (fun r tl => tl = [] ∧ ∃ t, r = .int n t) := by
  k_with_none
  k_with "my return" => (k_here; exfalso; with_reducible contradiction)
  k_with "my call" => (k_here; (with_reducible show wpAny _ _ (call (Value.ref 152) _) _ _ _); k_dflt (focus ((refine' Con.use (c_rr0 _ _ _ _ _ _ _ _ _ ?_ ?_) ?_ ?_ ?_ ?_ ?_ ?_ ?_ ?_ ?_); (walk_at "my use"); (· first | with_reducible assumption | omega | k_extra "hz"); (· first | with_reducible assumption | omega); intro r9 tl9 h9 tk9 F9 N9 hR9; obtain ⟨ea9, eb9⟩ := hR9; subst ea9; subst eb9; (try simp only [List.nil_append] at N9); (try dsimp only); (try k_fold))))
  k_with "my call" => (k_here; (with_reducible show wpAny _ _ (call (Value.ref 152) _) _ _ _); k_dflt (focus ((refine' Con.use (c_rrS _ _ _ _ _ _ _ _ _ ?_ ?_ ?_ ?_) ?_ ?_ ?_ ?_ ?_ ?_ ?_ ?_ ?_); (walk_at "my use"); (· first | with_reducible assumption | omega | k_extra "hp"); (· first | with_reducible assumption | omega | k_extra "hq"); (· first | with_reducible assumption | omega | k_extra "hr"); (· first | with_reducible assumption | omega | k_extra "ht"); intro r9 tl9 h9 tk9 F9 N9 hR9; obtain ⟨D9, u9, v9, m9, e9, j9, ea9, eb9, hm9, he9, hn9⟩ := hR9; subst ea9; subst eb9; (try simp only [List.nil_append, List.cons_append] at N9); (try dsimp only); (try k_fold))))
  k_with "my call" => (k_here; (with_reducible show wpAny _ _ (call (Value.ref 152) _) _ _ _); k_dflt (focus ((refine' Con.use (c_rrB _ _ _ _ _ _ _ _ _ ?_ ?_ ?_ ?_ ?_ ?_) ?_ ?_ ?_ ?_ ?_ ?_ ?_ ?_ ?_); (walk_at "my use"); (· first | with_reducible assumption | omega); (· first | with_reducible assumption | omega); (· first | with_reducible assumption | omega); (· first | with_reducible assumption | omega); (· first | with_reducible assumption | omega); (· first | with_reducible assumption | omega); intro r9 tl9 h9 tk9 F9 N9 hR9; obtain ⟨D9, u9, v9, m9, e9, j9, q9, ea9, eb9, hm9, he9, hn9, ho9⟩ := hR9; subst ea9; subst eb9; (try simp only [List.nil_append, List.cons_append] at N9); (try dsimp only); (try k_fold))))
  (have fl9 : Filled KT PySem.Challenge.rw_sa0214_01 := (by k_fill; exact True.intro); intro loose mean mg mb dp un gd cn cs ad ccd cl outer A₀ base h₀ L mf s Q E B F X N T hk hd hu hret; refine wpAny_call ?_; k_dflt cell_enter)
  k_steps
  all_goals (refine hret _ [] _ _ (by k_asm) (by k_asm) ⟨rfl, eq_int rfl⟩)
theorem c_rounds0 (w : World) (q : Addr × Obj) (rest : List (Addr × Obj)) (f l st : Int) (tk tf tl0 ts : Tok) (hs : st ≠ 0) (hf1 : f.natAbs < 3000) (hl1 : l.natAbs < 3000) (hs1 : st.natAbs < 50) (hd1 : (l - f).natAbs < 900) :
    Con w 307 14 [.int 0 tk, .int f tf, .int l tl0, .int st ts] (q :: rest) (fun r tl => tl = [] ∧ ∃ t, r = .int (rounds f l st) t) := by
  obtain ⟨b1, b2⟩ := tdv_small (x := l - f + st) (y := st) (by omega)
  k_with_none
  k_with "my return" => (k_here; exfalso; with_reducible contradiction)
  k_with "my call" => (k_here; (with_reducible show wpAny _ _ (call (Value.ref 300) _) _ _ _); k_dflt (focus ((refine' Con.use (v_worth _ _ _ _ _ _ _ ?_ ?_) ?_ ?_ ?_ ?_ ?_ ?_ ?_ ?_ ?_); (walk_at "my use"); (· first | exact Or.inl rfl | exact Or.inr rfl | with_reducible assumption); (· first | with_reducible assumption | omega); intro r9 tl9 h9 tk9 F9 N9 hR9; obtain ⟨p9, ea9, hp9⟩ := hR9; subst ea9; (try simp only [List.nil_append, List.cons_append] at N9); (try dsimp only); (try k_fold))))
  k_with "my call" => (k_here; (with_reducible show wpAny _ _ (call (Value.ref 194) _) _ _ _); k_dflt (focus ((refine' Con.use (v_sub _ _ _ _ _ _ ?_ ?_ ?_ ?_ ?_ ?_ ?_ ?_) ?_ ?_ ?_ ?_ ?_ ?_ ?_ ?_ ?_); (walk_at "my use"); (any_goals ((with_reducible first | show NmP _ _ _ | show QuoP _ _ _); with_reducible assumption)); (· (with_reducible (repeat (first | assumption | exact List.mem_cons_self | refine List.mem_cons_of_mem _ ?_)))); (· (with_reducible (repeat (first | assumption | exact List.mem_cons_self | refine List.mem_cons_of_mem _ ?_)))); (· first | with_reducible assumption | omega); (· first | with_reducible assumption | omega); (· first | with_reducible assumption | omega); (· first | with_reducible assumption | omega); intro r9 tl9 h9 tk9 F9 N9 hR9; obtain ⟨p9, ea9, hp9⟩ := hR9; subst ea9; (try simp only [List.nil_append, List.cons_append] at N9); (try dsimp only); (try k_fold))))
  k_with "my call" => (k_here; (with_reducible show wpAny _ _ (call (Value.ref 187) _) _ _ _); k_dflt (focus ((refine' Con.use (v_add _ _ _ _ _ _ ?_ ?_ ?_ ?_ ?_ ?_ ?_ ?_) ?_ ?_ ?_ ?_ ?_ ?_ ?_ ?_ ?_); (walk_at "my use"); (any_goals ((with_reducible first | show NmP _ _ _ | show QuoP _ _ _); with_reducible assumption)); (· (with_reducible (repeat (first | assumption | exact List.mem_cons_self | refine List.mem_cons_of_mem _ ?_)))); (· (with_reducible (repeat (first | assumption | exact List.mem_cons_self | refine List.mem_cons_of_mem _ ?_)))); (· first | with_reducible assumption | omega); (· first | with_reducible assumption | omega); (· first | with_reducible assumption | omega); (· first | with_reducible assumption | omega); intro r9 tl9 h9 tk9 F9 N9 hR9; obtain ⟨p9, ea9, hp9⟩ := hR9; subst ea9; (try simp only [List.nil_append, List.cons_append] at N9); (try dsimp only); (try k_fold))))
  k_with "my call" => (k_here; (with_reducible show wpAny _ _ (call (Value.ref 208) _) _ _ _); k_dflt (focus ((refine' Con.use (v_div _ _ _ _ _ _ ?_ ?_ ?_ ?_ ?_ ?_ ?_ ?_ ?_) ?_ ?_ ?_ ?_ ?_ ?_ ?_ ?_ ?_); (walk_at "my use"); (any_goals ((with_reducible first | show NmP _ _ _ | show QuoP _ _ _); with_reducible assumption)); (· (with_reducible (repeat (first | assumption | exact List.mem_cons_self | refine List.mem_cons_of_mem _ ?_)))); (· (with_reducible (repeat (first | assumption | exact List.mem_cons_self | refine List.mem_cons_of_mem _ ?_)))); (· first | with_reducible assumption | omega); (· first | with_reducible assumption | omega); (· first | with_reducible assumption | omega); (· first | with_reducible assumption | omega); (· first | with_reducible assumption | omega); intro r9 tl9 h9 tk9 F9 N9 hR9; obtain ⟨p9, ea9, hp9⟩ := hR9; subst ea9; (try simp only [List.nil_append, List.cons_append] at N9); (try dsimp only); (try k_fold))))
  k_with "my call" => (k_here; (with_reducible show wpAny _ _ (call (Value.ref 222) _) _ _ _); k_dflt (focus ((refine' Con.use (v_rti _ _ _ ?_ ?_) ?_ ?_ ?_ ?_ ?_ ?_ ?_ ?_ ?_); (walk_at "my use"); (any_goals ((with_reducible first | show NmP _ _ _ | show QuoP _ _ _); with_reducible assumption)); (· (with_reducible (repeat (first | assumption | exact List.mem_cons_self | refine List.mem_cons_of_mem _ ?_)))); intro r9 tl9 h9 tk9 F9 N9 hR9; (try dsimp only at hR9); obtain ⟨ea9, t9, eb9⟩ := hR9; subst ea9; subst eb9; (try simp only [List.nil_append] at N9); (try dsimp only); (try k_fold))))
  k_with "my call" => (k_here; (with_reducible show wpAny _ _ (call (Value.ref 257) _) _ _ _); k_dflt (focus ((refine' Con.use (v_isz _ _ ?_ ?_ ?_) ?_ ?_ ?_ ?_ ?_ ?_ ?_ ?_ ?_); (walk_at "my use"); (any_goals ((with_reducible first | show NmP _ _ _ | show QuoP _ _ _); with_reducible assumption)); (· (with_reducible (repeat (first | assumption | exact List.mem_cons_self | refine List.mem_cons_of_mem _ ?_)))); (· first | with_reducible assumption | omega); intro r9 tl9 h9 tk9 F9 N9 hR9; obtain ⟨ea9, eb9⟩ := hR9; subst ea9; subst eb9; (try simp only [List.nil_append] at N9); (try dsimp only); (try k_fold))))
  k_with "my call" => (k_here; (with_reducible show wpAny _ _ (call (Value.ref 53) _) _ _ _); k_dflt (focus ((refine' Con.use (c_fit _ _ _ _ _ ?_ ?_) ?_ ?_ ?_ ?_ ?_ ?_ ?_ ?_ ?_); (walk_at "my use"); (· first | omega | k_extra "fit"); (· first | omega | k_extra "fit"); intro r9 tl9 h9 tk9 F9 N9 hR9; (try dsimp only at hR9); obtain ⟨ea9, t9, eb9⟩ := hR9; subst ea9; subst eb9; (try simp only [List.nil_append] at N9); (try dsimp only); (try k_fold))))
  k_with "my call" => (k_here; (with_reducible show wpAny _ _ (call (Value.ref 250) _) _ _ _); (walk_at "my enter"))
  k_with "my call" => (k_here; (with_reducible show wpAny _ _ (call (Value.ref 243) _) _ _ _); (walk_at "my enter"))
  k_with "my call" => (k_here; (with_reducible show wpAny _ _ (call (Value.ref 264) _) _ _ _); (walk_at "my enter"))
  k_with "my call" => (k_here; (with_reducible show wpAny _ _ (call (Value.ref 123) _) _ _ _); (walk_at "my enter"))
  k_with "my call" => (k_here; (with_reducible show wpAny _ _ (call (Value.ref 60) _) _ _ _); (walk_at "my enter"))
  k_with "my call" => (k_here; (with_reducible show wpAny _ _ (call (Value.ref 67) _) _ _ _); (walk_at "my enter"))
  k_with "my call" => (k_here; (with_reducible show wpAny _ _ (call (Value.ref 88) _) _ _ _); (walk_at "my enter"))
  k_with "my call" => (k_here; (with_reducible show wpAny _ _ (call (Value.ref 282) _) _ _ _); k_dflt (focus ((refine' Con.use (c_limits _ _) ?_ ?_ ?_ ?_ ?_ ?_ ?_ ?_ ?_); (walk_at "my use"); intro r9 tl9 h9 tk9 F9 N9 hR9; obtain ⟨D9, d9, n9, k19, u19, k29, u29, k39, u39, k49, u49, k59, u59, k69, u69, k79, u79, k89, u89, ea9, eb9⟩ := hR9; subst ea9; subst eb9; (try simp only [List.nil_append, List.cons_append] at N9); (try dsimp only); (try k_fold))))
  k_with "my call" => (k_here; (with_reducible show wpAny _ _ (call (Value.ref 88) _) _ _ _); k_dflt (focus ((refine' Con.use (c_idiv _ _ _ _ _ _ _ ?_ ?_ ?_) ?_ ?_ ?_ ?_ ?_ ?_ ?_ ?_ ?_); (walk_at "my use"); (· first | with_reducible assumption | omega); (· first | with_reducible assumption | omega); (· first | with_reducible assumption | omega); intro r9 tl9 h9 tk9 F9 N9 hR9; (try dsimp only at hR9); obtain ⟨ea9, t9, eb9⟩ := hR9; subst ea9; subst eb9; (try simp only [List.nil_append] at N9); (try dsimp only); (try k_fold))))
  k_with "my call" => (k_here; (with_reducible show wpAny _ _ (call (Value.ref 257) _) _ _ _); k_dflt (focus ((refine' Con.use (c_iszI _ _ _ _ ?_) ?_ ?_ ?_ ?_ ?_ ?_ ?_ ?_ ?_); (walk_at "my use"); (· first | with_reducible assumption | omega); intro r9 tl9 h9 tk9 F9 N9 hR9; obtain ⟨ea9, eb9⟩ := hR9; subst ea9; subst eb9; (try simp only [List.nil_append] at N9); (try dsimp only); (try k_fold))))
  k_with "my call" => (k_here; (with_reducible show wpAny _ _ (call (Value.ref 300) _) _ _ _); k_dflt (focus ((refine' Con.use (c_worthI _ _ _ _ _) ?_ ?_ ?_ ?_ ?_ ?_ ?_ ?_ ?_); (walk_at "my use"); intro r9 tl9 h9 tk9 F9 N9 hR9; (try dsimp only at hR9); obtain ⟨ea9, t9, eb9⟩ := hR9; subst ea9; subst eb9; (try simp only [List.nil_append] at N9); (try dsimp only); (try k_fold))))
  (have fl9 : Filled KT PySem.Challenge.rw_sa0214_01 := (by k_fill; exact True.intro); intro loose mean mg mb dp un gd cn cs ad ccd cl outer A₀ base h₀ L mf s Q E B F X N T hk hd hu hret; refine wpAny_call ?_; k_dflt cell_enter)
  k_steps
  all_goals first
  | exact hret _ [] _ _ (by k_asm) (by (first | (refine sub_drop (by with_reducible assumption) ?_; (try simp only [List.nil_append, List.cons_append]); (with_reducible (repeat' (first | exact fun _ h => h | refine sub_same ?_ | refine sub_more ?_))); done) | k_asm | (refine sub_drop (by assumption) ?_; repeat' (first | exact fun _ h => h | refine sub_same ?_ | refine sub_more ?_)))) ⟨rfl, eq_int rfl⟩
  | (exfalso; contradiction)
  | skip

theorem tdv_nonneg {x y : Int} (hx : 0 ≤ x) (hy : 0 < y) : tdv x y = x / y := by
  unfold tdv
  rw [decide_eq_false (by omega), decide_eq_false (by omega), if_neg (by decide)]
  rw [Int.natCast_ediv, Int.natAbs_of_nonneg hx, Int.natAbs_of_nonneg (by omega)]
theorem tdv_negpos {x y : Int} (hx : x < 0) (hy : 0 < y) : tdv x y ≤ 0 := by
  unfold tdv
  rw [decide_eq_true hx, decide_eq_false (by omega), if_pos (by decide)]
  have : (0 : Int) ≤ ((x.natAbs / y.natAbs : Nat) : Int) := Int.natCast_nonneg _
  omega
theorem tdv_neg {x y : Int} (hy : y ≠ 0) : tdv (-x) (-y) = tdv x y := by
  unfold tdv
  rw [Int.natAbs_neg, Int.natAbs_neg]
  by_cases h0 : x = 0
  · subst h0; simp
  · have e1 : decide (-x < 0) = !decide (x < 0) := by by_cases h : x < 0 <;> simp [h] <;> omega
    have e2 : decide (-y < 0) = !decide (y < 0) := by by_cases h : y < 0 <;> simp [h] <;> omega
    rw [e1, e2]
    cases decide (x < 0) <;> cases decide (y < 0) <;> rfl
theorem rounds_neg {f l st : Int} (h : st ≠ 0) : rounds (-f) (-l) (-st) = rounds f l st := by
  unfold rounds
  have e : -l - -f + -st = -(l - f + st) := by omega
  rw [e, tdv_neg h]
theorem rounds_pos {f l st : Int} (h : 0 < st) : rounds f l st = if l - f + st < 0 then 0 else (l - f + st) / st := by
  unfold rounds
  by_cases h0 : l - f + st < 0
  · have := tdv_negpos h0 h
    rw [if_pos h0]
    split <;> omega
  · rw [if_neg h0, tdv_nonneg (by omega) h, if_neg]
    have := Int.ediv_nonneg (a := l - f + st) (b := st) (by omega) (by omega)
    omega
theorem count_pos {f l st c : Int} (h : 0 < st) (hc : c = rounds f l st) : 0 ≤ c ∧ 0 < (f + c * st - l) * st ∧ (0 < c → (f + (c - 1) * st - l) * st ≤ 0) := by
  rw [rounds_pos h] at hc
  by_cases h0 : l - f + st < 0
  · rw [if_pos h0] at hc
    subst hc
    refine ⟨by omega, Int.mul_pos (by omega) h, fun k => absurd k (by omega)⟩
  · rw [if_neg h0] at hc
    have hd := Int.emod_add_mul_ediv (l - f + st) st
    have hr0 := Int.emod_nonneg (l - f + st) (show st ≠ 0 by omega)
    have hr1 := Int.emod_lt_of_pos (l - f + st) h
    have hq0 := Int.ediv_nonneg (a := l - f + st) (b := st) (by omega) (by omega)
    rw [← hc] at hd hq0
    rw [Int.mul_comm st c] at hd
    refine ⟨hq0, Int.mul_pos (by omega) h, fun _ => ?_⟩
    have e : (c - 1) * st = c * st - st := by rw [Int.sub_mul, Int.one_mul]
    refine Int.mul_nonpos_of_nonpos_of_nonneg ?_ (by omega)
    omega
theorem mul_flip {a b c d f l : Int} (h : (-f + c * -d - -l) = -(f + c * d - l)) : (-f + c * -d - -l) * -d = (f + c * d - l) * d := by
  rw [h, Int.neg_mul_neg]
theorem count_all {f l st c : Int} (h : st ≠ 0) (hc : c = rounds f l st) : 0 ≤ c ∧ 0 < (f + c * st - l) * st ∧ (0 < c → (f + (c - 1) * st - l) * st ≤ 0) := by
  rcases Int.lt_or_gt_of_ne h with hn | hp
  · have := count_pos (f := -f) (l := -l) (st := -st) (c := c) (by omega) (by rw [rounds_neg h]; exact hc)
    have e1 : -f + c * -st - -l = -(f + c * st - l) := by rw [Int.mul_neg]; omega
    have e2 : -f + (c - 1) * -st - -l = -(f + (c - 1) * st - l) := by rw [Int.mul_neg]; omega
    rw [e1, e2, Int.neg_mul_neg, Int.neg_mul_neg] at this
    exact this
  · exact count_pos hp hc
theorem rounds_shift {f l st s : Int} : rounds (f + s) (l + s) st = rounds f l st := by
  unfold rounds
  rw [show l + s - (f + s) + st = l - f + st by omega]
theorem rounds_wide_pos {f l st k : Int} (h : 0 < st) (hk : 0 < k) : rounds (k * f) (k * l) (k * st) = rounds f l st := by
  rw [rounds_pos h, rounds_pos (Int.mul_pos hk h)]
  have e : k * l - k * f + k * st = k * (l - f + st) := by rw [Int.mul_add, Int.mul_sub]
  rw [e, Int.mul_ediv_mul_of_pos _ _ hk]
  by_cases h0 : l - f + st < 0
  · rw [if_pos h0, if_pos (Int.mul_neg_of_pos_of_neg hk h0)]
  · rw [if_neg h0, if_neg (by have := Int.mul_nonneg (a := k) (b := l - f + st) (by omega) (by omega); omega)]
theorem rounds_wide {f l st k : Int} (h : st ≠ 0) (hk : 0 < k) : rounds (k * f) (k * l) (k * st) = rounds f l st := by
  rcases Int.lt_or_gt_of_ne h with hn | hp
  · rw [← rounds_neg h, ← rounds_neg (Int.mul_ne_zero (by omega) h), ← Int.mul_neg, ← Int.mul_neg, ← Int.mul_neg]
    exact rounds_wide_pos (by omega) hk
  · exact rounds_wide_pos hp hk
theorem rounds_cut_pos {f l st c cut : Int} (h : 0 < st) (hc : c = rounds f l st) (h0 : 0 ≤ cut) (h1 : cut ≤ c) : rounds f (f + cut * st - st) st = cut ∧ rounds (f + cut * st) l st = c - cut := by
  rw [rounds_pos h] at hc ⊢
  rw [rounds_pos h]
  have hcs := Int.mul_nonneg h0 (Int.le_of_lt h)
  refine ⟨?_, ?_⟩
  · rw [show f + cut * st - st - f + st = cut * st by omega, if_neg (by omega), Int.mul_ediv_cancel _ (by omega)]
  · by_cases hn : l - f + st < 0
    · rw [if_pos hn] at hc
      have : cut = 0 := by omega
      subst this
      rw [Int.zero_mul, Int.add_zero, if_pos hn]
      omega
    · rw [if_neg hn] at hc
      have hd := Int.emod_add_mul_ediv (l - f + st) st
      have hr0 := Int.emod_nonneg (l - f + st) (show st ≠ 0 by omega)
      rw [← hc] at hd
      have e : l - (f + cut * st) + st = l - f + st + (-cut) * st := by rw [Int.neg_mul]; omega
      have hm : (c - cut) * st = c * st - cut * st := Int.sub_mul _ _ _
      have hm0 := Int.mul_nonneg (a := c - cut) (b := st) (by omega) (by omega)
      rw [Int.mul_comm st c] at hd
      rw [if_neg (by omega), e, Int.add_mul_ediv_right _ _ (by omega), ← hc]
      omega
theorem rounds_cut {f l st c cut : Int} (h : st ≠ 0) (hc : c = rounds f l st) (h0 : 0 ≤ cut) (h1 : cut ≤ c) : rounds f (f + cut * st - st) st = cut ∧ rounds (f + cut * st) l st = c - cut := by
  rcases Int.lt_or_gt_of_ne h with hn | hp
  · have := rounds_cut_pos (f := -f) (l := -l) (st := -st) (c := c) (cut := cut) (by omega) (by rw [rounds_neg h]; exact hc) h0 h1
    have e1 : -f + cut * -st - -st = -(f + cut * st - st) := by rw [Int.mul_neg]; omega
    have e2 : -f + cut * -st = -(f + cut * st) := by rw [Int.mul_neg]; omega
    rw [e1, e2, rounds_neg h, rounds_neg h] at this
    exact this
  · exact rounds_cut_pos hp hc h0 h1

/-- the rope: the script and how many of it are pulled -/
abbrev Rope (w : World) (o : Obj) (l : Addr) (k : Int) (t : Tok) : Prop := o.IsDictOf (PySem.strKind PySem.Challenge.rw_sa0214_01.row.prog w) [(Str.ofString "script", Value.ref l), (Str.ofString "pulled", Value.int k t)]
theorem fm_lo {x m : Int} (h : 0 < m) : 0 ≤ x.fmod m := by rw [Int.fmod_eq_emod_of_nonneg x (by omega)]; exact Int.emod_nonneg x (by omega)
theorem fm_hi {x m : Int} (h : 0 < m) : x.fmod m < m := by rw [Int.fmod_eq_emod_of_nonneg x (by omega)]; exact Int.emod_lt_of_pos x h
theorem c_pull (w : World) (p1 p2 : Addr × Obj) (d : Addr) (o : Obj) (l : Addr) (vs : List Value) (ns : List Int) (k many : Int) (t tm : Tok) (hk0 : 0 ≤ k) (hm : 0 < many) (ho : Rope w o l k t) (hp1 : p1.1 ≠ d) (hp2 : p2.1 ≠ d) (hI : IntsAre vs ns) (hlen : ns.length < 4611686018427387904) :
    ∀ (loose : List Str) (mean : ExcName → Option Value) (mg mb : Str → Option Value) (dp un : Nat) (gd : Option (List Code)) (cn : Str) (cs : Scope) (ad : Addr) (ccd : Value) (cl : List (Str × Addr)) (outer : List Env) (A₀ : Around) (base h₀ : Heap) (L : Addr) (mf : Str → Option Value) (s : Shared) (Q E : Value → Shared → Prop),
    Below A₀ base outer h₀ → Fr h₀ L s.heap mf → (KT w.params).In h₀ → News h₀ L s.heap [p1, p2, (d, o)] → Top VT loose mean mg mb h₀ → cs.kind = .function → base.IsList l vs.toArray →
    dp + 2 < recursionLimit → un + 16 < cLine →
    (∀ (v : Int) (o' : Obj) (t' tv : Tok) (h' : Heap) (tk' : Nat), Fr h₀ L h' mf → News h₀ L h' [p1, p2, (d, o')] → Rope w o' l (k + 1) t' → 0 ≤ v → v < many → Q (.int v tv) { s with heap := h', toks := tk' }) →
    wpAny (model PySem.Challenge.rw_sa0214_01.row.prog w) (ktrTop dp un gd cn cs L ad ccd cl outer) (call (.ref 293) [.ref d, .int many tm]) Q E s := by
  k_with_none
  k_with "my return" => (k_here; exfalso; with_reducible contradiction)
  have fl9 : Filled KT PySem.Challenge.rw_sa0214_01 := (by k_fill; exact True.intro)
  obtain ⟨a1, o1⟩ := p1
  obtain ⟨a2, o2⟩ := p2
  dsimp only at hp1 hp2
  unfold Rope at ho
  intro loose mean mg mb dp un gd cn cs ad ccd cl outer A₀ base h₀ L mf s Q E B F X N T hk hL hd hu hret
  refine wpAny_call ?_
  k_dflt cell_enter
  k_steps
  all_goals first
  | exact hret _ _ _ _ _ _ (by k_asm) (by k_asm) (by assumption) (fm_lo hm) (fm_hi hm)
  | (exfalso; omega)
theorem many_pos {R : Int} : 0 < (if 0 > R then 0 else R) + 1 := by split <;> omega
theorem many_le {R v : Int} (h : v < (if 0 > R then 0 else R) + 1) (h0 : 0 ≤ R) : v ≤ R := by rw [if_neg (by omega)] at h; omega
theorem count_of {f l st : Int} (h : st ≠ 0) (_ : 0 ≤ rounds f l st) : 0 < (f + rounds f l st * st - l) * st ∧ (0 < rounds f l st → (f + (rounds f l st - 1) * st - l) * st ≤ 0) := (count_all h rfl).2
theorem pull_use {w : World} {p1 p2 : Addr × Obj} {d : Addr} {o : Obj} {l : Addr} {vs : List Value} {ns : List Int} {k many : Int} {t tm : Tok} {loose : List Str} {mean : ExcName → Option Value} {mg mb : Str → Option Value} {dp un : Nat} {gd : Option (List Code)} {cn : Str} {cs : Scope} {ad : Addr} {ccd : Value} {cl : List (Str × Addr)} {outer : List Env} {A₀ : Around} {base h₀ : Heap} {L : Addr} {mf : Str → Option Value} {s : Shared} {Q E : Value → Shared → Prop}
    (B : Below A₀ base outer h₀) (F : Fr h₀ L s.heap mf) (X : (KT w.params).In h₀) (N : News h₀ L s.heap [p1, p2, (d, o)]) (T : Top VT loose mean mg mb h₀) (hk : cs.kind = .function) (ho : Rope w o l k t) (hL : base.IsList l vs.toArray) (hI : IntsAre vs ns) (hk0 : 0 ≤ k) (hm : 0 < many) (hp1 : p1.1 ≠ d) (hp2 : p2.1 ≠ d) (hlen : ns.length < 4611686018427387904)
    (hd : dp + 2 < recursionLimit) (hu : un + 16 < cLine)
    (ret : ∀ (v : Int) (o' : Obj) (t' tv : Tok) (h' : Heap) (tk' : Nat), Fr h₀ L h' mf → News h₀ L h' [p1, p2, (d, o')] → Rope w o' l (k + 1) t' → 0 ≤ v → v < many → Q (.int v tv) { s with heap := h', toks := tk' }) :
    wpAny (model PySem.Challenge.rw_sa0214_01.row.prog w) (ktrTop dp un gd cn cs L ad ccd cl outer) (call (.ref 293) [.ref d, .int many tm]) Q E s :=
  c_pull w p1 p2 d o l vs ns k many t tm hk0 hm ho hp1 hp2 hI hlen loose mean mg mb dp un gd cn cs ad ccd cl outer A₀ base h₀ L mf s Q E B F X N T hk hL hd hu ret
local macro_rules | `(tactic| walk_at "call ref") => `(tactic| (k_here; (with_reducible show wpAny _ _ (call (Value.ref 293) _) _ _ _); k_dflt ((refine' pull_use ?k1 ?k2 ?k3 ?k4 ?k5 ?kK ?ha ?hb ?hc ?hd ?he ?hf ?hg ?hh ?kd ?ku ?_); (case k1 => first | k_asm | ktn_no "pull: below"); (case k2 => first | k_asm | ktn_no "pull: frame"); (case k3 => first | k_asm | ktn_no "pull: part"); (case k4 => first | k_asm | exact sub_drop (by with_reducible assumption) (sub_more (fun _ h => h)) | exact sub_drop (by with_reducible assumption) (sub_more (sub_more (fun _ h => h))) | ktn_no "pull: ledger"); (case k5 => first | k_asm | ktn_no "pull: top"); (case kK => first | exact rfl | assumption | ktn_no "pull: def"); (case ha => first | k_asm | ktn_no "pull: rope"); (case hb => first | k_asm | ktn_no "pull: list"); (case hc => first | k_asm | ktn_no "pull: ints"); (case hd => omega); (case he => first | decide | omega | exact many_pos); (case hf => ((try dsimp only); first | assumption | k_ne)); (case hg => ((try dsimp only); first | assumption | k_ne)); (case hh => first | with_reducible assumption | omega); (case kd => first | ktr_room | ktn_no "pull: room"); (case ku => first | ktr_units | ktn_no "pull: units"); intro v9 o9 t9 u9 h9 tk9 F9 N9 hd9 hlo9 hhi9; (try dsimp only); (try k_fold))))
theorem c_roundsK (w : World) (q : Addr × Obj) (rest : List (Addr × Obj)) (kd f l st : Int) (tk tf tl0 ts : Tok) (h0 : 0 ≤ kd) (h2 : kd ≤ 2) (hs : st ≠ 0) (hf1 : f.natAbs < 3000) (hl1 : l.natAbs < 3000) (hs1 : st.natAbs < 50) (hd1 : (l - f).natAbs < 900) :
    Con w 307 14 [.int kd tk, .int f tf, .int l tl0, .int st ts] (q :: rest) (fun r tl => tl = [] ∧ ∃ t, r = .int (rounds f l st) t) := by
  have hk : kd = 0 ∨ kd = 1 ∨ kd = 2 := by omega
  rcases hk with rfl | rfl | rfl
  · exact c_rounds0 w q rest f l st tk tf tl0 ts hs hf1 hl1 hs1 hd1
  · exact c_rounds1 w q rest f l st tk tf tl0 ts hs hf1 hl1 hs1 hd1
  · exact c_rounds2 w q rest f l st tk tf tl0 ts hs hf1 hl1 hs1 hd1

section
open PySem.Calls
abbrev rfBm : List Value := [.ref 31, .type "Exception", .type "BaseException", .type "object"]
abbrev RF (h : Heap) : Prop := h.get? 44 = some (excClassObj (Str.ofString "RunFault") (Str.ofString "RunFault") 44 43 [.ref 31] rfBm true [] [] false none none (some (.ref 35)) none (some (.str (Str.ofString "RunFault") 218)) (some (.str (Str.ofString "RunFault") 226)) (some (.bool true)) "Exception.__new__")
theorem rf_obj {w : World} {h : Heap} (X : (KT w.params).In h) : RF h := X 44 _ (by kernel_rfl)
section
variable {w : World} {A : Around} {h : Heap} {g : Array GenState} {d : Drawn} {t : Nat} {os : OsState} {v : Value}
theorem rf_check {M : Model} {E : Value → Shared → Prop} {Q : Unit → Shared → Prop} {rest : List Value} (hC : RF h) (hq : Q () ⟨h, g, d, t, os⟩) : wpAny M A (checkBuiltinCall "Exception.__new__" ⟨.ref 44 :: rest, []⟩) Q E ⟨h, g, d, t, os⟩ := by
  have F := PySem.F.excBase_Exception
  have hcont : (Value.ref 44 :: rfBm).contains (.type "Exception") = true := rfl
  have hstar := F.noStar
  simp only [checkBuiltinCall, F.newKind, F.newSplit, F.newRow]
  repeat (first | refine wpAny_loadPart_at hC ?_ | (refine wpAny_isSubtype_exc hC ?_; rw [hcont]) | refine wpAny_staticBase_exc hC ?_ | refine wpAny_madeBy_exc hC ?_ | simp only [bne_self_eq_false, Bool.false_eq_true, if_false] | wp_step)
  exact hq
abbrev rfTup (v : Value) : Obj := { cls := .type "tuple", data := .seq [v].toArray }
abbrev rfExc (a : Addr) : Obj := { cls := .ref 44, data := .fields #[.ref a, .none, .none, .none, .bool false, .none] }
theorem rf_new {R : Result → Shared → Prop} (hC : RF h) (hq : R (.ok (.ret (.ref (h.objs.size + 1)))) ⟨(h.push (rfTup v)).push (rfExc h.objs.size), g, d, t, os⟩) :
    codeAny (model PySem.Challenge.rw_sa0214_01.row.prog w) A (.builtin "Exception.__new__" ⟨[.ref 44, v], []⟩) R ⟨h, g, d, t, os⟩ := by
  have F := PySem.F.excBase_Exception
  have hends := F.ends
  have hcB : (Value.ref 44 :: rfBm).contains (.type "Exception") = true := rfl
  have hcA : (Value.ref 44 :: rfBm).contains (.type "AttributeError") = false := by decide
  have hcN : (Value.ref 44 :: rfBm).contains (.type "NameError") = false := by decide
  refine codeAny_builtinAt F.entry ?_
  unfold Builtin.«BaseException.__new__»
  refine PySem.wpAt_bind ?_
  show PySem.wpAt _ _ _ (stack >>= _) _ _ _
  refine PySem.wpAt_bind (PySem.wpAt_stack fun p below => PySem.wpAt_of_wpAny ?_)
  wp_walk
  refine PySem.wpAt_of_wpAny ?_
  rw [F.owner]
  repeat (first | with_reducible refine wpAny_madeHere_exc F.canon hC ?_ | with_reducible refine wpAny_loadPart_at hC ?_ | (with_reducible refine wpAny_isSubtype_exc hC ?_; first | rw [hcB] | rw [hcA] | rw [hcN]) | wp_step)
  show R _ _
  rw [Heap.size_push]
  exact hq
theorem rf_call {Q E : Value → Shared → Prop} (X : (KT w.params).In h)
    (hq : codeAny (model PySem.Challenge.rw_sa0214_01.row.prog w) (A.under (.builtin "type.__call__" ⟨[.ref 44, v], []⟩)) (.call (.ref 28) ⟨[.ref (h.objs.size + 1), v], []⟩)
      (InitBack (h.objs.size + 1) fun r s' => match r with | .ok (.ret v) => Q v s' | .ok _ => False | .error e => E e s') ⟨(h.push (rfTup v)).push (rfExc h.objs.size), g, d, t, os⟩) :
    wpAny (model PySem.Challenge.rw_sa0214_01.row.prog w) A (call (.ref 44) [v]) Q E ⟨h, g, d, t, os⟩ := by
  have F := PySem.F.excBase_Exception
  have hC := rf_obj X
  have f1 := tc_lookup
  have f2 := tc_bind (.ref 44)
  have hT : (⟨h, g, d, t, os⟩ : Shared).TypeIs (.ref 44) "type" := ⟨_, hC, rfl⟩
  refine wpAny_call (codeAny_of_tree ?_)
  show wpAny _ _ (callAny (.ref 44) _) _ _ _
  repeat (any_goals (first | assumption | with_reducible refine wpAny_loadPart_at hC ?_ | wp_step))
  refine ⟨rfl, ?_⟩
  refine codeAny_call_builtin_at (Code.quiet_builtin _ (by decide +kernel)) entry_typeCall (wpAny_check_type_call_sub hC ?_)
  repeat (first | with_reducible refine wpAny_loadPart_at hC ?_ | with_reducible refine wpAny_madeBy_exc hC ?_ | wp_step)
  refine codeAny_call_builtin_code (Code.quiet_builtin _ F.quiet) (rf_check hC ?_)
  refine rf_new hC ?_
  show wpAny _ _ _ _ _ _
  have k : ∀ b o, h.get? b = some o → ((h.push (rfTup v)).push (rfExc h.objs.size)).get? b = some o := fun b o e => Heap.get?_push_of_some _ (Heap.get?_push_of_some _ e)
  have hC₁ := k _ _ hC
  have X₁ : (KT w.params).In ((h.push (rfTup v)).push (rfExc h.objs.size)) := X.keeps k
  have hget : ((h.push (rfTup v)).push (rfExc h.objs.size)).get? (h.objs.size + 1) = some (rfExc h.objs.size) := by heap_get
  have hcC : (Value.ref 44 :: rfBm).contains (.ref 44) = true := rfl
  have hi : findIn (KT w.params) (.ref 44) "__init__" = some (some (.ref 28)) := by kernel_rfl
  have hf : typeIn (KT w.params) (.ref 28) = some (.type "function") := by kernel_rfl
  unfold isInstance
  repeat (first | with_reducible refine wpAny_loadPart_at hget ?_ | (with_reducible refine wpAny_isSubtype_exc hC₁ ?_; rw [hcC]) | wp_step)
  show wpAny _ _ (typeLookup (.ref 44) _) _ _ _
  refine (looks_findIn X₁ hi).at ?_
  refine wpAny_holding (wpAny_bind ((bind_fn X₁ _ hf).at ?_))
  refine wpAny_bind (wpAny_call ?_)
  refine codeAny_mono hq fun r s' z => ?_
  rcases r with e | (v | _ | _ | _) <;> first | exact z | exact z.elim | skip
  obtain ⟨rfl, z⟩ := z
  exact wpAny_pure (wpAny_pure z)
end
theorem rf_row {w : World} {A : Around} {s : Shared} {Q E : Value → Shared → Prop} {h₀ : Heap} {L : Addr} {m : Str → Option Value} {news : List (Addr × Obj)} {v : Value} (F : Fr h₀ L s.heap m) (X : (KT w.params).In h₀) (N : News h₀ L s.heap news)
    (h : ∀ (x tx : Addr) (h' : Heap), Fr h₀ L h' m → News h₀ L h' ((x, rfExc tx) :: (tx, rfTup v) :: news) → (∀ p ∈ (tx, rfTup v) :: news, p.1 < x) → codeAny (model PySem.Challenge.rw_sa0214_01.row.prog w) (A.under (.builtin "type.__call__" ⟨[.ref 44, v], []⟩)) (.call (.ref 28) ⟨[.ref x, v], []⟩)
      (InitBack x fun r s' => match r with | .ok (.ret v) => Q v s' | .ok _ => False | .error e => E e s') { s with heap := h' }) :
    wpAny (model PySem.Challenge.rw_sa0214_01.row.prog w) A (call (.ref 44) [v]) Q E s := by
  obtain ⟨hh, g, d, t, os⟩ := s
  refine rf_call (X.keeps F.keep) (h _ hh.objs.size _ ((F.push _).push _) ?_ (fun p hp => by
    rcases List.mem_cons.mp hp with rfl | hp
    · exact Nat.lt_succ_self _
    · exact Nat.lt_succ_of_lt (Heap.lt_size (N p hp).1)))
  have := (N.push F (rfTup v)).push (F.push _) (rfExc hh.objs.size)
  rwa [Heap.size_push] at this
theorem rf_chk {M : Model} {E : Value → Shared → Prop} {A : Around} {h : Heap} {g : Array GenState} {d : Drawn} {t : Nat} {os : OsState} {x : Addr} {oe : Obj} {rest : List Value} {Q : Unit → Shared → Prop} (hC : RF h) (he : h.get? x = some oe) (hcls : oe.cls = .ref 44) (hq : Q () ⟨h, g, d, t, os⟩) :
    wpAny M A (checkBuiltinCall "Exception.__init__" ⟨.ref x :: rest, []⟩) Q E ⟨h, g, d, t, os⟩ := by
  have F := PySem.F.excBase_Exception
  have hcB : (Value.ref 44 :: rfBm).contains (.type "Exception") = true := rfl
  have hshort := F.noStar
  simp only [checkBuiltinCall, F.initKind, F.initSplit, F.initRow]
  repeat (first | (with_reducible refine wpAny_loadPart_at he ?_; rw [hcls]) | with_reducible refine wpAny_loadPart_at hC ?_ | (with_reducible refine wpAny_isSubtype_exc hC ?_; rw [hcB]) | wp_step)
  refine wpAny_onRaise ?_
  rw [show ∀ (a b : String) (n : Nat), Bind.check ⟨.positional, "*", "Exception", .self, [⟨"args", .varPos, false⟩]⟩ a b n (List.map (fun x => x.fst) ({ pos := Value.ref x :: rest } : Args).kw) = pure () from
    fun a b n => check_star_args _ _ _ _ _ _]
  exact wpAny_pure hq
theorem rf_init {w : World} {A : Around} {s : Shared} {Q E : Value → Shared → Prop} {h₀ : Heap} {L : Addr} {m : Str → Option Value} {news : List (Addr × Obj)} {v : Value} {x tx : Addr} (F : Fr h₀ L s.heap m) (X : (KT w.params).In h₀) (N : News h₀ L s.heap ((x, rfExc tx) :: news))
    (h2 : ∀ p ∈ news, p.1 ≠ x)
    (h : ∀ (ty : Addr) (h' : Heap), Fr h₀ L h' m → News h₀ L h' ((ty, rfTup v) :: (x, rfExc ty) :: news) → x < ty → (∀ p ∈ (x, rfExc ty) :: news, p.1 < ty) → Q .none { s with heap := h' }) :
    wpAny (model PySem.Challenge.rw_sa0214_01.row.prog w) A (call (.builtin "Exception.__init__") [.ref x, v]) Q E s := by
  obtain ⟨hh, g, d, t, os⟩ := s
  have F9 := PySem.F.excBase_Exception
  have hC := rf_obj (X.keeps F.keep)
  have he := (N _ (.head _)).1
  refine wpAny_call (codeAny_call_builtin F9.init.plain F9.initEntry (rf_chk hC he rfl ?_))
  wp_walk
  have N1 := N.push F (rfTup v)
  obtain ⟨F2, N2⟩ := news_upd (pre := [(hh.objs.size, rfTup v)]) (post := news) (f := Obj.mapFields fun x => x.setIfInBounds 0 (Value.ref hh.objs.size)) (o' := rfExc hh.objs.size) (F.push (rfTup v)) N1 (fun p hp => by
    rcases List.mem_singleton.mp hp with rfl
    exact Nat.ne_of_gt (Heap.lt_size he)) h2 rfl rfl
  exact h _ _ F2 N2 (Heap.lt_size he) fun p hp => by
    rcases List.mem_cons.mp hp with rfl | hp
    · exact Heap.lt_size he
    · exact Heap.lt_size (N p (.tail _ hp)).1
abbrev rfExcD (a dx : Addr) : Obj := { cls := .ref 44, dict := some dx, data := .fields #[.ref a, .none, .none, .none, .bool false, .none] }
theorem rf_refuse (x : Addr) : refuseLoop (.ref x) "__setattr__" (.ref 44 :: rfBm) = pure () := by rw [refuseLoop_ref, refuseLoop_ref]; kernel_rfl
theorem rf_set {w : World} {A : Around} {s : Shared} {Q : Unit → Shared → Prop} {E : Value → Shared → Prop} {h₀ : Heap} {L : Addr} {m : Str → Option Value} {pre post : List (Addr × Obj)} {v : Value} {x tx : Addr} (F : Fr h₀ L s.heap m) (X : (KT w.params).In h₀) (N : News h₀ L s.heap (pre ++ (x, rfExc tx) :: post))
    (h1 : ∀ p ∈ pre, p.1 ≠ x) (h2 : ∀ p ∈ post, p.1 ≠ x)
    (h : ∀ (dx : Addr) (h' : Heap) (tk' : Nat), Fr h₀ L h' m → News h₀ L h' (pre ++ (x, rfExcD tx dx) :: post) → Q () { s with heap := h', toks := tk' }) :
    wpAny (model PySem.Challenge.rw_sa0214_01.row.prog w) A (setAttr (.ref x) (Str.ofString "text") v) Q E s := by
  obtain ⟨hh, g, d, t, os⟩ := s
  have X' := X.keeps F.keep
  have he := (N (x, rfExc tx) (by simp)).1
  have I : InstAt hh x (rfExc tx) 44 none := ⟨he, rfl, rfl, trivial⟩
  have hc : clsIn (KT w.params) 44 = some { name := Str.ofString "RunFault", bases := [.ref 31], mro := .ref 44 :: rfBm, ns := 43, qualname := Str.ofString "RunFault" } := by kernel_rfl
  have hm : Looks (model PySem.Challenge.rw_sa0214_01.row.prog w) hh (mroOf (.ref 44)) (.ref 44 :: rfBm) := (looks_clsIn X' hc).andThen .now
  have ha : findIn (KT w.params) (.ref 44) "text" = some none := by kernel_rfl
  have sub : Looks (model PySem.Challenge.rw_sa0214_01.row.prog w) hh (isInstance (.ref x) (.type "object")) true := I.type.andThen (looks_mroIn X' (by kernel_rfl))
  have SF := PySem.F.store_object
  refine set_plain X' I (by kernel_rfl) ?_
  refine codeAny_call_builtin SF.slot.plain SF.entry (@check_slot (model PySem.Challenge.rw_sa0214_01.row.prog w) _ _ _ "object.__setattr__" "object" "__setattr__" (.ref x) [.str (Str.ofString "text") t, v] [] _ SF.kind SF.split sub (SF.args (.ref x) (.str (Str.ofString "text") t) v) ?_)
  rw [osa_eq, refuse_eq]
  refine wpAny_bind (wpAny_bind (I.type.at (wpAny_bind (hm.at ?_))))
  rw [rf_refuse]
  refine wpAny_pure (wpAny_bind (I.type.at (wpAny_bind ((looks_findIn X' ha).at (wpAny_bind ((Looks.now (a := none)).at ?_))))))
  refine wpAny_bind (wpAny_pure (wpAny_bind (wpAny_bind (wpAny_loadPart he (wpAny_bind ((looks_clsIn X' hc).at ?_))))))
  show wpAny _ _ (alloc { cls := Value.type "dict", data := Data.dict #[] } >>= fun d => update x (fun o => { o with dict := some d }) >>= fun _ => pure (some d)) _ _ _
  have he1 := Heap.get?_push_of_some { cls := Value.type "dict", data := Data.dict #[] } he
  refine wpAny_bind (wpAny_alloc (wpAny_bind ?_))
  refine wpAny_updatePart he1 ?_
  refine wpAny_pure ?_
  have N1 := N.push F { cls := Value.type "dict", data := Data.dict #[] }
  obtain ⟨F2, N2⟩ := news_upd (pre := (hh.objs.size, { cls := Value.type "dict", data := Data.dict #[] }) :: pre) (post := post) (f := fun o => { o with dict := some hh.objs.size }) (o' := rfExcD tx hh.objs.size) (F.push { cls := Value.type "dict", data := Data.dict #[] }) N1 (fun p hp => by
    rcases List.mem_cons.mp hp with rfl | hp
    · exact Nat.ne_of_gt (Heap.lt_size he)
    · exact h1 p hp) h2 rfl rfl
  have D := (N2 _ (.head _)).1
  show wpAny _ _ (Builtin.ObjectAttr.storeInDict hh.objs.size (Value.str (Str.ofString "text") t) (Str.ofString "text") v) _ _ ⟨(hh.push { cls := Value.type "dict", data := Data.dict #[] }).update x (fun o => { o with dict := some hh.objs.size }), g, d, t + 1, os⟩
  refine wpAny_bind (wpAny_pure (wpAny_bind ?_))
  unfold nsSet
  refine wpAny_bind (wpAny_bind (wpAny_askSetting (wpAny_pure (wpAny_bind (wpAny_mkText (wpAny_bind (wpAny_loadPart D ?_)))))))
  show wpAny _ _ (if aRefKeyMayBeTheName (Str.ofString "text") #[] = true then _ else _) _ _ _
  rw [if_neg (show ¬ (aRefKeyMayBeTheName (Str.ofString "text") #[] = true) from by decide +kernel)]
  refine wpAny_updatePart D ?_
  obtain ⟨F3, N3⟩ := news_upd (pre := []) F2 N2 (fun p hp => (nomatch hp)) (fun p hp => by
    rcases List.mem_append.mp hp with hp | hp
    · exact Nat.ne_of_lt (Heap.lt_size (N p (List.mem_append_left _ hp)).1)
    · rcases List.mem_cons.mp hp with rfl | hp
      · exact Nat.ne_of_lt (Heap.lt_size he)
      · exact Nat.ne_of_lt (Heap.lt_size (N p (List.mem_append_right _ (.tail _ hp))).1)) (f := Obj.putName (Str.ofString "text") _ (.str (Str.ofString "text") (t + 1)) v) rfl (by kernel_rfl)
  refine wpAny_bind (wpAny_lookBehind (N3 _ (.head _)).1 (by kernel_rfl) ?_)
  exact wpAny_pure (h _ _ _ F3 fun p hp => N3 p (.tail _ hp))
theorem rf_gm {w : World} {A : Around} {s : Shared} {Q : Value × List Value → Shared → Prop} {E : Value → Shared → Prop} {h₀ : Heap} {L : Addr} {m : Str → Option Value} {pl : Sem Bool} (F : Fr h₀ L s.heap m) (X : (KT w.params).In h₀)
    (h : Q (.builtin "Exception.__init__", []) { s with toks := s.toks + 1 }) : wpAny (model PySem.Challenge.rw_sa0214_01.row.prog w) A (getMethod (.type "Exception") (Str.ofString "__init__") pl) Q E s :=
  method_type F X (by kernel_rfl) (by decide +kernel) (by kernel_rfl) rfl h
/-- an exception stands ready to fly -/
def RaisableO (E : Value → Shared → Prop) (v : Value) (s₁ : Shared) : Prop := ∃ (x t dx : Addr), v = .ref x ∧ RF s₁.heap ∧ s₁.heap.get? x = some (rfExcD t dx) ∧ E (.ref x) s₁
theorem rf_ready {w : World} {E : Value → Shared → Prop} {s : Shared} {h₀ : Heap} {L : Addr} {m : Str → Option Value} {pre post : List (Addr × Obj)} {x t dx : Addr} (F : Fr h₀ L s.heap m) (X : (KT w.params).In h₀) (N : News h₀ L s.heap (pre ++ (x, rfExcD t dx) :: post))
    (h : E (.ref x) s) : RaisableO E (.ref x) s := ⟨x, t, dx, rfl, rf_obj (X.keeps F.keep), (N (x, rfExcD t dx) (by simp)).1, h⟩
theorem rf_raise {M : Model} {A : Around} {E : Value → Shared → Prop} {s : Shared} {env : Env} {e : Expr} {pos : Pos} {Q : Flow → Shared → Prop} (hh : A.handled = none) (h : wpAny M A (eval e env) (RaisableO E) E s) :
    wpAny M A (exec (.Raise (some e) none pos) env) Q E s := by
  show wpAny M A (do standAt pos; raiseStmt env (some (do let v ← eval e env; standAt pos; pure v)) none) Q E s
  have hcB : (Value.ref 44 :: rfBm).contains (.type "BaseException") = true := rfl
  refine wpAny_bind (wpAny_standAt ?_)
  unfold raiseStmt
  dsimp only
  refine wpAny_bind (wpAny_bind (wpAny_mono h (fun v s₁ h₁ => wpAny_bind (wpAny_standAt (wpAny_pure ?_))) fun _ _ x => x))
  obtain ⟨x, t, dx, rfl, hC, he, hE⟩ := h₁
  obtain ⟨hp, g, d, tk, os⟩ := s₁
  repeat (first | with_reducible refine wpAny_loadPart_at he ?_ | with_reducible refine wpAny_loadPart_at hC ?_ | (with_reducible refine wpAny_isSubtype_exc hC ?_; rw [hcB]) | wp_step)
  exact wpAny_raiseNew_none hh hE
section
variable {M : Model} {A : Around} {E : Value → Shared → Prop} {s' : Shared} {base g g₂ h : Heap} {outer : List Env} {L a x : Addr} {m : Str → Option Value} {name : Str} {scope : Scope} {cd : Value} {Q : Unit → Shared → Prop} {pre post : List (Addr × Obj)} {t dx : Addr}
theorem rf_leave (K : Below A base outer g) (F : Fr g L s'.heap m) (N : News g L s'.heap (pre ++ (x, rfExcD t dx) :: post)) (h2 : ∀ p ∈ post, p.1 ≠ x)
    (hQ : ∀ h', RaisedSN base g outer x (.ref 44) post h' → g.UpToSlots h' → Q () { s' with heap := h' }) (hk : scope.kind = .function := by rfl) :
    wpAny M (A.deeper (envOf name scope L a cd)) (leaving (envOf name scope L a cd) (.ref x)) Q E s' := by
  have K' := K.push (name := name) (a := a) (cd := cd) F hk
  have Nx := N (x, rfExcD t dx) (by simp)
  have hx0 : base.get? x = none := fresh_of_stays K.stays Nx.2.2
  have hin : ∀ env ∈ (envOf name scope L a cd :: outer), ∀ b, env.frame = some b → b ∈ x :: (envOf name scope L a cd :: outer).filterMap (·.frame) := fun env he b hb => .tail _ (List.mem_filterMap.mpr ⟨env, he, hb⟩)
  have st : base.StaysIn (hideAll s'.heap (x :: (envOf name scope L a cd :: outer).filterMap (·.frame))) := fun b o q => hideAll_get _ (K'.stays b o q) fun hm => by
    rcases List.mem_cons.mp hm with rfl | hm
    · rw [hx0] at q; cases q
    · rw [(K'.frames.mem hm).1] at q; cases q
  have sg : ∀ b o, g.get? b = some o → b ∉ outer.filterMap (·.frame) → (hideAll s'.heap (x :: (envOf name scope L a cd :: outer).filterMap (·.frame))).get? b = some o := fun b o q nm => hideAll_get _ (F.keep b o q) fun hm => by
    rcases List.mem_cons.mp hm with rfl | hm
    · rw [Nx.2.2] at q; cases q
    · rcases kts_mem hm with z | z
      · rw [z, kts_self F] at q; cases q
      · exact nm z
  have hl : ∀ q ∈ post, (hideAll s'.heap (x :: (envOf name scope L a cd :: outer).filterMap (·.frame))).get? q.1 = some q.2 ∧ g.get? q.1 = none ∧ base.get? q.1 = none := fun q hq => by
    have Nq := N q (List.mem_append_right _ (.tail _ hq))
    refine ⟨hideAll_get _ Nq.1 fun hm => ?_, Nq.2.2, fresh_of_stays K.stays Nq.2.2⟩
    rcases List.mem_cons.mp hm with hm | hm
    · exact h2 q hq hm
    obtain ⟨env, he, hf⟩ := List.mem_filterMap.mp hm
    rcases List.mem_cons.mp he with rfl | he
    · exact Nq.2.1 (Option.some.inj hf).symm
    · obtain ⟨o, ho, _⟩ := (K.frames.mem (List.mem_filterMap.mpr ⟨env, he, hf⟩)).2
      rw [Nq.2.2] at ho; cases ho
  have hen : (hideAll s'.heap (x :: (envOf name scope L a cd :: outer).filterMap (·.frame))).get? x = none := hideAll_none _ (.head _)
  refine wpAny_leaving_firstW (a0 := .ref t) K'.stack (funFrames_hide K'.frames hin) rfl Nx.1 (fun b o hb => of_hideAll _ hb) hen rfl rfl rfl fun h' hL => ?_
  obtain ⟨k1, ⟨_, _, k2⟩, k3, k4⟩ := hL
  exact hQ h' ⟨_, .ref t, st, sg, hl, k1, hen, k2, k3⟩ ((Heap.UpToSlots.of_keeps F.keep).trans k4)
end
section
variable {w : World} {A₀ : Around} {E : Value → Shared → Prop} {s' : Shared} {base g g₀ G : Heap} {outer : List Env} {L a e : Addr} {m : Str → Option Value} {name : Str} {scope : Scope} {cd : Value}
  {b₀ : Stmt} {suite : List Stmt} {pos np : Pos} {rest : List ExceptHandler} {Q : Flow → Shared → Prop} {news : List (Addr × Obj)} {p : Program} {loose : List Str} {mean : ExcName → Option Value} {mg mb : Str → Option Value}
theorem rf_caught (R : RaisedSN base G (envOf name scope L a cd :: outer) e (.ref 44) news s'.heap) (F : Fr g L G m) (K : Below A₀ base outer g) (hsm : G.UpToSlots s'.heap) (XB : (KT w.params).In base) (TB : Top p loose mean mg mb base)
    (D : KtsDicts (outer.filterMap (·.frame)) g) (T0 : KtsTurn (outer.filterMap (·.frame)) g₀ g)
    (k : ∀ h' g', KtsTurn (outer.filterMap (·.frame)) g₀ g' → Fr g' L h' m → News g' L h' news → Below A₀ base outer g' → (KT w.params).In g' → Top p loose mean mg mb g' → KtsDicts (outer.filterMap (·.frame)) g' →
      wpAny (model PySem.Challenge.rw_sa0214_01.row.prog w) ((A₀.deeper (envOf name scope L a cd)).mark (some (.ref e))) (execs (b₀ :: suite) (envOf name scope L a cd)) Q E { s' with heap := h' })
    (hk : scope.kind = .function := by rfl) (hx : (envOf name scope L a cd).kindOf (Str.ofString "RunFault") = some .globalImplicit := by rfl)
    (hE : PassesOwnAt (model PySem.Challenge.rw_sa0214_01.row.prog w) ((A₀.deeper (envOf name scope L a cd)).mark (some (.ref e))) (A₀.deeper (envOf name scope L a cd)) (envOf name scope L a cd) E := by passes_own) :
    wpAny (model PySem.Challenge.rw_sa0214_01.row.prog w) (A₀.deeper (envOf name scope L a cd)) (noteFrame (.ref e) (envOf name scope L a cd))
      (fun _ s₂ => wpAny (model PySem.Challenge.rw_sa0214_01.row.prog w) (A₀.deeper (envOf name scope L a cd)) (setFlight (.ref e) none) (fun _ s₃ =>
        wpAny (model PySem.Challenge.rw_sa0214_01.row.prog w) (A₀.deeper (envOf name scope L a cd)) (handleBy (.ref e) (envOf name scope L a cd) (.ExceptHandler (some (.Name (Str.ofString "RunFault") np)) none (b₀ :: suite) pos :: rest)) Q E s₃) E s₂) E s' := by
  obtain ⟨B, a0, hB, hBG, hl, hfl⟩ := R
  have hL : B.get? L = none := by
    obtain ⟨_, ⟨L', _, hf, hn', _⟩, _⟩ := hfl.2.2.1
    obtain rfl : L = L' := Option.some.inj hf
    exact hn'
  refine wpAny_looks_onW (Around.frames_deeper K.stack) rfl hfl fun h₄ hheld₄ hsm₄ => ?_
  refine wpAny_landsW hheld₄ fun h₅ hheld hsm₅' => ?_
  have hsm₅ := hsm₄.trans hsm₅'
  obtain ⟨g₅, T₅, F₅, K₅⟩ := kts_ground K F hBG hheld.1 (hsm.trans hsm₅)
  have X₅ : (KT w.params).In g₅ := XB.keeps K₅.stays
  obtain ⟨ob, hob, hobc⟩ := hheld.there
  refine wpAny_handleBy_cons (codeAny_handlers_test (name_K F₅ X₅ (topRead_of (TB.keeps K₅.stays)) (by kernel_rfl : nsIn (KT w.params) mainGlobals (Str.ofString "RunFault") = some (some (.ref 44))) ?_ hk hx (by decide))) (by intro q; cases q)
  refine wpAny_excMatches_sub_self (rf_obj (X₅.keeps F₅.keep)) hob hobc rfl (codeAny_handlers_suite ?_)
  refine lands_againW hheld fun h₆ hfl₆ hsm₆ => ?_
  obtain ⟨g₆, T₆, F₆, K₆⟩ := kts_ground K F hBG hfl₆.1 ((hsm.trans hsm₅).trans hsm₆)
  have Nl : News g₆ L h₆ news := fun q hq => ⟨hfl₆.1 _ _ (hl q hq).1, (fun z => by have := (hl q hq).1; rw [z, hL] at this; cases this), T₆.none_ _ (kts_none F.keep (hl q hq).2.1)⟩
  exact wpAny_passesOwnAt hE (k h₆ g₆ (T0.trans T₆) F₆ Nl K₆ (XB.keeps K₆.stays) (TB.keeps K₆.stays) (D.turn T₆))
end
/-- what a call of a def with a try within does: the callers' frames are marked, nothing else -/
abbrev ConS (w : World) (f : Addr) (need : Nat) (vs : List Value) (news : List (Addr × Obj)) (r : Value) : Prop :=
  ∀ (loose : List Str) (mean : ExcName → Option Value) (mg mb : Str → Option Value) (dp un : Nat) (gd : Option (List Code)) (cn : Str) (cs : Scope) (a : Addr) (ccd : Value) (outer : List Env) (A₀ : Around) (base h₀ g₀ : Heap) (L : Addr) (m : Str → Option Value) (s : Shared) (Q E : Value → Shared → Prop),
    Below A₀ base outer h₀ → Fr h₀ L s.heap m → (KT w.params).In h₀ → News h₀ L s.heap news → Top VT loose mean mg mb h₀ → (KT w.params).In base → Top VT loose mean mg mb base → KtsDicts (outer.filterMap (·.frame)) h₀ → KtsTurn (outer.filterMap (·.frame)) g₀ h₀ → cs.kind = .function →
    dp + need < recursionLimit → un + 8 * need < cLine →
    (∀ (h₀' h' : Heap) (tk' : Nat), KtsTurn (outer.filterMap (·.frame)) g₀ h₀' → Fr h₀' L h' m → News h₀' L h' news → Below A₀ base outer h₀' → (KT w.params).In h₀' → Top VT loose mean mg mb h₀' → KtsDicts (outer.filterMap (·.frame)) h₀' → Q r { s with heap := h', toks := tk' }) →
    wpAny (model PySem.Challenge.rw_sa0214_01.row.prog w) (ktrTop dp un gd cn cs L a ccd [] outer) (call (.ref f) vs) Q E s
end
local macro_rules | `(tactic| walk_at "exec Raise some none") => `(tactic| k_extra "my raise")
local macro_rules | `(tactic| walk_at "noteFrame ref") => `(tactic| k_extra "my catch")
local macro_rules | `(tactic| walk_at "leaving ref") => `(tactic| k_extra "my leave")
theorem c_isz00 (w : World) (rest : List (Addr × Obj)) : Con w 257 2 [.ref 124] rest (fun r tl => tl = [] ∧ r = .bool true) := by
  k_with_none
  k_with "my return" => (k_here; exfalso; with_reducible contradiction)
  (have fl9 : Filled KT PySem.Challenge.rw_sa0214_01 := (by k_fill; exact True.intro); intro loose mean mg mb dp un gd cn cs ad ccd cl outer A₀ base h₀ L mf s Q E B F X N T hk hd hu hret; refine wpAny_call ?_; k_dflt cell_enter)
  k_steps
  all_goals (refine hret _ [] _ _ (by k_asm) (by k_asm) ⟨rfl, rfl⟩)
theorem v_isz0 {w : World} {rest : List (Addr × Obj)} {r1 : Value} {p1 : Addr × Obj} (h1 : NmP p1 r1 0) : Con w 257 2 [r1] rest (fun r tl => tl = [] ∧ r = .bool true) := by
  rcases h1 with ⟨hz, rfl⟩ | ⟨m, e, u, v, rfl, ho, n, he, hv⟩
  · exact c_isz00 w rest
  · rcases Int.mul_eq_zero.mp hv.symm with q | q
    · exact absurd q n
    · exact absurd q (Int.ne_of_gt (pow10_pos _))
theorem c_isz0I (w : World) (rest : List (Addr × Obj)) (tn : Tok) : Con w 257 2 [.int 0 tn] rest (fun r tl => tl = [] ∧ r = .bool true) := by
  k_with_none
  k_with "my return" => (k_here; exfalso; with_reducible contradiction)
  (have fl9 : Filled KT PySem.Challenge.rw_sa0214_01 := (by k_fill; exact True.intro); intro loose mean mg mb dp un gd cn cs ad ccd cl outer A₀ base h₀ L mf s Q E B F X N T hk hd hu hret; refine wpAny_call ?_; k_dflt cell_enter)
  k_steps
  all_goals (refine hret _ [] _ _ (by k_asm) (by k_asm) ⟨rfl, rfl⟩)
theorem c_standsR (w : World) (q : Addr × Obj) (rest : List (Addr × Obj)) (kd f l : Int) (tk tf tl0 ts : Tok) (hkd : kd = 1 ∨ kd = 2) (hf1 : f.natAbs < 3000) (hl1 : l.natAbs < 3000) :
    ConS w 314 18 [.int kd tk, .int f tf, .int l tl0, .int 0 ts] (q :: rest) (.bool false) := by
  k_with_none
  k_with "my return" => (k_here; exfalso; with_reducible contradiction)
  k_with "my call" => (k_here; (with_reducible show wpAny _ _ (call (Value.ref 300) _) _ _ _); k_dflt (focus ((refine' Con.use (v_worth _ _ _ _ _ _ _ ?_ ?_) ?_ ?_ ?_ ?_ ?_ ?_ ?_ ?_ ?_); (walk_at "my use"); (· first | exact Or.inl rfl | exact Or.inr rfl | with_reducible assumption); (· first | with_reducible assumption | omega); intro r9 tl9 h9 tk9 F9 N9 hR9; obtain ⟨p9, ea9, hp9⟩ := hR9; subst ea9; (try simp only [List.nil_append, List.cons_append] at N9); (try dsimp only); (try k_fold))))
  k_with "my call" => (k_here; (with_reducible show wpAny _ _ (call (Value.ref 194) _) _ _ _); k_dflt (focus ((refine' Con.use (v_sub _ _ _ _ _ _ ?_ ?_ ?_ ?_ ?_ ?_ ?_ ?_) ?_ ?_ ?_ ?_ ?_ ?_ ?_ ?_ ?_); (walk_at "my use"); (any_goals ((with_reducible first | show NmP _ _ _ | show QuoP _ _ _); with_reducible assumption)); (· (with_reducible (repeat (first | assumption | exact List.mem_cons_self | refine List.mem_cons_of_mem _ ?_)))); (· (with_reducible (repeat (first | assumption | exact List.mem_cons_self | refine List.mem_cons_of_mem _ ?_)))); (· first | with_reducible assumption | omega); (· first | with_reducible assumption | omega); (· first | with_reducible assumption | omega); (· first | with_reducible assumption | omega); intro r9 tl9 h9 tk9 F9 N9 hR9; obtain ⟨p9, ea9, hp9⟩ := hR9; subst ea9; (try simp only [List.nil_append, List.cons_append] at N9); (try dsimp only); (try k_fold))))
  k_with "my call" => (k_here; (with_reducible show wpAny _ _ (call (Value.ref 187) _) _ _ _); k_dflt (focus ((refine' Con.use (v_add _ _ _ _ _ _ ?_ ?_ ?_ ?_ ?_ ?_ ?_ ?_) ?_ ?_ ?_ ?_ ?_ ?_ ?_ ?_ ?_); (walk_at "my use"); (any_goals ((with_reducible first | show NmP _ _ _ | show QuoP _ _ _); with_reducible assumption)); (· (with_reducible (repeat (first | assumption | exact List.mem_cons_self | refine List.mem_cons_of_mem _ ?_)))); (· (with_reducible (repeat (first | assumption | exact List.mem_cons_self | refine List.mem_cons_of_mem _ ?_)))); (· first | with_reducible assumption | omega); (· first | with_reducible assumption | omega); (· first | with_reducible assumption | omega); (· first | with_reducible assumption | omega); intro r9 tl9 h9 tk9 F9 N9 hR9; obtain ⟨p9, ea9, hp9⟩ := hR9; subst ea9; (try simp only [List.nil_append, List.cons_append] at N9); (try dsimp only); (try k_fold))))
  k_with "my call" => (k_here; (with_reducible show wpAny _ _ (call (Value.ref 208) _) _ _ _); k_dflt (focus ((refine' Con.use (v_div _ _ _ _ _ _ ?_ ?_ ?_ ?_ ?_ ?_ ?_ ?_ ?_) ?_ ?_ ?_ ?_ ?_ ?_ ?_ ?_ ?_); (walk_at "my use"); (any_goals ((with_reducible first | show NmP _ _ _ | show QuoP _ _ _); with_reducible assumption)); (· (with_reducible (repeat (first | assumption | exact List.mem_cons_self | refine List.mem_cons_of_mem _ ?_)))); (· (with_reducible (repeat (first | assumption | exact List.mem_cons_self | refine List.mem_cons_of_mem _ ?_)))); (· first | with_reducible assumption | omega); (· first | with_reducible assumption | omega); (· first | with_reducible assumption | omega); (· first | with_reducible assumption | omega); (· first | with_reducible assumption | omega); intro r9 tl9 h9 tk9 F9 N9 hR9; obtain ⟨p9, ea9, hp9⟩ := hR9; subst ea9; (try simp only [List.nil_append, List.cons_append] at N9); (try dsimp only); (try k_fold))))
  k_with "my call" => (k_here; (with_reducible show wpAny _ _ (call (Value.ref 222) _) _ _ _); k_dflt (focus ((refine' Con.use (v_rti _ _ _ ?_ ?_) ?_ ?_ ?_ ?_ ?_ ?_ ?_ ?_ ?_); (walk_at "my use"); (any_goals ((with_reducible first | show NmP _ _ _ | show QuoP _ _ _); with_reducible assumption)); (· (with_reducible (repeat (first | assumption | exact List.mem_cons_self | refine List.mem_cons_of_mem _ ?_)))); intro r9 tl9 h9 tk9 F9 N9 hR9; (try dsimp only at hR9); obtain ⟨ea9, t9, eb9⟩ := hR9; subst ea9; subst eb9; (try simp only [List.nil_append] at N9); (try dsimp only); (try k_fold))))
  k_with "my call" => (k_here; (with_reducible show wpAny _ _ (call (Value.ref 257) _) _ _ _); k_dflt (focus ((refine' Con.use (v_isz _ _ ?_ ?_ ?_) ?_ ?_ ?_ ?_ ?_ ?_ ?_ ?_ ?_); (walk_at "my use"); (any_goals ((with_reducible first | show NmP _ _ _ | show QuoP _ _ _); with_reducible assumption)); (· (with_reducible (repeat (first | assumption | exact List.mem_cons_self | refine List.mem_cons_of_mem _ ?_)))); (· first | with_reducible assumption | omega); intro r9 tl9 h9 tk9 F9 N9 hR9; obtain ⟨ea9, eb9⟩ := hR9; subst ea9; subst eb9; (try simp only [List.nil_append] at N9); (try dsimp only); (try k_fold))))
  k_with "my call" => (k_here; (with_reducible show wpAny _ _ (call (Value.ref 53) _) _ _ _); k_dflt (focus ((refine' Con.use (c_fit _ _ _ _ _ ?_ ?_) ?_ ?_ ?_ ?_ ?_ ?_ ?_ ?_ ?_); (walk_at "my use"); (· first | omega | k_extra "fit"); (· first | omega | k_extra "fit"); intro r9 tl9 h9 tk9 F9 N9 hR9; (try dsimp only at hR9); obtain ⟨ea9, t9, eb9⟩ := hR9; subst ea9; subst eb9; (try simp only [List.nil_append] at N9); (try dsimp only); (try k_fold))))
  k_with "my call" => (k_here; (with_reducible show wpAny _ _ (call (Value.ref 250) _) _ _ _); (walk_at "my enter"))
  k_with "my call" => (k_here; (with_reducible show wpAny _ _ (call (Value.ref 243) _) _ _ _); (walk_at "my enter"))
  k_with "my call" => (k_here; (with_reducible show wpAny _ _ (call (Value.ref 264) _) _ _ _); (walk_at "my enter"))
  k_with "my call" => (k_here; (with_reducible show wpAny _ _ (call (Value.ref 123) _) _ _ _); (walk_at "my enter"))
  k_with "my call" => (k_here; (with_reducible show wpAny _ _ (call (Value.ref 60) _) _ _ _); (walk_at "my enter"))
  k_with "my call" => (k_here; (with_reducible show wpAny _ _ (call (Value.ref 67) _) _ _ _); (walk_at "my enter"))
  k_with "my call" => (k_here; (with_reducible show wpAny _ _ (call (Value.ref 88) _) _ _ _); (walk_at "my enter"))
  k_with "my call" => (k_here; (with_reducible show wpAny _ _ (call (Value.ref 282) _) _ _ _); k_dflt (focus ((refine' Con.use (c_limits _ _) ?_ ?_ ?_ ?_ ?_ ?_ ?_ ?_ ?_); (walk_at "my use"); intro r9 tl9 h9 tk9 F9 N9 hR9; obtain ⟨D9, d9, n9, k19, u19, k29, u29, k39, u39, k49, u49, k59, u59, k69, u69, k79, u79, k89, u89, ea9, eb9⟩ := hR9; subst ea9; subst eb9; (try simp only [List.nil_append, List.cons_append] at N9); (try dsimp only); (try k_fold))))
  k_with "my call" => (k_here; (with_reducible show wpAny _ _ (call (Value.ref 88) _) _ _ _); k_dflt (focus ((refine' Con.use (c_idiv _ _ _ _ _ _ _ ?_ ?_ ?_) ?_ ?_ ?_ ?_ ?_ ?_ ?_ ?_ ?_); (walk_at "my use"); (· first | with_reducible assumption | omega); (· first | with_reducible assumption | omega); (· first | with_reducible assumption | omega); intro r9 tl9 h9 tk9 F9 N9 hR9; (try dsimp only at hR9); obtain ⟨ea9, t9, eb9⟩ := hR9; subst ea9; subst eb9; (try simp only [List.nil_append] at N9); (try dsimp only); (try k_fold))))
  k_with "my call" => (k_here; (with_reducible show wpAny _ _ (call (Value.ref 257) _) _ _ _); k_dflt (focus ((refine' Con.use (c_iszI _ _ _ _ ?_) ?_ ?_ ?_ ?_ ?_ ?_ ?_ ?_ ?_); (walk_at "my use"); (· first | with_reducible assumption | omega); intro r9 tl9 h9 tk9 F9 N9 hR9; obtain ⟨ea9, eb9⟩ := hR9; subst ea9; subst eb9; (try simp only [List.nil_append] at N9); (try dsimp only); (try k_fold))))
  k_with "my call" => (k_here; (with_reducible show wpAny _ _ (call (Value.ref 300) _) _ _ _); k_dflt (focus ((refine' Con.use (c_worthI _ _ _ _ _) ?_ ?_ ?_ ?_ ?_ ?_ ?_ ?_ ?_); (walk_at "my use"); intro r9 tl9 h9 tk9 F9 N9 hR9; (try dsimp only at hR9); obtain ⟨ea9, t9, eb9⟩ := hR9; subst ea9; subst eb9; (try simp only [List.nil_append] at N9); (try dsimp only); (try k_fold))))
  k_with "my call" => (k_here; (with_reducible show wpAny _ _ (call (Value.ref 257) _) _ _ _); k_dflt (focus ((refine' Con.use (v_isz0 ?_) ?_ ?_ ?_ ?_ ?_ ?_ ?_ ?_ ?_); (walk_at "my use"); (any_goals ((with_reducible first | show NmP _ _ _ | show QuoP _ _ _); with_reducible assumption)); intro r9 tl9 h9 tk9 F9 N9 hR9; obtain ⟨ea9, eb9⟩ := hR9; subst ea9; subst eb9; (try simp only [List.nil_append] at N9); (try dsimp only); (try k_fold))))
  k_with "my call" => (k_here; (with_reducible show wpAny _ _ (call (Value.ref 257) _) _ _ _); k_dflt (focus ((refine' Con.use (c_isz0I _ _ _) ?_ ?_ ?_ ?_ ?_ ?_ ?_ ?_ ?_); (walk_at "my use"); intro r9 tl9 h9 tk9 F9 N9 hR9; obtain ⟨ea9, eb9⟩ := hR9; subst ea9; subst eb9; (try simp only [List.nil_append] at N9); (try dsimp only); (try k_fold))))
  k_with "my call" => (k_here; (with_reducible show wpAny _ _ (call (Value.ref 44) _) _ _ _); k_dflt (focus ((refine' rf_row ?_ ?_ ?_ ?_); (any_goals ((with_reducible show Fr _ _ _ _); k_asm)); (any_goals ((with_reducible show Frag.In _ _); k_asm)); (any_goals ((with_reducible show News _ _ _ _); k_asm)); intro x9 t9 h9 F9 N9 l9; (try k_lt l9); (try k_sweep); k_enter)))
  k_with "my call" => (k_here; (with_reducible show wpAny _ _ (call (Value.ref 307) _) _ _ _); (walk_at "my enter"))
  k_with "getMethod type:Exception" => (k_here; (with_reducible show wpAny _ _ (getMethod (Value.type _) _ _) _ _ _); k_dflt (focus ((refine' rf_gm ?_ ?_ ?_); (any_goals ((with_reducible show Fr _ _ _ _); k_asm)); (any_goals ((with_reducible show Frag.In _ _); k_asm)))))
  k_with "getMethod" => (k_here; (with_reducible show wpAny _ _ (getMethod (Value.type _) _ _) _ _ _); k_dflt (focus ((refine' rf_gm ?_ ?_ ?_); (any_goals ((with_reducible show Fr _ _ _ _); k_asm)); (any_goals ((with_reducible show Frag.In _ _); k_asm)))))
  k_with "getMethod type" => (k_here; (with_reducible show wpAny _ _ (getMethod (Value.type _) _ _) _ _ _); k_dflt (focus ((refine' rf_gm ?_ ?_ ?_); (any_goals ((with_reducible show Fr _ _ _ _); k_asm)); (any_goals ((with_reducible show Frag.In _ _); k_asm)))))
  k_with "call builtin:Exception.__init__" => (k_here; (with_reducible show wpAny _ _ (call (Value.builtin _) [Value.ref _, _]) _ _ _); k_dflt (focus ((refine' rf_init ?_ ?_ ?_ ?_ ?_); (any_goals ((with_reducible show Fr _ _ _ _); k_asm)); (any_goals ((with_reducible show Frag.In _ _); k_asm)); (any_goals ((with_reducible show News _ _ _ _); k_asm)); (any_goals ((with_reducible show ∀ p ∈ _, _); k_all)); intro y9 h9 F9 N9 l9 m9; (try k_lt l9); (try k_lt m9); (try k_sweep))))
  k_with "setAttr ref" => (k_here; (with_reducible show wpAny _ _ (setAttr (Value.ref _) _ _) _ _ _); k_dflt (focus ((refine' rf_set (pre := [_]) ?_ ?_ ?_ ?_ ?_ ?_); (any_goals ((with_reducible show Fr _ _ _ _); k_asm)); (any_goals ((with_reducible show Frag.In _ _); k_asm)); (any_goals ((with_reducible show News _ _ _ _); k_asm)); (any_goals ((with_reducible show ∀ p ∈ _, _); k_all)); intro d9 h9 k9 F9 N9; (try dsimp only [List.cons_append, List.nil_append] at N9); (try k_sweep))))
  k_with "my raise" => (k_here; (with_reducible show wpAny _ _ (exec (Stmt.Raise (some _) none _) _) _ _ _); k_dflt (refine rf_raise (by first | rfl | assumption) ?_))
  k_with "RaisableO" => ((with_reducible show RaisableO _ _ _); k_dflt (focus ((refine' rf_ready (pre := [_]) ?_ ?_ ?_ ?_); (any_goals ((with_reducible show Fr _ _ _ _); k_asm)); (any_goals ((with_reducible show Frag.In _ _); k_asm)); (any_goals ((with_reducible show News _ _ _ _); k_asm)))))
  k_with "Mine.RaisableO" => ((with_reducible show RaisableO _ _ _); k_dflt (focus ((refine' rf_ready (pre := [_]) ?_ ?_ ?_ ?_); (any_goals ((with_reducible show Fr _ _ _ _); k_asm)); (any_goals ((with_reducible show Frag.In _ _); k_asm)); (any_goals ((with_reducible show News _ _ _ _); k_asm)))))
  k_with "my leave" => (k_here; k_dflt (focus ((refine' rf_leave (pre := [_]) ?_ ?_ ?_ ?_ ?_); (any_goals ((with_reducible show Below _ _ _ _); assumption)); (any_goals ((with_reducible show Fr _ _ _ _); assumption)); (any_goals ((with_reducible show News _ _ _ _); k_asm)); (any_goals ((with_reducible show ∀ p ∈ _, _); k_all)); intro h9 R9 U9; (try dsimp only at R9 U9 ⊢))))
  k_with "my catch" => (k_here; k_dflt (focus ((refine' rf_caught ?_ ?_ ?_ ?_ ?_ ?_ ?_ ?_ ?_); (any_goals ((with_reducible show RaisedSN _ _ _ _ _ _ _); assumption)); (any_goals ((with_reducible show Below _ _ _ _); assumption)); (any_goals ((with_reducible show Heap.UpToSlots _ _); assumption)); (any_goals ((with_reducible show Fr _ _ _ _); assumption)); (any_goals ((with_reducible show Frag.In _ _); assumption)); (any_goals ((with_reducible show Top _ _ _ _ _ _); assumption)); (any_goals ((with_reducible show KtsDicts _ _); assumption)); (any_goals ((with_reducible show KtsTurn _ _ _); assumption)); intro h9 g9 T9 F9 N9 K9 X9 P9 D9; (try k_lift K9); (try k_sweep))))
  (have fl9 : Filled KT PySem.Challenge.rw_sa0214_01 := (by k_fill; exact True.intro); intro loose mean mg mb dp un gd cn cs ad ccd outer A₀ base h₀ g₀ L mf s Q E B F X N T XB TB D T0 hk hd hu hret; refine wpAny_call ?_)
  (k_dflt (focus ((refine' code_defS ?k1 ?k2 ?k3 ?k4 ?k5 ?XB ?TB ?D ?T0 ?kA ?k6 ?k7 ?k8 ?k9 ?kB ?_ ?cK ?c2 ?c3 ?c4 ?c5); (case kA => exact rfl); (case k2 => k_asm); (case k1 => k_asm); (case XB => assumption); (case TB => assumption); (case D => assumption); (case T0 => assumption); (case k3 => k_asm); (case k4 => k_asm); (case k5 => k_asm); (case k6 => k_is); (case k7 => k_is); (case k8 => ktr_room); (case k9 => exact BindsTo.of_eq rfl); (case kB => exact locs rfl); (case cK => assumption); (case c2 => exact rfl); (case c3 => exact rfl); (case c4 => exact rfl); (case c5 => decide); k_whole; intro g' L' h' FG' F' N' B' X' T' D'; (try dsimp only); (try k_lift B'); (try k_fold))))
  k_steps
  all_goals first
  | exact hret _ _ _ (by assumption) (by k_asm) (by first | k_asm | (first | (refine sub_drop (by with_reducible assumption) ?_; (try simp only [List.nil_append, List.cons_append]); (with_reducible (repeat' (first | exact fun _ h => h | refine sub_same ?_ | refine sub_more ?_))); done) | k_asm | (refine sub_drop (by assumption) ?_; repeat' (first | exact fun _ h => h | refine sub_same ?_ | refine sub_more ?_)))) (by assumption) (by assumption) (by assumption) (by assumption)
theorem c_stands0 (w : World) (q : Addr × Obj) (rest : List (Addr × Obj)) (f l : Int) (tk tf tl0 ts : Tok) :
    ConS w 314 18 [.int 0 tk, .int f tf, .int l tl0, .int 0 ts] (q :: rest) (.bool false) := by
  k_with_none
  k_with "my return" => (k_here; exfalso; with_reducible contradiction)
  k_with "my call" => (k_here; (with_reducible show wpAny _ _ (call (Value.ref 300) _) _ _ _); k_dflt (focus ((refine' Con.use (v_worth _ _ _ _ _ _ _ ?_ ?_) ?_ ?_ ?_ ?_ ?_ ?_ ?_ ?_ ?_); (walk_at "my use"); (· first | exact Or.inl rfl | exact Or.inr rfl | with_reducible assumption); (· first | with_reducible assumption | omega); intro r9 tl9 h9 tk9 F9 N9 hR9; obtain ⟨p9, ea9, hp9⟩ := hR9; subst ea9; (try simp only [List.nil_append, List.cons_append] at N9); (try dsimp only); (try k_fold))))
  k_with "my call" => (k_here; (with_reducible show wpAny _ _ (call (Value.ref 194) _) _ _ _); k_dflt (focus ((refine' Con.use (v_sub _ _ _ _ _ _ ?_ ?_ ?_ ?_ ?_ ?_ ?_ ?_) ?_ ?_ ?_ ?_ ?_ ?_ ?_ ?_ ?_); (walk_at "my use"); (any_goals ((with_reducible first | show NmP _ _ _ | show QuoP _ _ _); with_reducible assumption)); (· (with_reducible (repeat (first | assumption | exact List.mem_cons_self | refine List.mem_cons_of_mem _ ?_)))); (· (with_reducible (repeat (first | assumption | exact List.mem_cons_self | refine List.mem_cons_of_mem _ ?_)))); (· first | with_reducible assumption | omega); (· first | with_reducible assumption | omega); (· first | with_reducible assumption | omega); (· first | with_reducible assumption | omega); intro r9 tl9 h9 tk9 F9 N9 hR9; obtain ⟨p9, ea9, hp9⟩ := hR9; subst ea9; (try simp only [List.nil_append, List.cons_append] at N9); (try dsimp only); (try k_fold))))
  k_with "my call" => (k_here; (with_reducible show wpAny _ _ (call (Value.ref 187) _) _ _ _); k_dflt (focus ((refine' Con.use (v_add _ _ _ _ _ _ ?_ ?_ ?_ ?_ ?_ ?_ ?_ ?_) ?_ ?_ ?_ ?_ ?_ ?_ ?_ ?_ ?_); (walk_at "my use"); (any_goals ((with_reducible first | show NmP _ _ _ | show QuoP _ _ _); with_reducible assumption)); (· (with_reducible (repeat (first | assumption | exact List.mem_cons_self | refine List.mem_cons_of_mem _ ?_)))); (· (with_reducible (repeat (first | assumption | exact List.mem_cons_self | refine List.mem_cons_of_mem _ ?_)))); (· first | with_reducible assumption | omega); (· first | with_reducible assumption | omega); (· first | with_reducible assumption | omega); (· first | with_reducible assumption | omega); intro r9 tl9 h9 tk9 F9 N9 hR9; obtain ⟨p9, ea9, hp9⟩ := hR9; subst ea9; (try simp only [List.nil_append, List.cons_append] at N9); (try dsimp only); (try k_fold))))
  k_with "my call" => (k_here; (with_reducible show wpAny _ _ (call (Value.ref 208) _) _ _ _); k_dflt (focus ((refine' Con.use (v_div _ _ _ _ _ _ ?_ ?_ ?_ ?_ ?_ ?_ ?_ ?_ ?_) ?_ ?_ ?_ ?_ ?_ ?_ ?_ ?_ ?_); (walk_at "my use"); (any_goals ((with_reducible first | show NmP _ _ _ | show QuoP _ _ _); with_reducible assumption)); (· (with_reducible (repeat (first | assumption | exact List.mem_cons_self | refine List.mem_cons_of_mem _ ?_)))); (· (with_reducible (repeat (first | assumption | exact List.mem_cons_self | refine List.mem_cons_of_mem _ ?_)))); (· first | with_reducible assumption | omega); (· first | with_reducible assumption | omega); (· first | with_reducible assumption | omega); (· first | with_reducible assumption | omega); (· first | with_reducible assumption | omega); intro r9 tl9 h9 tk9 F9 N9 hR9; obtain ⟨p9, ea9, hp9⟩ := hR9; subst ea9; (try simp only [List.nil_append, List.cons_append] at N9); (try dsimp only); (try k_fold))))
  k_with "my call" => (k_here; (with_reducible show wpAny _ _ (call (Value.ref 222) _) _ _ _); k_dflt (focus ((refine' Con.use (v_rti _ _ _ ?_ ?_) ?_ ?_ ?_ ?_ ?_ ?_ ?_ ?_ ?_); (walk_at "my use"); (any_goals ((with_reducible first | show NmP _ _ _ | show QuoP _ _ _); with_reducible assumption)); (· (with_reducible (repeat (first | assumption | exact List.mem_cons_self | refine List.mem_cons_of_mem _ ?_)))); intro r9 tl9 h9 tk9 F9 N9 hR9; (try dsimp only at hR9); obtain ⟨ea9, t9, eb9⟩ := hR9; subst ea9; subst eb9; (try simp only [List.nil_append] at N9); (try dsimp only); (try k_fold))))
  k_with "my call" => (k_here; (with_reducible show wpAny _ _ (call (Value.ref 257) _) _ _ _); k_dflt (focus ((refine' Con.use (v_isz _ _ ?_ ?_ ?_) ?_ ?_ ?_ ?_ ?_ ?_ ?_ ?_ ?_); (walk_at "my use"); (any_goals ((with_reducible first | show NmP _ _ _ | show QuoP _ _ _); with_reducible assumption)); (· (with_reducible (repeat (first | assumption | exact List.mem_cons_self | refine List.mem_cons_of_mem _ ?_)))); (· first | with_reducible assumption | omega); intro r9 tl9 h9 tk9 F9 N9 hR9; obtain ⟨ea9, eb9⟩ := hR9; subst ea9; subst eb9; (try simp only [List.nil_append] at N9); (try dsimp only); (try k_fold))))
  k_with "my call" => (k_here; (with_reducible show wpAny _ _ (call (Value.ref 53) _) _ _ _); k_dflt (focus ((refine' Con.use (c_fit _ _ _ _ _ ?_ ?_) ?_ ?_ ?_ ?_ ?_ ?_ ?_ ?_ ?_); (walk_at "my use"); (· first | omega | k_extra "fit"); (· first | omega | k_extra "fit"); intro r9 tl9 h9 tk9 F9 N9 hR9; (try dsimp only at hR9); obtain ⟨ea9, t9, eb9⟩ := hR9; subst ea9; subst eb9; (try simp only [List.nil_append] at N9); (try dsimp only); (try k_fold))))
  k_with "my call" => (k_here; (with_reducible show wpAny _ _ (call (Value.ref 250) _) _ _ _); (walk_at "my enter"))
  k_with "my call" => (k_here; (with_reducible show wpAny _ _ (call (Value.ref 243) _) _ _ _); (walk_at "my enter"))
  k_with "my call" => (k_here; (with_reducible show wpAny _ _ (call (Value.ref 264) _) _ _ _); (walk_at "my enter"))
  k_with "my call" => (k_here; (with_reducible show wpAny _ _ (call (Value.ref 123) _) _ _ _); (walk_at "my enter"))
  k_with "my call" => (k_here; (with_reducible show wpAny _ _ (call (Value.ref 60) _) _ _ _); (walk_at "my enter"))
  k_with "my call" => (k_here; (with_reducible show wpAny _ _ (call (Value.ref 67) _) _ _ _); (walk_at "my enter"))
  k_with "my call" => (k_here; (with_reducible show wpAny _ _ (call (Value.ref 88) _) _ _ _); (walk_at "my enter"))
  k_with "my call" => (k_here; (with_reducible show wpAny _ _ (call (Value.ref 282) _) _ _ _); k_dflt (focus ((refine' Con.use (c_limits _ _) ?_ ?_ ?_ ?_ ?_ ?_ ?_ ?_ ?_); (walk_at "my use"); intro r9 tl9 h9 tk9 F9 N9 hR9; obtain ⟨D9, d9, n9, k19, u19, k29, u29, k39, u39, k49, u49, k59, u59, k69, u69, k79, u79, k89, u89, ea9, eb9⟩ := hR9; subst ea9; subst eb9; (try simp only [List.nil_append, List.cons_append] at N9); (try dsimp only); (try k_fold))))
  k_with "my call" => (k_here; (with_reducible show wpAny _ _ (call (Value.ref 88) _) _ _ _); k_dflt (focus ((refine' Con.use (c_idiv _ _ _ _ _ _ _ ?_ ?_ ?_) ?_ ?_ ?_ ?_ ?_ ?_ ?_ ?_ ?_); (walk_at "my use"); (· first | with_reducible assumption | omega); (· first | with_reducible assumption | omega); (· first | with_reducible assumption | omega); intro r9 tl9 h9 tk9 F9 N9 hR9; (try dsimp only at hR9); obtain ⟨ea9, t9, eb9⟩ := hR9; subst ea9; subst eb9; (try simp only [List.nil_append] at N9); (try dsimp only); (try k_fold))))
  k_with "my call" => (k_here; (with_reducible show wpAny _ _ (call (Value.ref 257) _) _ _ _); k_dflt (focus ((refine' Con.use (c_iszI _ _ _ _ ?_) ?_ ?_ ?_ ?_ ?_ ?_ ?_ ?_ ?_); (walk_at "my use"); (· first | with_reducible assumption | omega); intro r9 tl9 h9 tk9 F9 N9 hR9; obtain ⟨ea9, eb9⟩ := hR9; subst ea9; subst eb9; (try simp only [List.nil_append] at N9); (try dsimp only); (try k_fold))))
  k_with "my call" => (k_here; (with_reducible show wpAny _ _ (call (Value.ref 300) _) _ _ _); k_dflt (focus ((refine' Con.use (c_worthI _ _ _ _ _) ?_ ?_ ?_ ?_ ?_ ?_ ?_ ?_ ?_); (walk_at "my use"); intro r9 tl9 h9 tk9 F9 N9 hR9; (try dsimp only at hR9); obtain ⟨ea9, t9, eb9⟩ := hR9; subst ea9; subst eb9; (try simp only [List.nil_append] at N9); (try dsimp only); (try k_fold))))
  k_with "my call" => (k_here; (with_reducible show wpAny _ _ (call (Value.ref 257) _) _ _ _); k_dflt (focus ((refine' Con.use (v_isz0 ?_) ?_ ?_ ?_ ?_ ?_ ?_ ?_ ?_ ?_); (walk_at "my use"); (any_goals ((with_reducible first | show NmP _ _ _ | show QuoP _ _ _); with_reducible assumption)); intro r9 tl9 h9 tk9 F9 N9 hR9; obtain ⟨ea9, eb9⟩ := hR9; subst ea9; subst eb9; (try simp only [List.nil_append] at N9); (try dsimp only); (try k_fold))))
  k_with "my call" => (k_here; (with_reducible show wpAny _ _ (call (Value.ref 257) _) _ _ _); k_dflt (focus ((refine' Con.use (c_isz0I _ _ _) ?_ ?_ ?_ ?_ ?_ ?_ ?_ ?_ ?_); (walk_at "my use"); intro r9 tl9 h9 tk9 F9 N9 hR9; obtain ⟨ea9, eb9⟩ := hR9; subst ea9; subst eb9; (try simp only [List.nil_append] at N9); (try dsimp only); (try k_fold))))
  k_with "my call" => (k_here; (with_reducible show wpAny _ _ (call (Value.ref 44) _) _ _ _); k_dflt (focus ((refine' rf_row ?_ ?_ ?_ ?_); (any_goals ((with_reducible show Fr _ _ _ _); k_asm)); (any_goals ((with_reducible show Frag.In _ _); k_asm)); (any_goals ((with_reducible show News _ _ _ _); k_asm)); intro x9 t9 h9 F9 N9 l9; (try k_lt l9); (try k_sweep); k_enter)))
  k_with "my call" => (k_here; (with_reducible show wpAny _ _ (call (Value.ref 307) _) _ _ _); (walk_at "my enter"))
  k_with "getMethod type:Exception" => (k_here; (with_reducible show wpAny _ _ (getMethod (Value.type _) _ _) _ _ _); k_dflt (focus ((refine' rf_gm ?_ ?_ ?_); (any_goals ((with_reducible show Fr _ _ _ _); k_asm)); (any_goals ((with_reducible show Frag.In _ _); k_asm)))))
  k_with "getMethod" => (k_here; (with_reducible show wpAny _ _ (getMethod (Value.type _) _ _) _ _ _); k_dflt (focus ((refine' rf_gm ?_ ?_ ?_); (any_goals ((with_reducible show Fr _ _ _ _); k_asm)); (any_goals ((with_reducible show Frag.In _ _); k_asm)))))
  k_with "getMethod type" => (k_here; (with_reducible show wpAny _ _ (getMethod (Value.type _) _ _) _ _ _); k_dflt (focus ((refine' rf_gm ?_ ?_ ?_); (any_goals ((with_reducible show Fr _ _ _ _); k_asm)); (any_goals ((with_reducible show Frag.In _ _); k_asm)))))
  k_with "call builtin:Exception.__init__" => (k_here; (with_reducible show wpAny _ _ (call (Value.builtin _) [Value.ref _, _]) _ _ _); k_dflt (focus ((refine' rf_init ?_ ?_ ?_ ?_ ?_); (any_goals ((with_reducible show Fr _ _ _ _); k_asm)); (any_goals ((with_reducible show Frag.In _ _); k_asm)); (any_goals ((with_reducible show News _ _ _ _); k_asm)); (any_goals ((with_reducible show ∀ p ∈ _, _); k_all)); intro y9 h9 F9 N9 l9 m9; (try k_lt l9); (try k_lt m9); (try k_sweep))))
  k_with "setAttr ref" => (k_here; (with_reducible show wpAny _ _ (setAttr (Value.ref _) _ _) _ _ _); k_dflt (focus ((refine' rf_set (pre := [_]) ?_ ?_ ?_ ?_ ?_ ?_); (any_goals ((with_reducible show Fr _ _ _ _); k_asm)); (any_goals ((with_reducible show Frag.In _ _); k_asm)); (any_goals ((with_reducible show News _ _ _ _); k_asm)); (any_goals ((with_reducible show ∀ p ∈ _, _); k_all)); intro d9 h9 k9 F9 N9; (try dsimp only [List.cons_append, List.nil_append] at N9); (try k_sweep))))
  k_with "my raise" => (k_here; (with_reducible show wpAny _ _ (exec (Stmt.Raise (some _) none _) _) _ _ _); k_dflt (refine rf_raise (by first | rfl | assumption) ?_))
  k_with "RaisableO" => ((with_reducible show RaisableO _ _ _); k_dflt (focus ((refine' rf_ready (pre := [_]) ?_ ?_ ?_ ?_); (any_goals ((with_reducible show Fr _ _ _ _); k_asm)); (any_goals ((with_reducible show Frag.In _ _); k_asm)); (any_goals ((with_reducible show News _ _ _ _); k_asm)))))
  k_with "Mine.RaisableO" => ((with_reducible show RaisableO _ _ _); k_dflt (focus ((refine' rf_ready (pre := [_]) ?_ ?_ ?_ ?_); (any_goals ((with_reducible show Fr _ _ _ _); k_asm)); (any_goals ((with_reducible show Frag.In _ _); k_asm)); (any_goals ((with_reducible show News _ _ _ _); k_asm)))))
  k_with "my leave" => (k_here; k_dflt (focus ((refine' rf_leave (pre := [_]) ?_ ?_ ?_ ?_ ?_); (any_goals ((with_reducible show Below _ _ _ _); assumption)); (any_goals ((with_reducible show Fr _ _ _ _); assumption)); (any_goals ((with_reducible show News _ _ _ _); k_asm)); (any_goals ((with_reducible show ∀ p ∈ _, _); k_all)); intro h9 R9 U9; (try dsimp only at R9 U9 ⊢))))
  k_with "my catch" => (k_here; k_dflt (focus ((refine' rf_caught ?_ ?_ ?_ ?_ ?_ ?_ ?_ ?_ ?_); (any_goals ((with_reducible show RaisedSN _ _ _ _ _ _ _); assumption)); (any_goals ((with_reducible show Below _ _ _ _); assumption)); (any_goals ((with_reducible show Heap.UpToSlots _ _); assumption)); (any_goals ((with_reducible show Fr _ _ _ _); assumption)); (any_goals ((with_reducible show Frag.In _ _); assumption)); (any_goals ((with_reducible show Top _ _ _ _ _ _); assumption)); (any_goals ((with_reducible show KtsDicts _ _); assumption)); (any_goals ((with_reducible show KtsTurn _ _ _); assumption)); intro h9 g9 T9 F9 N9 K9 X9 P9 D9; (try k_lift K9); (try k_sweep))))
  (have fl9 : Filled KT PySem.Challenge.rw_sa0214_01 := (by k_fill; exact True.intro); intro loose mean mg mb dp un gd cn cs ad ccd outer A₀ base h₀ g₀ L mf s Q E B F X N T XB TB D T0 hk hd hu hret; refine wpAny_call ?_)
  (k_dflt (focus ((refine' code_defS ?k1 ?k2 ?k3 ?k4 ?k5 ?XB ?TB ?D ?T0 ?kA ?k6 ?k7 ?k8 ?k9 ?kB ?_ ?cK ?c2 ?c3 ?c4 ?c5); (case kA => exact rfl); (case k2 => k_asm); (case k1 => k_asm); (case XB => assumption); (case TB => assumption); (case D => assumption); (case T0 => assumption); (case k3 => k_asm); (case k4 => k_asm); (case k5 => k_asm); (case k6 => k_is); (case k7 => k_is); (case k8 => ktr_room); (case k9 => exact BindsTo.of_eq rfl); (case kB => exact locs rfl); (case cK => assumption); (case c2 => exact rfl); (case c3 => exact rfl); (case c4 => exact rfl); (case c5 => decide); k_whole; intro g' L' h' FG' F' N' B' X' T' D'; (try dsimp only); (try k_lift B'); (try k_fold))))
  k_steps
  all_goals first
  | exact hret _ _ _ (by assumption) (by k_asm) (by first | k_asm | (first | (refine sub_drop (by with_reducible assumption) ?_; (try simp only [List.nil_append, List.cons_append]); (with_reducible (repeat' (first | exact fun _ h => h | refine sub_same ?_ | refine sub_more ?_))); done) | k_asm | (refine sub_drop (by assumption) ?_; repeat' (first | exact fun _ h => h | refine sub_same ?_ | refine sub_more ?_)))) (by assumption) (by assumption) (by assumption) (by assumption)
theorem c_stands (w : World) (q : Addr × Obj) (rest : List (Addr × Obj)) (kd f l : Int) (tk tf tl0 ts : Tok) (h0 : 0 ≤ kd) (h2 : kd ≤ 2) (hf1 : f.natAbs < 3000) (hl1 : l.natAbs < 3000) :
    ConS w 314 18 [.int kd tk, .int f tf, .int l tl0, .int 0 ts] (q :: rest) (.bool false) := by
  by_cases hk : kd = 0
  · subst hk
    exact c_stands0 w q rest f l tk tf tl0 ts
  · exact c_standsR w q rest kd f l tk tf tl0 ts (by omega) hf1 hl1

theorem step_facts {a b : Int} (ha0 : 0 ≤ a) (ha : a < 9) (hb0 : 0 ≤ b) (hb : b < 2) : (a + 1) * (1 - 2 * b) ≠ 0 ∧ -9 ≤ (a + 1) * (1 - 2 * b) ∧ (a + 1) * (1 - 2 * b) ≤ 9 := by
  have h : b = 0 ∨ b = 1 := by omega
  rcases h with rfl | rfl <;> omega
theorem kind_facts (n : Nat) : 0 ≤ ([0, 1, 2] : List Int).getD n 0 ∧ ([0, 1, 2] : List Int).getD n 0 ≤ 2 := by
  match n with
  | 0 => decide
  | 1 => decide
  | 2 => decide
  | n + 3 => simp
theorem mul_bound {x y : Int} {m n : Nat} (h1 : x.natAbs ≤ m) (h2 : y.natAbs ≤ n) : (x * y).natAbs ≤ m * n := by
  rw [Int.natAbs_mul]; exact Nat.mul_le_mul h1 h2
theorem wide_facts {k x y st : Int} (hk0 : 0 ≤ k) (hk : k < 5) (hx : x.natAbs ≤ 200) (hy : y.natAbs ≤ 260) (hd : (y - x).natAbs ≤ 60) (hs : st ≠ 0) (hs9 : st.natAbs ≤ 9) :
    ((k + 1) * x).natAbs ≤ 1000 ∧ ((k + 1) * y).natAbs ≤ 1300 ∧ ((k + 1) * y - (k + 1) * x).natAbs ≤ 300 ∧ (k + 1) * st ≠ 0 ∧ ((k + 1) * st).natAbs ≤ 45 := by
  have hk5 : (k + 1).natAbs ≤ 5 := by omega
  refine ⟨mul_bound hk5 hx, mul_bound hk5 hy, ?_, Int.mul_ne_zero (by omega) hs, mul_bound hk5 hs9⟩
  rw [← Int.mul_sub]
  exact mul_bound hk5 hd
theorem rounds_small {f l st : Int} (h : (l - f + st).natAbs ≤ 69) : 0 ≤ rounds f l st ∧ rounds f l st ≤ 69 := by
  have h1 := Nat.div_le_self (l - f + st).natAbs st.natAbs
  unfold rounds tdv
  generalize (l - f + st).natAbs / st.natAbs = q at *
  cases (decide (l - f + st < 0) != decide (st < 0)) <;> simp only [if_true, if_false, Bool.false_eq_true] <;> split <;> omega
theorem turn_facts {vf vl a b k : Int} (vf0 : 0 ≤ vf) (vf1 : vf < 401) (vl0 : 0 ≤ vl) (vl1 : vl < 121) (a0 : 0 ≤ a) (a1 : a < 9) (b0 : 0 ≤ b) (b1 : b < 2) (k0 : 0 ≤ k) (k1 : k < 5) :
    ((a + 1) * (1 - 2 * b) ≠ 0 ∧ -9 ≤ (a + 1) * (1 - 2 * b) ∧ (a + 1) * (1 - 2 * b) ≤ 9) ∧
    (((k + 1) * (vf - 200)).natAbs ≤ 1000 ∧ ((k + 1) * (vf - 200 + vl - 60)).natAbs ≤ 1300 ∧ ((k + 1) * (vf - 200 + vl - 60) - (k + 1) * (vf - 200)).natAbs ≤ 300 ∧ (k + 1) * ((a + 1) * (1 - 2 * b)) ≠ 0 ∧ ((k + 1) * ((a + 1) * (1 - 2 * b))).natAbs ≤ 45) ∧
    (0 ≤ rounds (vf - 200) (vf - 200 + vl - 60) ((a + 1) * (1 - 2 * b)) ∧ rounds (vf - 200) (vf - 200 + vl - 60) ((a + 1) * (1 - 2 * b)) ≤ 69) := by
  obtain ⟨s1, s2, s3⟩ := step_facts a0 a1 b0 b1
  generalize (a + 1) * (1 - 2 * b) = st at *
  exact ⟨⟨s1, s2, s3⟩, wide_facts k0 k1 (by omega) (by omega) (by omega) s1 (by omega), rounds_small (by omega)⟩
theorem cut_facts {cut st : Int} (c0 : 0 ≤ cut) (c1 : cut ≤ 69) (s1 : -9 ≤ st) (s2 : st ≤ 9) : -621 ≤ cut * st ∧ cut * st ≤ 621 := by
  have := mul_bound (x := cut) (y := st) (m := 69) (n := 9) (by omega) (by omega)
  omega
section
variable (w : World) (q : Addr × Obj) (rest : List (Addr × Obj)) (kd f l st : Int) (tk tf tl0 ts : Tok)
theorem c_rNeg (h0 : 0 ≤ kd) (h2 : kd ≤ 2) (hs : st ≠ 0) (hf1 : f.natAbs < 3000) (hl1 : l.natAbs < 3000) (hs1 : st.natAbs < 50) (hd1 : (l - f).natAbs < 900) :
    Con w 307 14 [.int kd tk, .int (0 - f) tf, .int (0 - l) tl0, .int (0 - st) ts] (q :: rest) (fun r tl => tl = [] ∧ ∃ t, r = .int (rounds f l st) t) := by
  have e : rounds (0 - f) (0 - l) (0 - st) = rounds f l st := by rw [Int.zero_sub, Int.zero_sub, Int.zero_sub]; exact rounds_neg hs
  rw [← e]
  exact c_roundsK w q rest kd _ _ _ tk tf tl0 ts h0 h2 (by omega) (by omega) (by omega) (by omega) (by omega)
theorem c_rShift (s : Int) (h0 : 0 ≤ kd) (h2 : kd ≤ 2) (hs : st ≠ 0) (hf1 : (f + s).natAbs < 3000) (hl1 : (l + s).natAbs < 3000) (hs1 : st.natAbs < 50) (hd1 : (l - f).natAbs < 900) :
    Con w 307 14 [.int kd tk, .int (f + s) tf, .int (l + s) tl0, .int st ts] (q :: rest) (fun r tl => tl = [] ∧ ∃ t, r = .int (rounds f l st) t) := by
  rw [← rounds_shift (s := s)]
  exact c_roundsK w q rest kd _ _ _ tk tf tl0 ts h0 h2 hs hf1 hl1 hs1 (by omega)
theorem c_rWide (k : Int) (h0 : 0 ≤ kd) (h2 : kd ≤ 2) (hs : st ≠ 0) (hk : 0 < k) (hf1 : (k * f).natAbs < 3000) (hl1 : (k * l).natAbs < 3000) (hs1 : (k * st).natAbs < 50) (hd1 : (k * l - k * f).natAbs < 900) :
    Con w 307 14 [.int kd tk, .int (k * f) tf, .int (k * l) tl0, .int (k * st) ts] (q :: rest) (fun r tl => tl = [] ∧ ∃ t, r = .int (rounds f l st) t) := by
  rw [← rounds_wide hs hk]
  exact c_roundsK w q rest kd _ _ _ tk tf tl0 ts h0 h2 (Int.mul_ne_zero (by omega) hs) hf1 hl1 hs1 hd1
theorem c_rCut1 (cut : Int) (hc : cut ≤ rounds f l st) (h0 : 0 ≤ kd) (h2 : kd ≤ 2) (hs : st ≠ 0) (hc0 : 0 ≤ cut) (hf1 : f.natAbs < 3000) (hl1 : (f + cut * st - st).natAbs < 3000) (hs1 : st.natAbs < 50) (hd1 : (f + cut * st - st - f).natAbs < 900) :
    Con w 307 14 [.int kd tk, .int f tf, .int (f + cut * st - st) tl0, .int st ts] (q :: rest) (fun r tl => tl = [] ∧ ∃ t, r = .int cut t) := by
  have e := (rounds_cut hs rfl hc0 hc).1
  have h := c_roundsK w q rest kd f (f + cut * st - st) st tk tf tl0 ts h0 h2 hs hf1 hl1 hs1 hd1
  rw [e] at h
  exact h
theorem c_rCut2 (cut : Int) (hc : cut ≤ rounds f l st) (h0 : 0 ≤ kd) (h2 : kd ≤ 2) (hs : st ≠ 0) (hc0 : 0 ≤ cut) (hf1 : (f + cut * st).natAbs < 3000) (hl1 : l.natAbs < 3000) (hs1 : st.natAbs < 50) (hd1 : (l - (f + cut * st)).natAbs < 900) :
    Con w 307 14 [.int kd tk, .int (f + cut * st) tf, .int l tl0, .int st ts] (q :: rest) (fun r tl => tl = [] ∧ ∃ t, r = .int (rounds f l st - cut) t) := by
  have e := (rounds_cut hs rfl hc0 hc).2
  rw [← e]
  exact c_roundsK w q rest kd _ _ _ tk tf tl0 ts h0 h2 hs hf1 hl1 hs1 hd1
end
/-- both ways of a test end in one state, but for its counter -/
def Joined (s : Shared) (fl : Flow) (s' : Shared) : Prop := fl = .next ∧ ∃ tk, s' = { s with toks := tk }
theorem join_toks {M : Model} {A : Around} {t : Sem Flow} {Q : Flow → Shared → Prop} {E : Value → Shared → Prop} {s : Shared} (key : ∀ tk, Q .next { s with toks := tk }) (h : wpAny M A t (Joined s) (fun _ _ => False) s) : wpAny M A t Q E s :=
  wpAny_mono h (fun fl s' z => by obtain ⟨rfl, tk, rfl⟩ := z; exact key tk) fun _ _ z => z.elim
theorem ConS.use {w : World} {f : Addr} {need : Nat} {vs : List Value} {news : List (Addr × Obj)} {r : Value} (C : ConS w f need vs news r)
    {loose : List Str} {mean : ExcName → Option Value} {mg mb : Str → Option Value} {dp un : Nat} {gd : Option (List Code)} {cn : Str} {cs : Scope} {a : Addr} {ccd : Value} {outer : List Env} {A₀ : Around} {base h₀ : Heap} {L : Addr} {m : Str → Option Value} {s : Shared} {Q E : Value → Shared → Prop}
    (B : Below A₀ base outer h₀) (F : Fr h₀ L s.heap m) (X : (KT w.params).In h₀) (N : News h₀ L s.heap news) (T : Top VT loose mean mg mb h₀) (XB : (KT w.params).In base) (TB : Top VT loose mean mg mb base) (D : KtsDicts (outer.filterMap (·.frame)) h₀) (hk : cs.kind = .function)
    (hd : dp + need < recursionLimit) (hu : un + 8 * need < cLine)
    (ret : ∀ (h₀' h' : Heap) (tk' : Nat), KtsTurn (outer.filterMap (·.frame)) h₀ h₀' → Fr h₀' L h' m → News h₀' L h' news → Below A₀ base outer h₀' → (KT w.params).In h₀' → Top VT loose mean mg mb h₀' → KtsDicts (outer.filterMap (·.frame)) h₀' → Q r { s with heap := h', toks := tk' }) :
    wpAny (model PySem.Challenge.rw_sa0214_01.row.prog w) (ktrTop dp un gd cn cs L a ccd [] outer) (call (.ref f) vs) Q E s :=
  C loose mean mg mb dp un gd cn cs a ccd outer A₀ base h₀ h₀ L m s Q E B F X N T XB TB D KtsTurn.refl hk hd hu ret
local macro_rules | `(tactic| walk_at "exec If") => `(tactic| k_extra "my if")
theorem rope8 {w : World} {o : Obj} {l : Addr} {k : Int} {t : Tok} (h : Rope w o l (k + 1 + 1 + 1 + 1 + 1 + 1 + 1 + 1) t) : Rope w o l (k + 8) t := by
  rw [show k + 8 = k + 1 + 1 + 1 + 1 + 1 + 1 + 1 + 1 from by omega]
  exact h
theorem c_turn (w : World) (p1 : Addr × Obj) (d : Addr) (o : Obj) (l : Addr) (vs : List Value) (ns : List Int) (k : Int) (t : Tok) (hk0 : 0 ≤ k) (ho : Rope w o l k t) (hp1 : p1.1 ≠ d) (hI : IntsAre vs ns) (hlen : ns.length < 4611686018427387904) :
    ∀ (loose : List Str) (mean : ExcName → Option Value) (mg mb : Str → Option Value) (dp un : Nat) (gd : Option (List Code)) (cn : Str) (cs : Scope) (ad : Addr) (ccd : Value) (A₀ : Around) (base h₀ : Heap) (L : Addr) (mf : Str → Option Value) (s : Shared) (Q E : Value → Shared → Prop),
    Below A₀ base [] h₀ → Fr h₀ L s.heap mf → (KT w.params).In h₀ → News h₀ L s.heap [p1, (d, o)] → Top VT loose mean mg mb h₀ → (KT w.params).In base → Top VT loose mean mg mb base → cs.kind = .function → base.IsList l vs.toArray →
    dp + 24 < recursionLimit → un + 192 < cLine →
    (∀ (o' : Obj) (t' : Tok) (h' : Heap) (tk' : Nat), Fr h₀ L h' mf → News h₀ L h' [p1, (d, o')] → Rope w o' l (k + 8) t' → Q (.bool true) { s with heap := h', toks := tk' }) →
    wpAny (model PySem.Challenge.rw_sa0214_01.row.prog w) (ktrTop dp un gd cn cs L ad ccd [] []) (call (.ref 321) [.ref d]) Q E s := by
  k_with_none
  k_with "my return" => (k_here; exfalso; with_reducible contradiction)
  k_with "my call" => (k_here; (with_reducible show wpAny _ _ (call (Value.ref 307) _) _ _ _); k_dflt (focus ((refine' Con.use (c_roundsK _ _ _ _ _ _ _ _ _ _ _ ?_ ?_ ?_ ?_ ?_ ?_ ?_) ?_ ?_ ?_ ?_ ?_ ?_ ?_ ?_ ?_); (walk_at "my use"); (· first | omega | k_extra "kind"); (· first | omega | k_extra "kind"); (· first | with_reducible assumption | omega | k_extra "step"); (· first | omega | k_extra "small"); (· first | omega | k_extra "small"); (· first | omega | k_extra "small"); (· first | omega | k_extra "small"); intro r9 tl9 h9 tk9 F9 N9 hR9; (try dsimp only at hR9); obtain ⟨ea9, t9, eb9⟩ := hR9; subst ea9; subst eb9; (try simp only [List.nil_append] at N9); (try dsimp only); (try k_fold))))
  k_with "my call" => (k_here; (with_reducible show wpAny _ _ (call (Value.ref 307) _) _ _ _); k_dflt (focus ((refine' Con.use (c_rNeg _ _ _ _ _ _ _ _ _ _ _ ?_ ?_ ?_ ?_ ?_ ?_ ?_) ?_ ?_ ?_ ?_ ?_ ?_ ?_ ?_ ?_); (walk_at "my use"); (· first | omega | k_extra "kind"); (· first | omega | k_extra "kind"); (· first | with_reducible assumption | omega | k_extra "step"); (· first | with_reducible assumption | omega | k_extra "small"); (· first | with_reducible assumption | omega | k_extra "small"); (· first | with_reducible assumption | omega | k_extra "small"); (· first | with_reducible assumption | omega | k_extra "small"); intro r9 tl9 h9 tk9 F9 N9 hR9; (try dsimp only at hR9); obtain ⟨ea9, t9, eb9⟩ := hR9; subst ea9; subst eb9; (try simp only [List.nil_append] at N9); (try dsimp only); (try k_fold))))
  k_with "my call" => (k_here; (with_reducible show wpAny _ _ (call (Value.ref 307) _) _ _ _); k_dflt (focus ((refine' Con.use (c_rShift _ _ _ _ _ _ _ _ _ _ _ _ ?_ ?_ ?_ ?_ ?_ ?_ ?_) ?_ ?_ ?_ ?_ ?_ ?_ ?_ ?_ ?_); (walk_at "my use"); (· first | omega | k_extra "kind"); (· first | omega | k_extra "kind"); (· first | with_reducible assumption | omega | k_extra "step"); (· first | with_reducible assumption | omega | k_extra "small"); (· first | with_reducible assumption | omega | k_extra "small"); (· first | with_reducible assumption | omega | k_extra "small"); (· first | with_reducible assumption | omega | k_extra "small"); intro r9 tl9 h9 tk9 F9 N9 hR9; (try dsimp only at hR9); obtain ⟨ea9, t9, eb9⟩ := hR9; subst ea9; subst eb9; (try simp only [List.nil_append] at N9); (try dsimp only); (try k_fold))))
  k_with "my call" => (k_here; (with_reducible show wpAny _ _ (call (Value.ref 307) _) _ _ _); k_dflt (focus ((refine' Con.use (c_rWide _ _ _ _ _ _ _ _ _ _ _ _ ?_ ?_ ?_ ?_ ?_ ?_ ?_ ?_) ?_ ?_ ?_ ?_ ?_ ?_ ?_ ?_ ?_); (walk_at "my use"); (· first | omega | k_extra "kind"); (· first | omega | k_extra "kind"); (· first | with_reducible assumption | omega | k_extra "step"); (· omega); (· first | with_reducible assumption | omega | k_extra "small"); (· first | with_reducible assumption | omega | k_extra "small"); (· first | with_reducible assumption | omega | k_extra "small"); (· first | with_reducible assumption | omega | k_extra "small"); intro r9 tl9 h9 tk9 F9 N9 hR9; (try dsimp only at hR9); obtain ⟨ea9, t9, eb9⟩ := hR9; subst ea9; subst eb9; (try simp only [List.nil_append] at N9); (try dsimp only); (try k_fold))))
  k_with "my call" => (k_here; (with_reducible show wpAny _ _ (call (Value.ref 307) _) _ _ _); k_dflt (focus ((refine' Con.use (c_rCut1 _ _ _ _ _ _ _ _ _ _ _ _ ?_ ?_ ?_ ?_ ?_ ?_ ?_ ?_ ?_) ?_ ?_ ?_ ?_ ?_ ?_ ?_ ?_ ?_); (walk_at "my use"); (any_goals ((with_reducible show _ ≤ rounds _ _ _); with_reducible assumption)); (· first | omega | k_extra "kind"); (· first | omega | k_extra "kind"); (· first | with_reducible assumption | omega | k_extra "step"); (· first | with_reducible assumption | omega | k_extra "small"); (· first | with_reducible assumption | omega | k_extra "small"); (· first | with_reducible assumption | omega | k_extra "small"); (· first | with_reducible assumption | omega | k_extra "small"); (· first | with_reducible assumption | omega | k_extra "small"); intro r9 tl9 h9 tk9 F9 N9 hR9; (try dsimp only at hR9); obtain ⟨ea9, t9, eb9⟩ := hR9; subst ea9; subst eb9; (try simp only [List.nil_append] at N9); (try dsimp only); (try k_fold))))
  k_with "my call" => (k_here; (with_reducible show wpAny _ _ (call (Value.ref 307) _) _ _ _); k_dflt (focus ((refine' Con.use (c_rCut2 _ _ _ _ _ _ _ _ _ _ _ _ ?_ ?_ ?_ ?_ ?_ ?_ ?_ ?_ ?_) ?_ ?_ ?_ ?_ ?_ ?_ ?_ ?_ ?_); (walk_at "my use"); (any_goals ((with_reducible show _ ≤ rounds _ _ _); with_reducible assumption)); (· first | omega | k_extra "kind"); (· first | omega | k_extra "kind"); (· first | with_reducible assumption | omega | k_extra "step"); (· first | with_reducible assumption | omega | k_extra "small"); (· first | with_reducible assumption | omega | k_extra "small"); (· first | with_reducible assumption | omega | k_extra "small"); (· first | with_reducible assumption | omega | k_extra "small"); (· first | with_reducible assumption | omega | k_extra "small"); intro r9 tl9 h9 tk9 F9 N9 hR9; (try dsimp only at hR9); obtain ⟨ea9, t9, eb9⟩ := hR9; subst ea9; subst eb9; (try simp only [List.nil_append] at N9); (try dsimp only); (try k_fold))))
  k_with "my call" => (k_here; (with_reducible show wpAny _ _ (call (Value.ref 314) _) _ _ _); k_dflt (focus ((refine' ConS.use (c_stands _ _ _ _ _ _ _ _ _ _ ?_ ?_ ?_ ?_) ?_ ?_ ?_ ?_ ?_ ?_ ?_ ?_ ?_ ?_ ?_ ?_); (any_goals ((with_reducible show Below _ _ _ _); k_asm)); (any_goals ((with_reducible show Fr _ _ _ _); k_asm)); (any_goals ((with_reducible show Frag.In _ _); assumption)); (any_goals ((with_reducible show News _ _ _ _); k_asm)); (any_goals ((with_reducible show Top _ _ _ _ _ _); assumption)); (any_goals ((with_reducible show KtsDicts _ _); assumption)); (any_goals ((with_reducible show _ = ScopeKind.function); first | exact rfl | assumption)); (any_goals ((with_reducible show _ < recursionLimit); ktr_room)); (any_goals ((with_reducible show _ < cLine); ktr_units)); (· first | omega | k_extra "kind"); (· first | omega | k_extra "kind"); (· first | omega | k_extra "small"); (· first | omega | k_extra "small"); intro g9 h9 k9 T9 F9 N9 B9 X9 P9 D9; (try k_lift B9); (try dsimp only); (try k_fold))))
  k_with "kind" => first | exact (kind_facts _).1 | exact (kind_facts _).2
  k_with "my if" => (k_here; (with_reducible show wpAny _ _ (exec (Stmt.If (Expr.BoolOp BoolOp.And _ _) _ _ _) _) _ _ _); (fail_if_success (with_reducible show wpAny _ _ _ (Joined _) _ _)); refine join_toks (fun tk9 => ?_) ?_)
  k_with "Mine.Joined" => exact ⟨rfl, _, rfl⟩
  k_with "Joined" => exact ⟨rfl, _, rfl⟩
  have fl9 : Filled KT PySem.Challenge.rw_sa0214_01 := (by k_fill; exact True.intro)
  obtain ⟨a1, o1⟩ := p1
  dsimp only at hp1
  unfold Rope at ho
  intro loose mean mg mb dp un gd cn cs ad ccd A₀ base h₀ L mf s Q E B F X N T XB TB hk hL hd hu hret
  refine wpAny_call ?_
  (k_dflt (focus ((refine' code_defS0 ?k1 ?k2 ?k3 ?k4 ?k5 ?kA ?k6 ?k7 ?k8 ?k9 ?kB ?_ ?cK ?c2 ?c3 ?c4 ?c5); (case kA => exact rfl); (case k2 => k_asm); (case k1 => k_asm); (case k3 => k_asm); (case k4 => k_asm); (case k5 => k_asm); (case k6 => k_is); (case k7 => k_is); (case k8 => ktr_room); (case k9 => exact BindsTo.of_eq rfl); (case kB => exact locs rfl); (case cK => assumption); (case c2 => exact rfl); (case c3 => exact rfl); (case c4 => exact rfl); (case c5 => decide); k_whole; intro g' L' h' FG' F' N' B' X' T' D'; (try dsimp only); (try k_lift B'); (try k_fold))))
  repeat' ((fail_if_success (with_reducible show wpAny _ _ (call (Value.ref 307) _) _ _ _)); first | (k_unfold; (try dsimp only)) | walk1 | (dsimp only; walk1))
  (rename (_ < (401 : Int)) => x1)
  (rename (_ < (121 : Int)) => x2)
  (rename (_ < (9 : Int)) => x3)
  (rename (_ < (2 : Int)) => x4)
  (rename (_ < (5 : Int)) => x5)
  (rename (_ < (201 : Int)) => x6)
  obtain ⟨⟨y1, y2, y3⟩, ⟨y4, y5, y6, y7, y8⟩, y9, y10⟩ := turn_facts (by assumption) x1 (by assumption) x2 (by assumption) x3 (by assumption) x4 (by assumption) x5
  obtain ⟨z2, z3⟩ := count_of y1 y9
  walk1
  repeat' ((fail_if_success (with_reducible show wpAny _ _ (call (Value.ref 307) _) _ _ _)); first | (k_unfold; (try dsimp only)) | walk1 | (dsimp only; walk1))
  all_goals first | (exfalso; omega) | skip
  (rename (_ < _ + (1 : Int)) => x8)
  have hcut := many_le x8 y9
  obtain ⟨w1, w2⟩ := cut_facts (by assumption) (Int.le_trans hcut y10) y2 y3
  k_steps
  all_goals first
  | exact hret _ _ _ _ (by k_asm) (by (first | (refine sub_drop (by with_reducible assumption) ?_; (try simp only [List.nil_append, List.cons_append]); (with_reducible (repeat' (first | exact fun _ h => h | refine sub_same ?_ | refine sub_more ?_))); done) | k_asm | (refine sub_drop (by assumption) ?_; repeat' (first | exact fun _ h => h | refine sub_same ?_ | refine sub_more ?_)))) (rope8 (by assumption))
  | (exfalso; omega)
  | skip
theorem turn_use {w : World} {p1 : Addr × Obj} {d : Addr} {o : Obj} {l : Addr} {vs : List Value} {ns : List Int} {k : Int} {t : Tok} {loose : List Str} {mean : ExcName → Option Value} {mg mb : Str → Option Value} {dp un : Nat} {gd : Option (List Code)} {cn : Str} {cs : Scope} {ad : Addr} {ccd : Value} {A₀ : Around} {base h₀ : Heap} {L : Addr} {mf : Str → Option Value} {s : Shared} {Q E : Value → Shared → Prop}
    (B : Below A₀ base [] h₀) (F : Fr h₀ L s.heap mf) (X : (KT w.params).In h₀) (N : News h₀ L s.heap [p1, (d, o)]) (T : Top VT loose mean mg mb h₀) (XB : (KT w.params).In base) (TB : Top VT loose mean mg mb base) (hk : cs.kind = .function) (hL : base.IsList l vs.toArray) (ho : Rope w o l k t) (hp1 : p1.1 ≠ d) (hI : IntsAre vs ns) (hk0 : 0 ≤ k) (hlen : ns.length < 4611686018427387904)
    (hd : dp + 24 < recursionLimit) (hu : un + 192 < cLine)
    (ret : ∀ (o' : Obj) (t' : Tok) (h' : Heap) (tk' : Nat), Fr h₀ L h' mf → News h₀ L h' [p1, (d, o')] → Rope w o' l (k + 8) t' → Q (.bool true) { s with heap := h', toks := tk' }) :
    wpAny (model PySem.Challenge.rw_sa0214_01.row.prog w) (ktrTop dp un gd cn cs L ad ccd [] []) (call (.ref 321) [.ref d]) Q E s :=
  c_turn w p1 d o l vs ns k t hk0 ho hp1 hI hlen loose mean mg mb dp un gd cn cs ad ccd A₀ base h₀ L mf s Q E B F X N T XB TB hk hL hd hu ret

end Mine
local macro_rules | `(tactic| ktu_off) => `(tactic| first | exact Or.inr (by k_cls) | exact Or.inr (ktu_clsNe (by with_reducible assumption) (by k_cls)) | exact Or.inr (ktu_clsNe2 (by with_reducible assumption) (by k_cls)) | exact Or.inl (by k_ne))
local macro_rules | `(tactic| walk_at "call ref") => `(tactic| (k_here; (with_reducible show wpAny _ _ (call (Value.ref 321) _) _ _ _); k_dflt ((refine' Mine.turn_use ?k1 ?k2 ?k3 ?k4 ?k5 ?XB ?TB ?kK ?hL ?ho ?hp1 ?hI ?hk0 ?hlen ?kd ?ku ?_); (case k1 => k_asm); (case k2 => k_asm); (case k3 => k_asm); (case k4 => k_asm); (case k5 => k_asm); (case XB => (rename (Frag.In _ _) => x9); exact x9); (case TB => (rename (Top _ _ _ _ _ _) => x9); exact x9); (case kK => exact rfl); (case hL => (rename (Heap.IsList _ _ _) => x9); exact x9); (case ho => (rename (Obj.IsDictOf _ _ _) => x9); exact x9); (case hp1 => ((try dsimp only); first | with_reducible assumption | k_ne)); (case hI => (rename (IntsAre _ _) => x9); exact x9); (case hk0 => omega); (case hlen => omega); (case kd => first | ktr_room | decide); (case ku => first | ktr_units | (have hcL9 := cLine_is; simp only [units_in1, units_deeper, Around.mark_units, units_caller, cLine]; omega)); intro o9 t9 h9 tk9 F9 N9 hd9; (try dsimp only); (try k_fold))))
set_option maxRecDepth 100000 in
set_option maxHeartbeats 8000000 in
theorem PySem.Challenge.cw_sa0214_01_holds : PySem.Challenge.rw_sa0214_01.Holds := by
  (k_with_none)
  w_on
  refine holds_law Mine.said_ok fun said => ?_
  refine holds_open (q := Mine.VT) (loose := []) (Xt := fun s => xlAt Mine.VT [] s && recOk (RowW.records (OpenRow.toRowW PySem.Challenge.rw_sa0214_01.row)) s) (XP := XL Mine.VT []) (Yf := Hook.obs (kHook Mine.KT Mine.AT Mine.at_ok)) (Ya := Hook.val (kHook Mine.KT Mine.AT Mine.at_ok)) (YP := Hook.says (kHook Mine.KT Mine.AT Mine.at_ok)) (N := 4096) Mine.left_ok (Hook.of (kHook Mine.KT Mine.AT Mine.at_ok)) (Hook.keeps (kHook Mine.KT Mine.AT Mine.at_ok)) (fun s e => xl_of s (Bool.and_eq_true_iff.mp e).1) XL.keeps (by rfl) (by rfl) (by rfl) (fun s e => recFacts_of (Bool.and_eq_true_iff.mp e).2) (by rfl) (by first | assumption | decide +kernel) (by decide +kernel) ⟨rfl, rfl, rfl, rfl, rfl, by decide +kernel⟩ ?hw ?hc
  case hw => w_witness2
  w_strict (k_go0; (all_goals try k_fold); k_steps; (all_goals (try k_data)); all_goals w_report)
