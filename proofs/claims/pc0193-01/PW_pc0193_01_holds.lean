import PyProof.Rows.All
import Wide.All
import OpenK.AllK
import Wide.FinOn
import Lean
import PySem.Challenge.RW_pc0193_01
open PySem PySem.W PySem.Spec PySem.Calls PyProof.Rows
set_option Elab.async false
set_option maxRecDepth 100000
set_option maxHeartbeats 4000000
set_option compiler.extract_closed false
namespace Mine
/- Hk -/
theorem law_said : PySem.Challenge.rw_pc0193_01.wellSaid = true := by kernel_rfl
noncomputable def vw : Program := view PySem.Challenge.pw_pc0193_01 [1,2,4,5,6,7,8,10,11,12,13,14,15,16,17,18,19,20,21,22,23,24,25,26,27,28,29,30,31,32,34,35,36,37,38,39,40,41,42,43,44,45,46,47,48,49]
abbrev lse : List Str := [Str.ofString "RowsError", Str.ofString "WIDTHS"]

/-- a def of the program, as its statement makes it -/
noncomputable def fnK (i : Nat) (md : String) (tk : Tok) (c : Addr) : Obj := match PySem.Challenge.pw_pc0193_01.main.body[i]? with
  | some (.FunctionDef name args body _ _ _ scope _ _ _) => { cls := Value.type "function", data := Data.func { name := name, qualname := name, params := args, body := FuncBody.stmts body, scope := scope, globals := 3, closure := [], defaults := Value.none, kwdefaults := Value.none, pyModule := Value.str (Str.ofString md) tk, code := Value.ref c } }
  | _ => { cls := Value.none, data := Data.seq #[] }
/-- a method, the first statement of a class's body -/
noncomputable def methK (i : Nat) (q : String) (d : Value) (md : String) (tk : Tok) (c : Addr) : Obj := match PySem.Challenge.pw_pc0193_01.main.body[i]? with
  | some (.ClassDef _ _ _ (.FunctionDef name args body _ _ _ scope _ _ _ :: _) _ _ _ _ _ _ _) => { cls := Value.type "function", data := Data.func { name := name, qualname := Str.ofString q, params := args, body := FuncBody.stmts body, scope := scope, globals := 3, closure := [], defaults := d, kwdefaults := Value.none, pyModule := Value.str (Str.ofString md) tk, code := Value.ref c } }
  | _ => { cls := Value.none, data := Data.seq #[] }
noncomputable def KF : Params → Frag := fun P =>
  (nat_lit 2, ({ cls := Value.none, data := Data.dict #[{ hash := PyData.keyHash P "type.__subclasses__.Exception.0", key := Value.str "type.__subclasses__.Exception.0" 216, val := Value.int 32 0 }, { hash := PyData.keyHash P "type.__subclasses__.Exception.n", key := Value.str "type.__subclasses__.Exception.n" 217, val := Value.int 1 0 }] 2 } : Obj)) ::
  (nat_lit 3, ({ cls := Value.type "dict", data := Data.dict #[{ hash := PyData.keyHash P "__name__", key := Value.str "__name__" 165, val := Value.str "law_pc0193_01" 485 }, { hash := PyData.keyHash P "__doc__", key := Value.str "__doc__" 166, val := Value.none }, { hash := PyData.keyHash P "__package__", key := Value.str "__package__" 167, val := Value.none }, { hash := PyData.keyHash P "__loader__", key := Value.str "__loader__" 168, val := Value.builtin "__main__.__loader__#opaque" }, { hash := PyData.keyHash P "__spec__", key := Value.str "__spec__" 169, val := Value.none }, { hash := PyData.keyHash P "__annotations__", key := Value.str "__annotations__" 170, val := Value.ref 6 }, { hash := PyData.keyHash P "__builtins__", key := Value.str "__builtins__" 171, val := Value.ref 4 }, { hash := PyData.keyHash P "__file__", key := Value.str "__file__" 173, val := Value.str "/claim/cut.py" 172 }, { hash := PyData.keyHash P "__cached__", key := Value.str "__cached__" 174, val := Value.none }, { hash := PyData.keyHash P "RowsError", key := Value.str "RowsError" 219, val := Value.ref 32 }, { hash := PyData.keyHash P "Thrown", key := Value.str "Thrown" 244, val := Value.ref 52 }, { hash := PyData.keyHash P "text_value", key := Value.str "text_value" 253, val := Value.ref 61 }, { hash := PyData.keyHash P "error_kind", key := Value.str "error_kind" 260, val := Value.ref 68 }, { hash := PyData.keyHash P "error_value", key := Value.str "error_value" 268, val := Value.ref 75 }, { hash := PyData.keyHash P "thrown", key := Value.str "thrown" 276, val := Value.ref 82 }, { hash := PyData.keyHash P "thrown_text", key := Value.str "thrown_text" 284, val := Value.ref 89 }, { hash := PyData.keyHash P "WIDTHS", key := Value.str "WIDTHS" 311, val := Value.ref 90 }, { hash := PyData.keyHash P "BIG", key := Value.str "BIG" 313, val := Value.str "BigInt" 312 }, { hash := PyData.keyHash P "MOST_BITS", key := Value.str "MOST_BITS" 315, val := Value.int 4000 314 }, { hash := PyData.keyHash P "bits_of", key := Value.str "bits_of" 322, val := Value.ref 97 }, { hash := PyData.keyHash P "is_signed", key := Value.str "is_signed" 329, val := Value.ref 104 }, { hash := PyData.keyHash P "least", key := Value.str "least" 336, val := Value.ref 111 }, { hash := PyData.keyHash P "greatest", key := Value.str "greatest" 343, val := Value.ref 118 }, { hash := PyData.keyHash P "fits", key := Value.str "fits" 351, val := Value.ref 125 }, { hash := PyData.keyHash P "bounded", key := Value.str "bounded" 358, val := Value.ref 132 }, { hash := PyData.keyHash P "wrapped", key := Value.str "wrapped" 368, val := Value.ref 139 }, { hash := PyData.keyHash P "exact", key := Value.str "exact" 377, val := Value.ref 146 }, { hash := PyData.keyHash P "checked", key := Value.str "checked" 388, val := Value.ref 153 }, { hash := PyData.keyHash P "negated", key := Value.str "negated" 396, val := Value.ref 160 }, { hash := PyData.keyHash P "unsigned", key := Value.str "unsigned" 404, val := Value.ref 167 }, { hash := PyData.keyHash P "moved_up", key := Value.str "moved_up" 413, val := Value.ref 174 }, { hash := PyData.keyHash P "moved_down", key := Value.str "moved_down" 423, val := Value.ref 181 }, { hash := PyData.keyHash P "shifted", key := Value.str "shifted" 433, val := Value.ref 188 }, { hash := PyData.keyHash P "bits_together", key := Value.str "bits_together" 442, val := Value.ref 195 }, { hash := PyData.keyHash P "inverted", key := Value.str "inverted" 450, val := Value.ref 202 }, { hash := PyData.keyHash P "ones_in", key := Value.str "ones_in" 460, val := Value.ref 209 }, { hash := PyData.keyHash P "zeros_ahead", key := Value.str "zeros_ahead" 468, val := Value.ref 216 }, { hash := PyData.keyHash P "kind_value", key := Value.str "kind_value" 475, val := Value.ref 223 }, { hash := PyData.keyHash P "converted", key := Value.str "converted" 484, val := Value.ref 230 }, { hash := PyData.keyHash P "_law_pot", key := Value.str "_law_pot" 495, val := Value.ref 237 }, { hash := PyData.keyHash P "_law_out", key := Value.str "_law_out" 504, val := Value.ref 244 }, { hash := PyData.keyHash P "_law_ends", key := Value.str "_law_ends" 512, val := Value.ref 251 }, { hash := PyData.keyHash P "_law_round", key := Value.str "_law_round" 523, val := Value.ref 258 }, { hash := PyData.keyHash P "_law_some", key := Value.str "_law_some" 534, val := Value.ref 265 }, { hash := PyData.keyHash P "_law_bits", key := Value.str "_law_bits" 540, val := Value.ref 270 }, { hash := PyData.keyHash P "_law_width", key := Value.str "_law_width" 547, val := Value.ref 277 }, { hash := PyData.keyHash P "_law_number", key := Value.str "_law_number" 553, val := Value.ref 282 }, { hash := PyData.keyHash P "_law_sums_right", key := Value.str "_law_sums_right" 566, val := Value.ref 289 }, { hash := PyData.keyHash P "_law_bits_right", key := Value.str "_law_bits_right" 572, val := Value.ref 294 }, { hash := PyData.keyHash P "_law_moved", key := Value.str "_law_moved" 581, val := Value.ref 301 }, { hash := PyData.keyHash P "_law_shifts_right", key := Value.str "_law_shifts_right" 592, val := Value.ref 308 }, { hash := PyData.keyHash P "_law_heard", key := Value.str "_law_heard" 600, val := Value.ref 315 }, { hash := PyData.keyHash P "_law_converted_right", key := Value.str "_law_converted_right" 613, val := Value.ref 322 }, { hash := PyData.keyHash P "_law_big_right", key := Value.str "_law_big_right" 621, val := Value.ref 329 }, { hash := PyData.keyHash P "law", key := Value.str "law" 627, val := Value.ref 334 }] 55 } : Obj)) ::
  (nat_lit 15, ({ cls := Value.type "tuple", data := Data.seq #[Value.type "Exception"] } : Obj)) ::
  (nat_lit 22, ({ cls := Value.type "tuple", data := Data.seq #[Value.none] } : Obj)) ::
  (nat_lit 28, ({ cls := Value.type "code", data := Data.fields #[Value.str "__init__" 201, Value.str "RowsError.__init__" 202, Value.str "/claim/cut.py" 203, Value.int 4 0, Value.int 3 0, Value.int 0 0, Value.int 0 0, Value.int 3 0, Value.ref 23, Value.bool true, Value.int 181 0, Value.ref 24, Value.none, Value.ref 25, Value.ref 26, Value.ref 27, Value.int 207 0, Value.int 4 0, Value.str "/claim/cut.py" 208] } : Obj)) ::
  (nat_lit 29, (methK 1 "RowsError.__init__" (Value.ref 22) "methodrows.errors" 187 28 : Obj)) ::
  (nat_lit 30, ({ cls := Value.type "tuple", data := Data.seq #[Value.str "message" 210, Value.str "spot" 211] } : Obj)) ::
  (nat_lit 31, ({ cls := Value.type "dict", data := Data.dict #[{ hash := PyData.keyHash P "__module__", key := Value.str "__module__" 196, val := Value.str "methodrows.errors" 187 }, { hash := PyData.keyHash P "__firstlineno__", key := Value.str "__firstlineno__" 200, val := Value.int 2 199 }, { hash := PyData.keyHash P "__init__", key := Value.str "__init__" 209, val := Value.ref 29 }, { hash := PyData.keyHash P "__static_attributes__", key := Value.str "__static_attributes__" 212, val := Value.ref 30 }, { hash := PyData.keyHash P "__weakref__", key := Value.str "__weakref__" 214, val := Value.ref 33 }, { hash := PyData.keyHash P "__doc__", key := Value.str "__doc__" 215, val := Value.none }] 3 } : Obj)) ::
  (nat_lit 32, ({ cls := Value.type "type", data := Data.cls { name := "RowsError", bases := [Value.type "Exception"], mro := [Value.ref 32, Value.type "Exception", Value.type "BaseException", Value.type "object"], ns := 31, qualname := "RowsError", subclasses := [Value.ref 52] }, slots := #[some (Value.ref 15), none, some (Value.str "RowsError" 189), some (Value.str "RowsError" 197), some (Value.builtin "Exception.__new__"), some (Value.bool true)] } : Obj)) ::
  (nat_lit 33, ({ cls := Value.type "getset_descriptor", data := Data.fields #[Value.str "__weakref__" 213, Value.ref 32, Value.builtin "ExceptionGroup.__weakref__", Value.none] } : Obj)) ::
  (nat_lit 36, ({ cls := Value.type "tuple", data := Data.seq #[Value.ref 32] } : Obj)) ::
  (nat_lit 48, ({ cls := Value.type "code", data := Data.fields #[Value.str "__init__" 232, Value.str "Thrown.__init__" 233, Value.str "/claim/cut.py" 234, Value.int 10 0, Value.int 2 0, Value.int 0 0, Value.int 0 0, Value.int 3 0, Value.ref 43, Value.bool true, Value.int 181 0, Value.ref 44, Value.none, Value.ref 45, Value.ref 46, Value.ref 47, Value.int 237 0, Value.int 10 0, Value.str "/claim/cut.py" 238] } : Obj)) ::
  (nat_lit 49, (methK 2 "Thrown.__init__" (Value.none) "methodrows.errors" 187 48 : Obj)) ::
  (nat_lit 50, ({ cls := Value.type "tuple", data := Data.seq #[Value.str "value" 240] } : Obj)) ::
  (nat_lit 51, ({ cls := Value.type "dict", data := Data.dict #[{ hash := PyData.keyHash P "__module__", key := Value.str "__module__" 227, val := Value.str "methodrows.errors" 187 }, { hash := PyData.keyHash P "__firstlineno__", key := Value.str "__firstlineno__" 231, val := Value.int 8 230 }, { hash := PyData.keyHash P "__init__", key := Value.str "__init__" 239, val := Value.ref 49 }, { hash := PyData.keyHash P "__static_attributes__", key := Value.str "__static_attributes__" 241, val := Value.ref 50 }, { hash := PyData.keyHash P "__doc__", key := Value.str "__doc__" 242, val := Value.none }] 2 } : Obj)) ::
  (nat_lit 52, ({ cls := Value.type "type", data := Data.cls { name := "Thrown", bases := [Value.ref 32], mro := [Value.ref 52, Value.ref 32, Value.type "Exception", Value.type "BaseException", Value.type "object"], ns := 51, qualname := "Thrown" }, slots := #[some (Value.ref 36), none, some (Value.str "Thrown" 220), some (Value.str "Thrown" 228), some (Value.builtin "Exception.__new__"), some (Value.bool true)] } : Obj)) ::
  (nat_lit 60, ({ cls := Value.type "code", data := Data.fields #[Value.str "text_value" 247, Value.str "text_value" 248, Value.str "/claim/cut.py" 249, Value.int 14 0, Value.int 1 0, Value.int 0 0, Value.int 0 0, Value.int 3 0, Value.ref 55, Value.bool true, Value.int 181 0, Value.ref 56, Value.none, Value.ref 57, Value.ref 58, Value.ref 59, Value.int 251 0, Value.int 14 0, Value.str "/claim/cut.py" 252] } : Obj)) ::
  (nat_lit 61, (fnK 4 "methodrows.forms" 245 60 : Obj)) ::
  (nat_lit 67, ({ cls := Value.type "code", data := Data.fields #[Value.str "error_kind" 254, Value.str "error_kind" 255, Value.str "/claim/cut.py" 256, Value.int 16 0, Value.int 1 0, Value.int 0 0, Value.int 0 0, Value.int 3 0, Value.ref 62, Value.bool true, Value.int 181 0, Value.ref 63, Value.none, Value.ref 64, Value.ref 65, Value.ref 66, Value.int 258 0, Value.int 16 0, Value.str "/claim/cut.py" 259] } : Obj)) ::
  (nat_lit 68, (fnK 5 "methodrows.forms" 245 67 : Obj)) ::
  (nat_lit 74, ({ cls := Value.type "code", data := Data.fields #[Value.str "error_value" 261, Value.str "error_value" 262, Value.str "/claim/cut.py" 263, Value.int 18 0, Value.int 2 0, Value.int 0 0, Value.int 0 0, Value.int 3 0, Value.ref 69, Value.bool true, Value.int 181 0, Value.ref 70, Value.none, Value.ref 71, Value.ref 72, Value.ref 73, Value.int 266 0, Value.int 18 0, Value.str "/claim/cut.py" 267] } : Obj)) ::
  (nat_lit 75, (fnK 6 "methodrows.forms" 245 74 : Obj)) ::
  (nat_lit 81, ({ cls := Value.type "code", data := Data.fields #[Value.str "thrown" 269, Value.str "thrown" 270, Value.str "/claim/cut.py" 271, Value.int 20 0, Value.int 2 0, Value.int 0 0, Value.int 0 0, Value.int 3 0, Value.ref 76, Value.bool true, Value.int 181 0, Value.ref 77, Value.none, Value.ref 78, Value.ref 79, Value.ref 80, Value.int 274 0, Value.int 20 0, Value.str "/claim/cut.py" 275] } : Obj)) ::
  (nat_lit 82, (fnK 7 "methodrows.forms" 245 81 : Obj)) ::
  (nat_lit 88, ({ cls := Value.type "code", data := Data.fields #[Value.str "thrown_text" 277, Value.str "thrown_text" 278, Value.str "/claim/cut.py" 279, Value.int 22 0, Value.int 2 0, Value.int 0 0, Value.int 0 0, Value.int 3 0, Value.ref 83, Value.bool true, Value.int 181 0, Value.ref 84, Value.none, Value.ref 85, Value.ref 86, Value.ref 87, Value.int 282 0, Value.int 22 0, Value.str "/claim/cut.py" 283] } : Obj)) ::
  (nat_lit 89, (fnK 8 "methodrows.forms" 245 88 : Obj)) ::
  (nat_lit 90, ({ cls := Value.type "dict", data := Data.dict #[{ hash := PyData.keyHash P "Int8", key := Value.str "Int8" 287, val := Value.int 8 288 }, { hash := PyData.keyHash P "Int16", key := Value.str "Int16" 289, val := Value.int 16 290 }, { hash := PyData.keyHash P "Int32", key := Value.str "Int32" 291, val := Value.int 32 292 }, { hash := PyData.keyHash P "Int64", key := Value.str "Int64" 293, val := Value.int 64 294 }, { hash := PyData.keyHash P "UInt8", key := Value.str "UInt8" 295, val := Value.int 8 296 }, { hash := PyData.keyHash P "UInt16", key := Value.str "UInt16" 297, val := Value.int 16 298 }, { hash := PyData.keyHash P "UInt32", key := Value.str "UInt32" 299, val := Value.int 32 300 }, { hash := PyData.keyHash P "UInt64", key := Value.str "UInt64" 301, val := Value.int 64 302 }] 8 } : Obj)) ::
  (nat_lit 96, ({ cls := Value.type "code", data := Data.fields #[Value.str "bits_of" 316, Value.str "bits_of" 317, Value.str "/claim/cut.py" 318, Value.int 28 0, Value.int 1 0, Value.int 0 0, Value.int 0 0, Value.int 3 0, Value.ref 91, Value.bool true, Value.int 181 0, Value.ref 92, Value.none, Value.ref 93, Value.ref 94, Value.ref 95, Value.int 320 0, Value.int 28 0, Value.str "/claim/cut.py" 321] } : Obj)) ::
  (nat_lit 97, (fnK 13 "methodrows.fixed" 285 96 : Obj)) ::
  (nat_lit 103, ({ cls := Value.type "code", data := Data.fields #[Value.str "is_signed" 323, Value.str "is_signed" 324, Value.str "/claim/cut.py" 325, Value.int 30 0, Value.int 1 0, Value.int 0 0, Value.int 0 0, Value.int 3 0, Value.ref 98, Value.bool true, Value.int 181 0, Value.ref 99, Value.none, Value.ref 100, Value.ref 101, Value.ref 102, Value.int 327 0, Value.int 30 0, Value.str "/claim/cut.py" 328] } : Obj)) ::
  (nat_lit 104, (fnK 14 "methodrows.fixed" 285 103 : Obj)) ::
  (nat_lit 110, ({ cls := Value.type "code", data := Data.fields #[Value.str "least" 330, Value.str "least" 331, Value.str "/claim/cut.py" 332, Value.int 32 0, Value.int 1 0, Value.int 0 0, Value.int 0 0, Value.int 3 0, Value.ref 105, Value.bool true, Value.int 181 0, Value.ref 106, Value.none, Value.ref 107, Value.ref 108, Value.ref 109, Value.int 334 0, Value.int 32 0, Value.str "/claim/cut.py" 335] } : Obj)) ::
  (nat_lit 111, (fnK 15 "methodrows.fixed" 285 110 : Obj)) ::
  (nat_lit 117, ({ cls := Value.type "code", data := Data.fields #[Value.str "greatest" 337, Value.str "greatest" 338, Value.str "/claim/cut.py" 339, Value.int 36 0, Value.int 1 0, Value.int 0 0, Value.int 0 0, Value.int 3 0, Value.ref 112, Value.bool true, Value.int 181 0, Value.ref 113, Value.none, Value.ref 114, Value.ref 115, Value.ref 116, Value.int 341 0, Value.int 36 0, Value.str "/claim/cut.py" 342] } : Obj)) ::
  (nat_lit 118, (fnK 16 "methodrows.fixed" 285 117 : Obj)) ::
  (nat_lit 124, ({ cls := Value.type "code", data := Data.fields #[Value.str "fits" 344, Value.str "fits" 345, Value.str "/claim/cut.py" 346, Value.int 40 0, Value.int 2 0, Value.int 0 0, Value.int 0 0, Value.int 3 0, Value.ref 119, Value.bool true, Value.int 181 0, Value.ref 120, Value.none, Value.ref 121, Value.ref 122, Value.ref 123, Value.int 349 0, Value.int 40 0, Value.str "/claim/cut.py" 350] } : Obj)) ::
  (nat_lit 125, (fnK 17 "methodrows.fixed" 285 124 : Obj)) ::
  (nat_lit 131, ({ cls := Value.type "code", data := Data.fields #[Value.str "bounded" 352, Value.str "bounded" 353, Value.str "/claim/cut.py" 354, Value.int 42 0, Value.int 1 0, Value.int 0 0, Value.int 0 0, Value.int 3 0, Value.ref 126, Value.bool true, Value.int 181 0, Value.ref 127, Value.none, Value.ref 128, Value.ref 129, Value.ref 130, Value.int 356 0, Value.int 42 0, Value.str "/claim/cut.py" 357] } : Obj)) ::
  (nat_lit 132, (fnK 18 "methodrows.fixed" 285 131 : Obj)) ::
  (nat_lit 138, ({ cls := Value.type "code", data := Data.fields #[Value.str "wrapped" 359, Value.str "wrapped" 360, Value.str "/claim/cut.py" 361, Value.int 46 0, Value.int 2 0, Value.int 0 0, Value.int 0 0, Value.int 3 0, Value.ref 133, Value.bool true, Value.int 181 0, Value.ref 134, Value.none, Value.ref 135, Value.ref 136, Value.ref 137, Value.int 366 0, Value.int 46 0, Value.str "/claim/cut.py" 367] } : Obj)) ::
  (nat_lit 139, (fnK 19 "methodrows.fixed" 285 138 : Obj)) ::
  (nat_lit 145, ({ cls := Value.type "code", data := Data.fields #[Value.str "exact" 369, Value.str "exact" 370, Value.str "/claim/cut.py" 371, Value.int 52 0, Value.int 3 0, Value.int 0 0, Value.int 0 0, Value.int 3 0, Value.ref 140, Value.bool true, Value.int 181 0, Value.ref 141, Value.none, Value.ref 142, Value.ref 143, Value.ref 144, Value.int 375 0, Value.int 52 0, Value.str "/claim/cut.py" 376] } : Obj)) ::
  (nat_lit 146, (fnK 20 "methodrows.fixed" 285 145 : Obj)) ::
  (nat_lit 152, ({ cls := Value.type "code", data := Data.fields #[Value.str "checked" 378, Value.str "checked" 379, Value.str "/claim/cut.py" 380, Value.int 56 0, Value.int 4 0, Value.int 0 0, Value.int 0 0, Value.int 3 0, Value.ref 147, Value.bool true, Value.int 181 0, Value.ref 148, Value.none, Value.ref 149, Value.ref 150, Value.ref 151, Value.int 386 0, Value.int 56 0, Value.str "/claim/cut.py" 387] } : Obj)) ::
  (nat_lit 153, (fnK 21 "methodrows.fixed" 285 152 : Obj)) ::
  (nat_lit 159, ({ cls := Value.type "code", data := Data.fields #[Value.str "negated" 389, Value.str "negated" 390, Value.str "/claim/cut.py" 391, Value.int 63 0, Value.int 2 0, Value.int 0 0, Value.int 0 0, Value.int 3 0, Value.ref 154, Value.bool true, Value.int 181 0, Value.ref 155, Value.none, Value.ref 156, Value.ref 157, Value.ref 158, Value.int 394 0, Value.int 63 0, Value.str "/claim/cut.py" 395] } : Obj)) ::
  (nat_lit 160, (fnK 22 "methodrows.fixed" 285 159 : Obj)) ::
  (nat_lit 166, ({ cls := Value.type "code", data := Data.fields #[Value.str "unsigned" 397, Value.str "unsigned" 398, Value.str "/claim/cut.py" 399, Value.int 65 0, Value.int 2 0, Value.int 0 0, Value.int 0 0, Value.int 3 0, Value.ref 161, Value.bool true, Value.int 181 0, Value.ref 162, Value.none, Value.ref 163, Value.ref 164, Value.ref 165, Value.int 402 0, Value.int 65 0, Value.str "/claim/cut.py" 403] } : Obj)) ::
  (nat_lit 167, (fnK 23 "methodrows.fixed" 285 166 : Obj)) ::
  (nat_lit 173, ({ cls := Value.type "code", data := Data.fields #[Value.str "moved_up" 405, Value.str "moved_up" 406, Value.str "/claim/cut.py" 407, Value.int 67 0, Value.int 3 0, Value.int 0 0, Value.int 0 0, Value.int 3 0, Value.ref 168, Value.bool true, Value.int 181 0, Value.ref 169, Value.none, Value.ref 170, Value.ref 171, Value.ref 172, Value.int 411 0, Value.int 67 0, Value.str "/claim/cut.py" 412] } : Obj)) ::
  (nat_lit 174, (fnK 24 "methodrows.fixed" 285 173 : Obj)) ::
  (nat_lit 180, ({ cls := Value.type "code", data := Data.fields #[Value.str "moved_down" 414, Value.str "moved_down" 415, Value.str "/claim/cut.py" 416, Value.int 73 0, Value.int 4 0, Value.int 0 0, Value.int 0 0, Value.int 3 0, Value.ref 175, Value.bool true, Value.int 181 0, Value.ref 176, Value.none, Value.ref 177, Value.ref 178, Value.ref 179, Value.int 421 0, Value.int 73 0, Value.str "/claim/cut.py" 422] } : Obj)) ::
  (nat_lit 181, (fnK 25 "methodrows.fixed" 285 180 : Obj)) ::
  (nat_lit 187, ({ cls := Value.type "code", data := Data.fields #[Value.str "shifted" 424, Value.str "shifted" 425, Value.str "/claim/cut.py" 426, Value.int 80 0, Value.int 4 0, Value.int 0 0, Value.int 0 0, Value.int 3 0, Value.ref 182, Value.bool true, Value.int 181 0, Value.ref 183, Value.none, Value.ref 184, Value.ref 185, Value.ref 186, Value.int 431 0, Value.int 80 0, Value.str "/claim/cut.py" 432] } : Obj)) ::
  (nat_lit 188, (fnK 26 "methodrows.fixed" 285 187 : Obj)) ::
  (nat_lit 194, ({ cls := Value.type "code", data := Data.fields #[Value.str "bits_together" 434, Value.str "bits_together" 435, Value.str "/claim/cut.py" 436, Value.int 86 0, Value.int 3 0, Value.int 0 0, Value.int 0 0, Value.int 3 0, Value.ref 189, Value.bool true, Value.int 181 0, Value.ref 190, Value.none, Value.ref 191, Value.ref 192, Value.ref 193, Value.int 440 0, Value.int 86 0, Value.str "/claim/cut.py" 441] } : Obj)) ::
  (nat_lit 195, (fnK 27 "methodrows.fixed" 285 194 : Obj)) ::
  (nat_lit 201, ({ cls := Value.type "code", data := Data.fields #[Value.str "inverted" 443, Value.str "inverted" 444, Value.str "/claim/cut.py" 445, Value.int 90 0, Value.int 2 0, Value.int 0 0, Value.int 0 0, Value.int 3 0, Value.ref 196, Value.bool true, Value.int 181 0, Value.ref 197, Value.none, Value.ref 198, Value.ref 199, Value.ref 200, Value.int 448 0, Value.int 90 0, Value.str "/claim/cut.py" 449] } : Obj)) ::
  (nat_lit 202, (fnK 28 "methodrows.fixed" 285 201 : Obj)) ::
  (nat_lit 208, ({ cls := Value.type "code", data := Data.fields #[Value.str "ones_in" 451, Value.str "ones_in" 452, Value.str "/claim/cut.py" 453, Value.int 92 0, Value.int 2 0, Value.int 0 0, Value.int 0 0, Value.int 3 0, Value.ref 203, Value.bool true, Value.int 181 0, Value.ref 204, Value.none, Value.ref 205, Value.ref 206, Value.ref 207, Value.int 458 0, Value.int 92 0, Value.str "/claim/cut.py" 459] } : Obj)) ::
  (nat_lit 209, (fnK 29 "methodrows.fixed" 285 208 : Obj)) ::
  (nat_lit 215, ({ cls := Value.type "code", data := Data.fields #[Value.str "zeros_ahead" 461, Value.str "zeros_ahead" 462, Value.str "/claim/cut.py" 463, Value.int 97 0, Value.int 2 0, Value.int 0 0, Value.int 0 0, Value.int 3 0, Value.ref 210, Value.bool true, Value.int 181 0, Value.ref 211, Value.none, Value.ref 212, Value.ref 213, Value.ref 214, Value.int 466 0, Value.int 97 0, Value.str "/claim/cut.py" 467] } : Obj)) ::
  (nat_lit 216, (fnK 30 "methodrows.fixed" 285 215 : Obj)) ::
  (nat_lit 222, ({ cls := Value.type "code", data := Data.fields #[Value.str "kind_value" 469, Value.str "kind_value" 470, Value.str "/claim/cut.py" 471, Value.int 99 0, Value.int 1 0, Value.int 0 0, Value.int 0 0, Value.int 3 0, Value.ref 217, Value.bool true, Value.int 181 0, Value.ref 218, Value.none, Value.ref 219, Value.ref 220, Value.ref 221, Value.int 473 0, Value.int 99 0, Value.str "/claim/cut.py" 474] } : Obj)) ::
  (nat_lit 223, (fnK 31 "methodrows.fixed" 285 222 : Obj)) ::
  (nat_lit 229, ({ cls := Value.type "code", data := Data.fields #[Value.str "converted" 476, Value.str "converted" 477, Value.str "/claim/cut.py" 478, Value.int 101 0, Value.int 3 0, Value.int 0 0, Value.int 0 0, Value.int 3 0, Value.ref 224, Value.bool true, Value.int 181 0, Value.ref 225, Value.none, Value.ref 226, Value.ref 227, Value.ref 228, Value.int 482 0, Value.int 101 0, Value.str "/claim/cut.py" 483] } : Obj)) ::
  (nat_lit 230, (fnK 32 "methodrows.fixed" 285 229 : Obj)) ::
  (nat_lit 236, ({ cls := Value.type "code", data := Data.fields #[Value.str "_law_pot" 487, Value.str "_law_pot" 488, Value.str "/claim/cut.py" 489, Value.int 108 0, Value.int 1 0, Value.int 0 0, Value.int 0 0, Value.int 3 0, Value.ref 231, Value.bool true, Value.int 181 0, Value.ref 232, Value.none, Value.ref 233, Value.ref 234, Value.ref 235, Value.int 493 0, Value.int 108 0, Value.str "/claim/cut.py" 494] } : Obj)) ::
  (nat_lit 237, (fnK 34 "law_pc0193_01" 485 236 : Obj)) ::
  (nat_lit 243, ({ cls := Value.type "code", data := Data.fields #[Value.str "_law_out" 496, Value.str "_law_out" 497, Value.str "/claim/cut.py" 498, Value.int 112 0, Value.int 2 0, Value.int 0 0, Value.int 0 0, Value.int 3 0, Value.ref 238, Value.bool true, Value.int 181 0, Value.ref 239, Value.none, Value.ref 240, Value.ref 241, Value.ref 242, Value.int 502 0, Value.int 112 0, Value.str "/claim/cut.py" 503] } : Obj)) ::
  (nat_lit 244, (fnK 35 "law_pc0193_01" 485 243 : Obj)) ::
  (nat_lit 250, ({ cls := Value.type "code", data := Data.fields #[Value.str "_law_ends" 505, Value.str "_law_ends" 506, Value.str "/claim/cut.py" 507, Value.int 119 0, Value.int 1 0, Value.int 0 0, Value.int 0 0, Value.int 3 0, Value.ref 245, Value.bool true, Value.int 181 0, Value.ref 246, Value.none, Value.ref 247, Value.ref 248, Value.ref 249, Value.int 510 0, Value.int 119 0, Value.str "/claim/cut.py" 511] } : Obj)) ::
  (nat_lit 251, (fnK 36 "law_pc0193_01" 485 250 : Obj)) ::
  (nat_lit 257, ({ cls := Value.type "code", data := Data.fields #[Value.str "_law_round" 513, Value.str "_law_round" 514, Value.str "/claim/cut.py" 515, Value.int 122 0, Value.int 2 0, Value.int 0 0, Value.int 0 0, Value.int 3 0, Value.ref 252, Value.bool true, Value.int 181 0, Value.ref 253, Value.none, Value.ref 254, Value.ref 255, Value.ref 256, Value.int 521 0, Value.int 122 0, Value.str "/claim/cut.py" 522] } : Obj)) ::
  (nat_lit 258, (fnK 37 "law_pc0193_01" 485 257 : Obj)) ::
  (nat_lit 264, ({ cls := Value.type "code", data := Data.fields #[Value.str "_law_some" 524, Value.str "_law_some" 525, Value.str "/claim/cut.py" 526, Value.int 126 0, Value.int 2 0, Value.int 0 0, Value.int 0 0, Value.int 3 0, Value.ref 259, Value.bool true, Value.int 181 0, Value.ref 260, Value.none, Value.ref 261, Value.ref 262, Value.ref 263, Value.int 532 0, Value.int 126 0, Value.str "/claim/cut.py" 533] } : Obj)) ::
  (nat_lit 265, (fnK 38 "law_pc0193_01" 485 264 : Obj)) ::
  (nat_lit 269, ({ cls := Value.type "code", data := Data.fields #[Value.str "_law_bits" 535, Value.str "_law_bits" 536, Value.str "/claim/cut.py" 537, Value.int 132 0, Value.int 2 0, Value.int 0 0, Value.int 0 0, Value.int 3 0, Value.ref 266, Value.bool true, Value.int 181 0, Value.ref 267, Value.none, Value.none, Value.none, Value.ref 268, Value.int 538 0, Value.int 132 0, Value.str "/claim/cut.py" 539] } : Obj)) ::
  (nat_lit 270, (fnK 39 "law_pc0193_01" 485 269 : Obj)) ::
  (nat_lit 276, ({ cls := Value.type "code", data := Data.fields #[Value.str "_law_width" 541, Value.str "_law_width" 542, Value.str "/claim/cut.py" 543, Value.int 135 0, Value.int 1 0, Value.int 0 0, Value.int 0 0, Value.int 3 0, Value.ref 271, Value.bool true, Value.int 181 0, Value.ref 272, Value.none, Value.ref 273, Value.ref 274, Value.ref 275, Value.int 545 0, Value.int 135 0, Value.str "/claim/cut.py" 546] } : Obj)) ::
  (nat_lit 277, (fnK 40 "law_pc0193_01" 485 276 : Obj)) ::
  (nat_lit 281, ({ cls := Value.type "code", data := Data.fields #[Value.str "_law_number" 548, Value.str "_law_number" 549, Value.str "/claim/cut.py" 550, Value.int 137 0, Value.int 2 0, Value.int 0 0, Value.int 0 0, Value.int 3 0, Value.ref 278, Value.bool true, Value.int 181 0, Value.ref 279, Value.none, Value.none, Value.none, Value.ref 280, Value.int 551 0, Value.int 137 0, Value.str "/claim/cut.py" 552] } : Obj)) ::
  (nat_lit 282, (fnK 41 "law_pc0193_01" 485 281 : Obj)) ::
  (nat_lit 288, ({ cls := Value.type "code", data := Data.fields #[Value.str "_law_sums_right" 554, Value.str "_law_sums_right" 555, Value.str "/claim/cut.py" 556, Value.int 139 0, Value.int 3 0, Value.int 0 0, Value.int 0 0, Value.int 3 0, Value.ref 283, Value.bool true, Value.int 181 0, Value.ref 284, Value.none, Value.ref 285, Value.ref 286, Value.ref 287, Value.int 564 0, Value.int 139 0, Value.str "/claim/cut.py" 565] } : Obj)) ::
  (nat_lit 289, (fnK 42 "law_pc0193_01" 485 288 : Obj)) ::
  (nat_lit 293, ({ cls := Value.type "code", data := Data.fields #[Value.str "_law_bits_right" 567, Value.str "_law_bits_right" 568, Value.str "/claim/cut.py" 569, Value.int 145 0, Value.int 3 0, Value.int 0 0, Value.int 0 0, Value.int 3 0, Value.ref 290, Value.bool true, Value.int 181 0, Value.ref 291, Value.none, Value.none, Value.none, Value.ref 292, Value.int 570 0, Value.int 145 0, Value.str "/claim/cut.py" 571] } : Obj)) ::
  (nat_lit 294, (fnK 43 "law_pc0193_01" 485 293 : Obj)) ::
  (nat_lit 300, ({ cls := Value.type "code", data := Data.fields #[Value.str "_law_moved" 573, Value.str "_law_moved" 574, Value.str "/claim/cut.py" 575, Value.int 155 0, Value.int 3 0, Value.int 0 0, Value.int 0 0, Value.int 3 0, Value.ref 295, Value.bool true, Value.int 181 0, Value.ref 296, Value.none, Value.ref 297, Value.ref 298, Value.ref 299, Value.int 579 0, Value.int 155 0, Value.str "/claim/cut.py" 580] } : Obj)) ::
  (nat_lit 301, (fnK 44 "law_pc0193_01" 485 300 : Obj)) ::
  (nat_lit 307, ({ cls := Value.type "code", data := Data.fields #[Value.str "_law_shifts_right" 582, Value.str "_law_shifts_right" 583, Value.str "/claim/cut.py" 584, Value.int 159 0, Value.int 3 0, Value.int 0 0, Value.int 0 0, Value.int 3 0, Value.ref 302, Value.bool true, Value.int 181 0, Value.ref 303, Value.none, Value.ref 304, Value.ref 305, Value.ref 306, Value.int 590 0, Value.int 159 0, Value.str "/claim/cut.py" 591] } : Obj)) ::
  (nat_lit 308, (fnK 45 "law_pc0193_01" 485 307 : Obj)) ::
  (nat_lit 314, ({ cls := Value.type "code", data := Data.fields #[Value.str "_law_heard" 593, Value.str "_law_heard" 594, Value.str "/claim/cut.py" 595, Value.int 167 0, Value.int 1 0, Value.int 0 0, Value.int 0 0, Value.int 3 0, Value.ref 309, Value.bool true, Value.int 181 0, Value.ref 310, Value.none, Value.ref 311, Value.ref 312, Value.ref 313, Value.int 598 0, Value.int 167 0, Value.str "/claim/cut.py" 599] } : Obj)) ::
  (nat_lit 315, (fnK 46 "law_pc0193_01" 485 314 : Obj)) ::
  (nat_lit 321, ({ cls := Value.type "code", data := Data.fields #[Value.str "_law_converted_right" 601, Value.str "_law_converted_right" 602, Value.str "/claim/cut.py" 603, Value.int 172 0, Value.int 2 0, Value.int 0 0, Value.int 0 0, Value.int 3 0, Value.ref 316, Value.bool true, Value.int 181 0, Value.ref 317, Value.none, Value.ref 318, Value.ref 319, Value.ref 320, Value.int 611 0, Value.int 172 0, Value.str "/claim/cut.py" 612] } : Obj)) ::
  (nat_lit 322, (fnK 47 "law_pc0193_01" 485 321 : Obj)) ::
  (nat_lit 328, ({ cls := Value.type "code", data := Data.fields #[Value.str "_law_big_right" 614, Value.str "_law_big_right" 615, Value.str "/claim/cut.py" 616, Value.int 176 0, Value.int 1 0, Value.int 0 0, Value.int 0 0, Value.int 3 0, Value.ref 323, Value.bool true, Value.int 181 0, Value.ref 324, Value.none, Value.ref 325, Value.ref 326, Value.ref 327, Value.int 619 0, Value.int 176 0, Value.str "/claim/cut.py" 620] } : Obj)) ::
  (nat_lit 329, (fnK 48 "law_pc0193_01" 485 328 : Obj)) ::
  (nat_lit 333, ({ cls := Value.type "code", data := Data.fields #[Value.str "law" 622, Value.str "law" 623, Value.str "/claim/cut.py" 624, Value.int 185 0, Value.int 1 0, Value.int 0 0, Value.int 0 0, Value.int 3 0, Value.ref 330, Value.bool true, Value.int 181 0, Value.ref 331, Value.none, Value.none, Value.none, Value.ref 332, Value.int 625 0, Value.int 185 0, Value.str "/claim/cut.py" 626] } : Obj)) ::
  (nat_lit 334, (fnK 49 "law_pc0193_01" 485 333 : Obj)) :: []
def KAs : List Addr := [2, 3, 15, 22, 28, 29, 30, 31, 32, 33, 36, 48, 49, 50, 51, 52, 60, 61, 67, 68, 74, 75, 81, 82, 88, 89, 90, 96, 97, 103, 104, 110, 111, 117, 118, 124, 125, 131, 132, 138, 139, 145, 146, 152, 153, 159, 160, 166, 167, 173, 174, 180, 181, 187, 188, 194, 195, 201, 202, 208, 209, 215, 216, 222, 223, 229, 230, 236, 237, 243, 244, 250, 251, 257, 258, 264, 265, 269, 270, 276, 277, 281, 282, 288, 289, 293, 294, 300, 301, 307, 308, 314, 315, 321, 322, 328, 329, 333, 334]


/-- what the top leaves, the world's one row answered b -/
def TopAt (b : Bool) : Prop := ∀ w : World, (openEnds treeTable PySem.Challenge.rw_pc0193_01.row.prog (w.withFollow "special-get-raises" b) 3930).map (fun s => (openSeen vw lse (importedModules PySem.Challenge.rw_pc0193_01.row.prog.main.body) (fun s => xlAt vw [] s && recOk (RowW.records PySem.Challenge.rw_pc0193_01.row.toRowW) s) true s, Hook.obs (kmHook KF KAs (fun _ => by kernel_rfl) [324, 317]) s)) =
  some (openGood vw lse, Hook.val (kmHook KF KAs (fun _ => by kernel_rfl) [324, 317]) (w.withFollow "special-get-raises" b))
set_option maxHeartbeats 0 in
theorem top_f : TopAt false := fun w => by kernel_rfl
set_option maxHeartbeats 0 in
theorem top_t : TopAt true := fun w => by kernel_rfl
theorem hl : LeftO PySem.Challenge.rw_pc0193_01.row.prog vw lse (fun s => xlAt vw [] s && recOk (RowW.records PySem.Challenge.rw_pc0193_01.row.toRowW) s) (Hook.obs (kmHook KF KAs (fun _ => by kernel_rfl) [324, 317])) (Hook.val (kmHook KF KAs (fun _ => by kernel_rfl) [324, 317])) 3930 :=
  byRow2 "special-get-raises" top_f top_t

/- Cm -/


noncomputable def kindsL : List Str := [Str.ofString "Int8", Str.ofString "UInt8", Str.ofString "Int16", Str.ofString "UInt16", Str.ofString "Int32", Str.ofString "UInt32", Str.ofString "Int64", Str.ofString "UInt64"]
/-- one of the eight kinds with a width -/
noncomputable def Kind (k : Str) : Prop := k ∈ kindsL
/-- the width of a kind -/
noncomputable def kw (k : Str) : Nat := (([8, 8, 16, 16, 32, 32, 64, 64] : List Nat)[kindsL.idxOf k]?).getD 0
/-- is it signed -/
noncomputable def ks (k : Str) : Bool := (([true, false, true, false, true, false, true, false] : List Bool)[kindsL.idxOf k]?).getD false

theorem kind_or {k : Str} (hk : Kind k) : k = Str.ofString "Int8" ∨ k = Str.ofString "UInt8" ∨ k = Str.ofString "Int16" ∨ k = Str.ofString "UInt16" ∨ k = Str.ofString "Int32" ∨ k = Str.ofString "UInt32" ∨ k = Str.ofString "Int64" ∨ k = Str.ofString "UInt64" := by
  unfold Kind kindsL at hk
  simpa only [List.mem_cons, List.not_mem_nil, or_false] using hk
theorem kind_cases {P : Str → Prop} (h0 : P (Str.ofString "Int8")) (h1 : P (Str.ofString "UInt8")) (h2 : P (Str.ofString "Int16")) (h3 : P (Str.ofString "UInt16")) (h4 : P (Str.ofString "Int32")) (h5 : P (Str.ofString "UInt32")) (h6 : P (Str.ofString "Int64")) (h7 : P (Str.ofString "UInt64")) : ∀ k, Kind k → P k := by
  intro k hk
  unfold Kind kindsL at hk
  simp only [List.mem_cons, List.not_mem_nil, or_false] at hk
  rcases hk with rfl | rfl | rfl | rfl | rfl | rfl | rfl | rfl <;> assumption
theorem kw_le : ∀ k, Kind k → 8 ≤ kw k ∧ kw k ≤ 64 := by
  refine kind_cases ?_ ?_ ?_ ?_ ?_ ?_ ?_ ?_ <;> decide +kernel
theorem klen : ∀ k, Kind k → 4 ≤ k.length ∧ k.length ≤ 6 := by
  refine kind_cases ?_ ?_ ?_ ?_ ?_ ?_ ?_ ?_ <;> decide +kernel
theorem kbig : ∀ k, Kind k → (k == Str.ofString "BigInt") = false := by
  refine kind_cases ?_ ?_ ?_ ?_ ?_ ?_ ?_ ?_ <;> decide +kernel
theorem ks_is : ∀ k, Kind k → (Txt.item k 0 != Str.ofString "U") = ks k := by
  refine kind_cases ?_ ?_ ?_ ?_ ?_ ?_ ?_ ?_ <;> decide +kernel

abbrev Clm (w : World) (f : Addr) (k : Nat) (news : List (Addr × Obj)) (vs : List Value) (Ret : Heap → Addr → (Str → Option Value) → Shared → (Value → Shared → Prop) → (Value → Shared → Prop) → Prop) : Prop :=
  ∀ (dp un : Nat) (gd : Option (List Code)) (cn : Str) (cs : Scope) (a : Addr) (ccd : Value) (cl : List (Str × Addr)) (outer : List Env) (A₀ : Around) (base h₀ : Heap) (L : Addr) (m : Str → Option Value) (s : Shared) (Q E : Value → Shared → Prop)
    (p : Program) (loose : List Str) (mean : ExcName → Option Value) (mg mb : Str → Option Value),
    Below A₀ base outer h₀ → Fr h₀ L s.heap m → (KF w.params).In h₀ → News h₀ L s.heap news → Top p loose mean mg mb h₀ → cs.kind = .function → dp + k < recursionLimit → un + 8 * k < cLine →
      Ret h₀ L m s Q E → wpAny (model PySem.Challenge.rw_pc0193_01.row.prog w) (ktrTop dp un gd cn cs L a ccd cl outer) (call (.ref f) vs) Q E s

/-- what a call hands back that leaves all else as it was -/
abbrev RetP (news : List (Addr × Obj)) (R : Tok → Value) : Heap → Addr → (Str → Option Value) → Shared → (Value → Shared → Prop) → (Value → Shared → Prop) → Prop :=
  fun h₀ L m s Q _ => ∀ (t : Tok) (h' : Heap) (tk' : Nat), Fr h₀ L h' m → News h₀ L h' news → Q (R t) { s with heap := h', toks := tk' }

/- Rm -/
theorem rm0 {x a b N : Nat} (h : x + a < N) (e : Nat.ble b a = true) : x + b < N := Nat.lt_of_le_of_lt (Nat.add_le_add_left (Nat.le_of_ble_eq_true e) x) h
theorem rm1 {x a c b N : Nat} (h : x + a < N) (e : Nat.ble (c + b) a = true) : x + c + b < N := by rw [Nat.add_assoc]; exact rm0 h e
theorem rm2 {x a c d b N : Nat} (h : x + a < N) (e : Nat.ble (c + (d + b)) a = true) : x + c + d + b < N := by rw [Nat.add_assoc]; exact rm1 h e
local macro_rules | `(tactic| ktr_room) => `(tactic| first | (k_dflt exact rm1 (by assumption) rfl) | (k_dflt exact rm0 (by assumption) rfl) | (k_dflt exact rm2 (by assumption) rfl) | (k_dflt exact Nat.le_of_ble_eq_true rfl) | fail)
local macro_rules | `(tactic| ktr_units) => `(tactic| first | (k_dflt exact rm1 (by assumption) rfl) | (k_dflt exact rm0 (by assumption) rfl) | (k_dflt exact rm2 (by assumption) rfl) | (k_dflt exact Nat.le_of_ble_eq_true rfl) | fail)

/- G0 -/
section
variable {w : World} {f : Addr} {k : Nat} {news : List (Addr × Obj)} {vs : List Value} {Ret : Heap → Addr → (Str → Option Value) → Shared → (Value → Shared → Prop) → (Value → Shared → Prop) → Prop}
  {dp un : Nat} {gd : Option (List Code)} {cn : Str} {cs : Scope} {a : Addr} {ccd : Value} {cl : List (Str × Addr)} {outer : List Env} {A₀ : Around} {base h₀ : Heap} {L : Addr} {m : Str → Option Value} {s : Shared} {Q E : Value → Shared → Prop}
    {p : Program} {loose : List Str} {mean : ExcName → Option Value} {mg mb : Str → Option Value}
theorem clm_use (C : Clm w f k news vs Ret) (B : Below A₀ base outer h₀) (F : Fr h₀ L s.heap m) (X : (KF w.params).In h₀) (N : News h₀ L s.heap news) (T : Top p loose mean mg mb h₀) (hcs : cs.kind = .function) (hdp : dp + k < recursionLimit) (hun : un + 8 * k < cLine)
    (r : Ret h₀ L m s Q E) : wpAny (model PySem.Challenge.rw_pc0193_01.row.prog w) (ktrTop dp un gd cn cs L a ccd cl outer) (call (.ref f) vs) Q E s :=
  C _ _ _ _ _ _ _ _ _ _ _ _ _ _ _ _ _ _ _ _ _ _ B F X N T hcs hdp hun r
end
theorem widths_item {w : World} {A : Around} {s : Shared} {Q E : Value → Shared → Prop} {h₀ : Heap} {L : Addr} {m : Str → Option Value} {value slice : Expr} {k : Str} {t : Tok}
    (F : Fr h₀ L s.heap m) (X₀ : (KF w.params).In h₀) (hk : Kind k) (h : ∀ u, Q (.int (kw k) u) { s with toks := s.toks + 1 })
    (hs : subscripted slice false (.ref 90) (.str k t) = operate [.ref 90, .str k t] (getItem (.ref 90) (.str k t)) := by with_unfolding_all rfl) :
    wpAny (model PySem.Challenge.rw_pc0193_01.row.prog w) A (subscriptTail value slice (.ref 90) (.str k t)) Q E s := by
  revert X₀
  k_fill
  intro X₀
  rcases kind_or hk with rfl | rfl | rfl | rfl | rfl | rfl | rfl | rfl
  all_goals (
    k_dflt (refine' topItem_K F X₀ ?k1 ?k2 ?k3 ?k5 ?k4; (case k1 => k_is); (case k2 => k_keys); (case k3 => k_is); (case k4 => exact hs); (case k5 => first
      | (have e : ((kw (Str.ofString "Int8") : Nat) : Int) = 8 := (by decide +kernel); rw [e] at h; exact h _)
      | (have e : ((kw (Str.ofString "Int16") : Nat) : Int) = 16 := (by decide +kernel); rw [e] at h; exact h _)
      | (have e : ((kw (Str.ofString "Int32") : Nat) : Int) = 32 := (by decide +kernel); rw [e] at h; exact h _)
      | (have e : ((kw (Str.ofString "Int64") : Nat) : Int) = 64 := (by decide +kernel); rw [e] at h; exact h _)
      | (have e : ((kw (Str.ofString "UInt8") : Nat) : Int) = 8 := (by decide +kernel); rw [e] at h; exact h _)
      | (have e : ((kw (Str.ofString "UInt16") : Nat) : Int) = 16 := (by decide +kernel); rw [e] at h; exact h _)
      | (have e : ((kw (Str.ofString "UInt32") : Nat) : Int) = 32 := (by decide +kernel); rw [e] at h; exact h _)
      | (have e : ((kw (Str.ofString "UInt64") : Nat) : Int) = 64 := (by decide +kernel); rw [e] at h; exact h _))))
theorem is_signed_c {w : World} {news : List (Addr × Obj)} (k : Str) (t : Tok) (hk : Kind k) : Clm w 104 1 news [.str k t] (RetP news fun _ => .bool (ks k)) := by
  unfold Clm RetP
  k_fill
  intro dp un gd cn cs a ccd cl outer A₀ base h₀ L m s Q E p loose mean mg mb B F X N T hcs hdp hun hret
  have hl := klen k hk
  refine wpAny_call ?_
  k_dflt cell_enter
  k_steps
  refine cb_retB hret (ks_is k hk) (by k_asm) (by k_asm)
theorem bits_of_c {w : World} {news : List (Addr × Obj)} (k : Str) (t : Tok) (hk : Kind k) : Clm w 97 1 news [.str k t] (RetP news fun t => .int (kw k) t) := by
  unfold Clm RetP
  k_fill
  intro dp un gd cn cs a ccd cl outer A₀ base h₀ L m s Q E p loose mean mg mb B F X N T hcs hdp hun hret
  have hl := klen k hk
  have hb := kbig k hk
  refine wpAny_call ?_
  k_dflt cell_enter
  repeat' (first
      | (k_unfold; (try dsimp only))
      | (k_end; kc_close)
      | (with_reducible ((with_reducible show wpAny _ _ (subscriptTail _ _ (Value.ref 90) (Value.str _ _)) _ _ _); k_here; k_dflt (refine' widths_item (by k_asm) (by k_asm) (by assumption) ?_ (by with_unfolding_all rfl); k_whole); intro u'z))
      | walk1
      | (dsimp only; walk1)
      | (leave1; walk_say "STEP leave1"; (try dsimp only))
      | fail "no step")
  refine cb_retI hret rfl (by k_asm) (by k_asm)

noncomputable def lo (k : Str) : Int := if ks k then -(2 ^ (kw k - 1)) else 0
noncomputable def hi (k : Str) : Int := if ks k then 2 ^ (kw k - 1) - 1 else 2 ^ (kw k) - 1
theorem least_c {w : World} {news : List (Addr × Obj)} (k : Str) (t : Tok) (hk : Kind k) : Clm w 111 2 news [.str k t] (RetP news fun t => .int (lo k) t) := by
  unfold Clm RetP
  k_fill
  intro dp un gd cn cs a ccd cl outer A₀ base h₀ L m s Q E p loose mean mg mb B F X N T hcs hdp hun hret
  have hl := klen k hk
  have hb := kbig k hk
  have hw := kw_le k hk
  refine wpAny_call ?_
  k_dflt cell_enter
  repeat' (first
      | (k_unfold; (try dsimp only))
      | (k_end; kc_close)
      | ((with_reducible show wpAny _ _ (call (Value.ref _) _) _ _ _); first
        | (with_reducible ((with_reducible show wpAny _ _ (call (Value.ref 104) [Value.str _ _]) _ _ _); k_here; k_dflt (refine' clm_use (is_signed_c _ _ (by assumption)) (by k_asm) (by k_asm) (by k_asm) (by k_asm) (by k_asm) (by first | exact rfl | assumption) (by ktr_room) (by ktr_units) ?_; k_whole); intro u'z h'z tk'z F'z N'z; (try dsimp only); (try k_fold); (try k_sweep)))
        | fail)
      | (with_reducible ((with_reducible show wpAny _ _ (subscriptTail _ _ (Value.ref 90) (Value.str _ _)) _ _ _); k_here; k_dflt (refine' widths_item (by k_asm) (by k_asm) (by assumption) ?_ (by with_unfolding_all rfl); k_whole); intro u'z))
      | walk1
      | (dsimp only; walk1)
      | (leave1; walk_say "STEP leave1"; (try dsimp only))
      | fail "no step")
  · refine cb_retI hret ?_ (by k_asm) (by k_asm)
    unfold lo; rw [if_pos (by assumption), show ((kw k : Int) - 1).toNat = kw k - 1 by omega]; omega
  · refine cb_retI hret ?_ (by k_asm) (by k_asm)
    unfold lo; rw [if_neg (by simp_all)]

/- G1 -/

theorem fdiv_pos {a b : Int} (h : 0 < b) : Int.fdiv a b = a / b := Int.fdiv_eq_ediv_of_nonneg a (Int.le_of_lt h)
theorem fmod_pos {a b : Int} (h : 0 < b) : Int.fmod a b = a % b := Int.fmod_eq_emod_of_nonneg a (Int.le_of_lt h)
local macro_rules | `(tactic| walk_at "binaryOp Pow int int") => `(tactic| (k_here; (with_reducible refine pow_int_small ?kb1 ?kb2 ?kb3 ?_); (case kb1 => omega); (case kb2 => omega); (case kb3 => decide)))
theorem replen : ∀ k, Kind k → (Txt.replace k (Str.ofString "U") (Str.ofString "")).length ≤ 1048576 := by
  refine kind_cases ?_ ?_ ?_ ?_ ?_ ?_ ?_ ?_ <;> decide +kernel
theorem kdig : ∀ k, Kind k → PySem.intText? (Txt.replace (Txt.replace k (Str.ofString "U") (Str.ofString "")) (Str.ofString "Int") (Str.ofString "")) = some (kw k : Int) := by
  refine kind_cases ?_ ?_ ?_ ?_ ?_ ?_ ?_ ?_ <;> decide +kernel
theorem kdig_len : ∀ k, Kind k → (Txt.replace (Txt.replace k (Str.ofString "U") (Str.ofString "")) (Str.ofString "Int") (Str.ofString "")).length ≤ 640 := by
  refine kind_cases ?_ ?_ ?_ ?_ ?_ ?_ ?_ ?_ <;> decide +kernel
theorem int_kind {prog : Program} {w : World} {A : Around} {E : Value → Shared → Prop} {s : Shared} {Q : Value → Shared → Prop} {k : PySem.Str} {t : Tok} (hk : Kind k)
   (h : Q (.int (kw k) s.toks) { s with toks := s.toks + 1 }) : wpAny (model prog w) A (call (.type "int") [.str (Txt.replace (Txt.replace k (Str.ofString "U") (Str.ofString "")) (Str.ofString "Int") (Str.ofString "")) t]) Q E s :=
  KIN.call_text (kdig k hk) (kdig_len k hk) h
theorem gen_toks {α : Type} {M : Model} {A : Around} {t : Sem α} {Q : α → Shared → Prop} {E : Value → Shared → Prop} {s : Shared} (h : ∀ tk, s.toks ≤ tk → wpAny M A t Q E { s with toks := tk }) : wpAny M A t Q E s := by
  have := h s.toks (Nat.le_refl _)
  cases s; exact this
local macro_rules | `(tactic| walk_at "call type:int") => `(tactic| (k_here; (with_reducible show wpAny _ _ (call (Value.type "int") [Value.str (Txt.replace (Txt.replace _ _ _) _ _) _]) _ _ _); (with_reducible refine int_kind ?hk ?_; (case hk => assumption))))
theorem rep_mono {prog : Program} {w : World} {A : Around} {E : Value → Shared → Prop} {s : Shared} {Q : Value → Shared → Prop} {x y z : PySem.Str} {t : Tok} {u v : Nat} (hu : u ≠ 0) (hv : v ≠ 0) (huv : u ≠ v) (hyz : (y == z) = false) (hb : x.length + (x.length + 1) * z.length ≤ 16777216)
    (hq : ∀ t' k, s.toks ≤ k → Q (.str (Txt.replace x y z) t') { s with toks := k }) : wpAny (model prog w) A (call (.builtin "str.replace") [.str x t, .str y u, .str z v]) Q E s := by
  have hl : PySem.Builtin.Str.tooLong (x.length + (PySem.Builtin.Str.occurrences x y 0 x.length (x.length + 1)).length * z.length) = false := by
    have h1 := StrLaws.occ_length_le x y 0 x.length (x.length + 1)
    have h2 : (PySem.Builtin.Str.occurrences x y 0 x.length (x.length + 1)).length * z.length ≤ (x.length + 1) * z.length := Nat.mul_le_mul_right _ h1
    unfold PySem.Builtin.Str.tooLong PySem.sizeLine
    exact decide_eq_false (by omega)
  refine call_gives F.slot_str_replace (typeIs_str _ _ _) F.entry_str_replace (F.args_str_replace_3 _ _ _)
    (gives_str_replace x y z t u v fun _ => ⟨by simp [hu, hv], by simp [huv], hyz, hl⟩) ?_
  have hq' := hq
  unfold Txt.replace at hq'
  cases hc : ((PySem.Builtin.Str.occurrences x y 0 x.length (x.length + 1)).isEmpty || (y.length == 0 && z.length == 0))
  · rw [hc] at hq'
    simp only [Bool.false_eq_true, if_false] at hq' ⊢
    exact ⟨fits_replaced y hb, hq' _ _ (Nat.le_succ _)⟩
  · rw [hc] at hq'
    simp only [if_true] at hq' ⊢
    exact hq' t s.toks (Nat.le_refl _)
theorem rep_kind1 {prog : Program} {w : World} {A : Around} {E : Value → Shared → Prop} {s : Shared} {Q : Value → Shared → Prop} {k : PySem.Str} {t : Tok} {u : Nat} (hk : Kind k) (hu : 0 < u) (hs : u ≤ s.toks)
   (h : ∀ t' n, 0 < n → Q (.str (Txt.replace k (Str.ofString "U") (Str.ofString "")) t') { s with toks := n }) : wpAny (model prog w) A (call (.builtin "str.replace") [.str k t, .str (Str.ofString "U") u, .str (Str.ofString "") (u + 1)]) Q E s := by
  have hl := klen k hk
  have e : (Str.ofString "").length = 0 := by decide +kernel
  exact rep_mono (by omega) (by omega) (by omega) (by decide +kernel) (by rw [e]; omega) (fun t' n hn => h t' n (by omega))
theorem rep_kind2 {prog : Program} {w : World} {A : Around} {E : Value → Shared → Prop} {s : Shared} {Q : Value → Shared → Prop} {k : PySem.Str} {t : Tok} {u : Nat} (hk : Kind k) (hu : 0 < u) (hs : u ≤ s.toks)
   (h : ∀ t' n, 0 < n → Q (.str (Txt.replace (Txt.replace k (Str.ofString "U") (Str.ofString "")) (Str.ofString "Int") (Str.ofString "")) t') { s with toks := n }) : wpAny (model prog w) A (call (.builtin "str.replace") [.str (Txt.replace k (Str.ofString "U") (Str.ofString "")) t, .str (Str.ofString "Int") u, .str (Str.ofString "") (u + 1)]) Q E s := by
  have hl := replen k hk
  have e : (Str.ofString "").length = 0 := by decide +kernel
  exact rep_mono (by omega) (by omega) (by omega) (by decide +kernel) (by rw [e]; omega) (fun t' n hn => h t' n (by omega))
local macro_rules | `(tactic| walk_at "call builtin:str.replace") => `(tactic| (k_here; (first | with_reducible refine rep_kind1 ?hk ?hu ?hs ?_ | with_reducible refine rep_kind2 ?hk ?hu ?hs ?_); (case hk => assumption); (case hu => assumption); (case hs => (dsimp only; omega)); intro _ _ _))
theorem law_width_c {w : World} {news : List (Addr × Obj)} (k : Str) (t : Tok) (hk : Kind k) : Clm w 277 1 news [.str k t] (RetP news fun t => .int (kw k) t) := by
  unfold Clm RetP
  k_fill
  intro dp un gd cn cs a ccd cl outer A₀ base h₀ L m s Q E p loose mean mg mb B F X N T hcs hdp hun hret
  have hl := klen k hk
  have hl2 := replen k hk
  refine wpAny_call ?_
  k_dflt cell_enter
  refine gen_toks ?_
  intro tk htk
  have htp : 0 < tk := Nat.lt_of_lt_of_le (Nat.succ_pos _) htk
  clear htk
  k_steps
  refine cb_retI hret rfl (by k_asm) (by k_asm)
/-- a fresh pair of ints is handed back -/
abbrev RetT (news : List (Addr × Obj)) (x y : Int) : Heap → Addr → (Str → Option Value) → Shared → (Value → Shared → Prop) → (Value → Shared → Prop) → Prop :=
  fun h₀ L m s Q _ => ∀ (q : Addr) (t1 t2 : Tok) (h' : Heap) (tk' : Nat), Fr h₀ L h' m → News h₀ L h' ((q, ({ cls := .type "tuple", data := .seq #[.int x t1, .int y t2] 0 } : Obj)) :: news) → (∀ p ∈ news, p.1 < q) → Q (.ref q) { s with heap := h', toks := tk' }
theorem retT {news : List (Addr × Obj)} {x y x' y' : Int} {h₀ h' : Heap} {L q : Addr} {m : Str → Option Value} {s : Shared} {Q : Value → Shared → Prop} {t1 t2 : Tok} {tk' : Nat}
    (hret : ∀ (q : Addr) (t1 t2 : Tok) (h' : Heap) (tk' : Nat), Fr h₀ L h' m → News h₀ L h' ((q, ({ cls := .type "tuple", data := .seq #[.int x t1, .int y t2] 0 } : Obj)) :: news) → (∀ p ∈ news, p.1 < q) → Q (.ref q) { s with heap := h', toks := tk' }) (ex : x' = x) (ey : y' = y) (F : Fr h₀ L h' m)
    (N : News h₀ L h' ((q, ({ cls := .type "tuple", data := .seq #[.int x' t1, .int y' t2] 0 } : Obj)) :: news)) (l : ∀ p ∈ news, p.1 < q) : Q (.ref q) { s with heap := h', toks := tk' } := by
  subst ex ey; exact hret q t1 t2 h' tk' F N l
theorem law_ends_c {w : World} {news : List (Addr × Obj)} (k : Str) (t : Tok) (hk : Kind k) : Clm w 251 1 news [.str k t] (RetT news (lo k) (hi k)) := by
  unfold Clm RetT
  k_fill
  intro dp un gd cn cs a ccd cl outer A₀ base h₀ L m s Q E p loose mean mg mb B F X N T hcs hdp hun hret
  have hl := klen k hk
  have hw := kw_le k hk
  have hl2 := replen k hk
  have hsg := ks_is k hk
  refine wpAny_call ?_
  k_dflt cell_enter
  refine gen_toks ?_
  intro tk htk
  have htp : 0 < tk := Nat.lt_of_lt_of_le (Nat.succ_pos _) htk
  clear htk
  k_steps
  · have e : ks k = false := by
      rw [← hsg]; unfold bne; (with_reducible rename _ = true => hq); rw [hq]; rfl
    refine' retT hret ?_ ?_ (by k_asm) (by k_asm) (by assumption)
    · unfold lo; rw [e]; rfl
    · unfold hi; rw [e]; rfl
  · have e : ks k = true := by
      rw [← hsg]; unfold bne; (with_reducible rename _ = false => hq); rw [hq]; rfl
    have e' : ((kw k : Int) - 1).toNat = kw k - 1 := by omega
    refine' retT hret ?_ ?_ (by k_asm) (by k_asm) (by assumption)
    · unfold lo; rw [e, e']; rfl
    · unfold hi; rw [e, e']; rfl

/- G2 -/

/-- the number of the kind that a number comes to -/
noncomputable def wr (k : Str) (n : Int) : Int := if ks k = true ∧ 2 ^ (kw k - 1) ≤ n % 2 ^ kw k then n % 2 ^ kw k - 2 ^ kw k else n % 2 ^ kw k
theorem two_pos (n : Nat) : (0 : Int) < 2 ^ n := Int.pow_pos (by decide)
theorem two_ne (n : Nat) : (2 : Int) ^ n ≠ 0 := Int.ne_of_gt (two_pos n)
theorem two_log (n : Nat) (h : n < 9000) : ((2 : Int) ^ n).natAbs.log2 < 9000 := by
  rw [Int.natAbs_pow, show (2 : Int).natAbs = 2 from rfl, Nat.log2_two_pow]; exact h
theorem natCast_toNat' (n : Nat) : ((n : Int)).toNat = n := rfl
theorem span (k : Str) (hk : Kind k) : hi k - lo k + 1 = 2 ^ kw k := by
  have hw := kw_le k hk
  have e : (2 : Int) ^ kw k = 2 ^ (kw k - 1) * 2 := by rw [← Int.pow_succ, show (kw k - 1).succ = kw k by omega]
  unfold hi lo
  split <;> omega
theorem span_ne (k : Str) (hk : Kind k) : hi k - lo k + 1 ≠ 0 := by rw [span k hk]; exact two_ne _
theorem span_log (k : Str) (hk : Kind k) : (hi k - lo k + 1).natAbs.log2 < 9000 := by rw [span k hk]; exact two_log _ (by have := kw_le k hk; omega)
theorem lo_bits (k : Str) (hk : Kind k) : Builtin.Int.intBits (lo k) ≤ 64 := by
  revert k; refine kind_cases ?_ ?_ ?_ ?_ ?_ ?_ ?_ ?_ <;> decide +kernel
theorem hi_bits (k : Str) (hk : Kind k) : Builtin.Int.intBits (hi k) ≤ 64 := by
  revert k; refine kind_cases ?_ ?_ ?_ ?_ ?_ ?_ ?_ ?_ <;> decide +kernel
theorem two_bits (n : Nat) (h : n ≤ 5000) : Builtin.Int.intBits ((2 : Int) ^ n) ≤ 5001 := by
  refine intBits_le ?_
  rw [Int.natAbs_pow, show (2 : Int).natAbs = 2 from rfl]
  exact Nat.pow_lt_pow_right (by decide) (by omega)
local macro_rules | `(tactic| bits_by_make) => `(tactic| first | with_reducible assumption | exact lo_bits _ (by assumption) | exact hi_bits _ (by assumption) | exact two_bits _ (by omega))
local macro_rules | `(tactic| walk_at "binaryOp Mult int int") => `(tactic| (k_here; (with_reducible refine PyProof.Rows.mul_int ?kq (PyProof.Rows.mulOk_of_bits ?ka ?kb ?kc)); (case ka => bits_by_make); (case kb => bits_by_make); (case kc => decide)))
theorem emod_of {a b q r : Int} (h : a = b * q + r) (h0 : 0 ≤ r) (h1 : r < b) : a % b = r := by
  rw [h, Int.add_comm, Int.add_mul_emod_self_left]; exact Int.emod_eq_of_lt h0 h1
theorem ediv_of {a b q r : Int} (h : a = b * q + r) (h0 : 0 ≤ r) (h1 : r < b) : a / b = q := by
  rw [h, Int.add_comm, Int.add_mul_ediv_left _ _ (by omega), Int.ediv_eq_zero_of_lt h0 h1]; omega
/-- going round the ends -/
theorem round_wr (k : Str) (hk : Kind k) (n : Int) : n - (n - lo k) / 2 ^ kw k * 2 ^ kw k = wr k n := by
  have hw := kw_le k hk
  have e : (2 : Int) ^ kw k = 2 ^ (kw k - 1) * 2 := by rw [← Int.pow_succ, show (kw k - 1).succ = kw k by omega]
  have hp := two_pos (kw k - 1)
  have h1 := Int.emod_add_mul_ediv n (2 ^ kw k)
  have h2 := Int.emod_nonneg n (two_ne (kw k))
  have h3 := Int.emod_lt_of_pos n (two_pos (kw k))
  unfold wr lo
  generalize hP : (2 : Int) ^ (kw k - 1) = P at *
  generalize hW : (2 : Int) ^ kw k = W at *
  generalize hr : n % W = r at *
  generalize hq : n / W = q at *
  have hm : q * W = W * q := Int.mul_comm _ _
  by_cases hs : ks k = true
  · by_cases hc : P ≤ r
    · have hd : (n - -P) / W = q + 1 := by
        refine ediv_of (r := r - P) ?_ (by omega) (by omega)
        rw [Int.mul_add]; omega
      rw [if_pos hs, hd, if_pos ⟨hs, hc⟩, Int.add_mul]
      omega
    · have hd : (n - -P) / W = q := by
        refine ediv_of (r := r + P) ?_ (by omega) (by omega)
        omega
      rw [if_pos hs, hd, if_neg (fun h => hc h.2)]
      omega
  · have hd : (n - 0) / W = q := by rw [Int.sub_zero]; exact hq
    rw [if_neg hs, hd, if_neg (fun h => hs h.1)]
    omega
local macro_rules | `(tactic| walk_at "binaryOp Mod int int") => `(tactic| (k_here; (with_reducible refine mod_int' ?kbe ?_); (case kbe => exact two_ne _)))
local macro_rules | `(tactic| walk_at "binaryOp FloorDiv int int") => `(tactic| (k_here; (with_reducible refine floordiv_int ?kbe ?_ (Or.inl (PyProof.noPylong_of_log2 ?kbp))); (case kbe => first | exact two_ne _ | exact span_ne _ (by assumption)); (case kbp => first | exact two_log _ (by omega) | exact span_log _ (by assumption))))
theorem greatest_c {w : World} {news : List (Addr × Obj)} (k : Str) (t : Tok) (hk : Kind k) : Clm w 118 2 news [.str k t] (RetP news fun t => .int (hi k) t) := by
  unfold Clm RetP
  k_fill
  intro dp un gd cn cs a ccd cl outer A₀ base h₀ L m s Q E p loose mean mg mb B F X N T hcs hdp hun hret
  have hl := klen k hk
  have hb := kbig k hk
  have hw := kw_le k hk
  refine wpAny_call ?_
  k_dflt cell_enter
  repeat' (first
      | (k_unfold; (try dsimp only))
      | (k_end; kc_close)
      | ((with_reducible show wpAny _ _ (call (Value.ref _) _) _ _ _); first
        | (with_reducible ((with_reducible show wpAny _ _ (call (Value.ref 104) [Value.str _ _]) _ _ _); k_here; k_dflt (refine' clm_use (is_signed_c _ _ (by assumption)) (by k_asm) (by k_asm) (by k_asm) (by k_asm) (by k_asm) (by first | exact rfl | assumption) (by ktr_room) (by ktr_units) ?_; k_whole); intro u'z h'z tk'z F'z N'z; (try dsimp only); (try k_fold); (try k_sweep)))
        | fail)
      | (with_reducible ((with_reducible show wpAny _ _ (subscriptTail _ _ (Value.ref 90) (Value.str _ _)) _ _ _); k_here; k_dflt (refine' widths_item (by k_asm) (by k_asm) (by assumption) ?_ (by with_unfolding_all rfl); k_whole); intro u'z))
      | walk1
      | (dsimp only; walk1)
      | (leave1; walk_say "STEP leave1"; (try dsimp only))
      | fail "no step")
  · refine cb_retI hret ?_ (by k_asm) (by k_asm)
    unfold hi; rw [if_pos (by assumption), show ((kw k : Int) - 1).toNat = kw k - 1 by omega]
  · refine cb_retI hret ?_ (by k_asm) (by k_asm)
    unfold hi; rw [if_neg (by simp_all)]; rfl
theorem fits_c {w : World} {news : List (Addr × Obj)} (k : Str) (t : Tok) (hk : Kind k) (n : Int) (t' : Tok) : Clm w 125 3 news [.str k t, .int n t'] (RetP news fun _ => .bool (decide (lo k ≤ n ∧ n ≤ hi k))) := by
  unfold Clm RetP
  k_fill
  intro dp un gd cn cs a ccd cl outer A₀ base h₀ L m s Q E p loose mean mg mb B F X N T hcs hdp hun hret
  have hl := klen k hk
  have hb := kbig k hk
  have hw := kw_le k hk
  refine wpAny_call ?_
  k_dflt cell_enter
  repeat' (first
      | (k_unfold; (try dsimp only))
      | (k_end; kc_close)
      | ((with_reducible show wpAny _ _ (call (Value.ref _) _) _ _ _); first
        | (with_reducible ((with_reducible show wpAny _ _ (call (Value.ref 118) _) _ _ _); k_here; k_dflt (refine' clm_use (greatest_c _ _ (by assumption)) (by k_asm) (by k_asm) (by k_asm) (by k_asm) (by k_asm) (by first | exact rfl | assumption) (by ktr_room) (by ktr_units) ?_; k_whole); intro u'z h'z tk'z F'z N'z; (try dsimp only); (try k_fold); (try k_sweep)))
        | (with_reducible ((with_reducible show wpAny _ _ (call (Value.ref 111) _) _ _ _); k_here; k_dflt (refine' clm_use (least_c _ _ (by assumption)) (by k_asm) (by k_asm) (by k_asm) (by k_asm) (by k_asm) (by first | exact rfl | assumption) (by ktr_room) (by ktr_units) ?_; k_whole); intro u'z h'z tk'z F'z N'z; (try dsimp only); (try k_fold); (try k_sweep)))
        | fail)
      | walk1
      | (dsimp only; walk1)
      | (leave1; walk_say "STEP leave1"; (try dsimp only))
      | fail "no step")
  · refine cb_retB hret ?_ (by k_asm) (by k_asm)
    simp only [decide_eq_decide]; constructor <;> intro _ <;> (try constructor) <;> (first | assumption | omega)
  · refine cb_retB hret ?_ (by k_asm) (by k_asm)
    simp only [decide_eq_decide]; constructor <;> intro _ <;> (try constructor) <;> (first | assumption | omega)
theorem wrapped_c {w : World} {news : List (Addr × Obj)} (k : Str) (t : Tok) (hk : Kind k) (n : Int) (t' : Tok) : Clm w 139 2 news [.str k t, .int n t'] (RetP news fun t => .int (wr k n) t) := by
  unfold Clm RetP
  k_fill
  intro dp un gd cn cs a ccd cl outer A₀ base h₀ L m s Q E p loose mean mg mb B F X N T hcs hdp hun hret
  have hl := klen k hk
  have hb := kbig k hk
  have hw := kw_le k hk
  refine wpAny_call ?_
  k_dflt cell_enter
  repeat' (first
      | (k_unfold; (try dsimp only))
      | (k_end; kc_close)
      | ((with_reducible show wpAny _ _ (call (Value.ref _) _) _ _ _); first
        | (with_reducible ((with_reducible show wpAny _ _ (call (Value.ref 104) [Value.str _ _]) _ _ _); k_here; k_dflt (refine' clm_use (is_signed_c _ _ (by assumption)) (by k_asm) (by k_asm) (by k_asm) (by k_asm) (by k_asm) (by first | exact rfl | assumption) (by ktr_room) (by ktr_units) ?_; k_whole); intro u'z h'z tk'z F'z N'z; (try dsimp only); (try k_fold); (try k_sweep)))
        | fail)
      | (with_reducible ((with_reducible show wpAny _ _ (subscriptTail _ _ (Value.ref 90) (Value.str _ _)) _ _ _); k_here; k_dflt (refine' widths_item (by k_asm) (by k_asm) (by assumption) ?_ (by with_unfolding_all rfl); k_whole); intro u'z))
      | walk1
      | (dsimp only; walk1)
      | (leave1; walk_say "STEP leave1"; (try dsimp only))
      | fail "no step")
  all_goals (
    have e1 : ((kw k : Int) - 1).toNat = kw k - 1 := by omega
    have e2 := natCast_toNat' (kw k)
    refine cb_retI hret ?_ (by k_asm) (by k_asm)
    simp only [e1, e2, fmod_pos (two_pos _)] at *
    unfold wr)
  · rw [if_pos]; refine ⟨by assumption, ?_⟩; assumption
  · rw [if_neg]; intro h; exact absurd h.2 (by assumption)
  · rw [if_neg]; intro h; have := h.1; simp_all
theorem unsigned_c {w : World} {news : List (Addr × Obj)} (k : Str) (t : Tok) (hk : Kind k) (n : Int) (t' : Tok) : Clm w 167 1 news [.str k t, .int n t'] (RetP news fun t => .int (n % 2 ^ kw k) t) := by
  unfold Clm RetP
  k_fill
  intro dp un gd cn cs a ccd cl outer A₀ base h₀ L m s Q E p loose mean mg mb B F X N T hcs hdp hun hret
  have hl := klen k hk
  have hb := kbig k hk
  have hw := kw_le k hk
  refine wpAny_call ?_
  k_dflt cell_enter
  repeat' (first
      | (k_unfold; (try dsimp only))
      | (k_end; kc_close)
      | (with_reducible ((with_reducible show wpAny _ _ (subscriptTail _ _ (Value.ref 90) (Value.str _ _)) _ _ _); k_here; k_dflt (refine' widths_item (by k_asm) (by k_asm) (by assumption) ?_ (by with_unfolding_all rfl); k_whole); intro u'z))
      | walk1
      | (dsimp only; walk1)
      | (leave1; walk_say "STEP leave1"; (try dsimp only))
      | fail "no step")
  refine cb_retI hret (fmod_pos (two_pos _)) (by k_asm) (by k_asm)
theorem law_round_c {w : World} {news : List (Addr × Obj)} (k : Str) (t : Tok) (hk : Kind k) (n : Int) (t' : Tok) (hn : Builtin.Int.intBits n ≤ 1000) : Clm w 258 2 news [.str k t, .int n t'] (RetP news fun t => .int (wr k n) t) := by
  unfold Clm RetP
  k_fill
  intro dp un gd cn cs a ccd cl outer A₀ base h₀ L m s Q E p loose mean mg mb B F X N T hcs hdp hun hret
  have hl := klen k hk
  have hb := kbig k hk
  have hw := kw_le k hk
  refine wpAny_call ?_
  k_dflt cell_enter
  repeat' (first
      | (k_unfold; (try dsimp only))
      | (k_end; kc_close)
      | ((with_reducible show wpAny _ _ (call (Value.ref _) _) _ _ _); first
        | (with_reducible ((with_reducible show wpAny _ _ (call (Value.ref 251) _) _ _ _); k_here; k_dflt (refine' clm_use (law_ends_c _ _ (by assumption)) (by k_asm) (by k_asm) (by k_asm) (by k_asm) (by k_asm) (by first | exact rfl | assumption) (by ktr_room) (by ktr_units) ?_; k_whole); intro q'z t1'z t2'z h'z tk'z F'z N'z l1'z; (try k_lt l1'z); (try dsimp only); (try k_fold); (try k_sweep)))
        | fail)
      | walk1
      | (dsimp only; walk1)
      | (leave1; walk_say "STEP leave1"; (try dsimp only))
      | fail "no step")
  refine cb_retI hret ?_ (by k_asm) (by first | k_asm | exact cb_drop (by assumption) (fun _ h => .tail _ h))
  rw [span k hk, fdiv_pos (two_pos _)]
  exact round_wr k hk n

/- G3 -/

/-- a fresh pair of an int and a bool is handed back -/
abbrev RetTB (news : List (Addr × Obj)) (x : Int) (b : Bool) : Heap → Addr → (Str → Option Value) → Shared → (Value → Shared → Prop) → (Value → Shared → Prop) → Prop :=
  fun h₀ L m s Q _ => ∀ (q : Addr) (t1 : Tok) (h' : Heap) (tk' : Nat), Fr h₀ L h' m → News h₀ L h' ((q, ({ cls := .type "tuple", data := .seq #[.int x t1, .bool b] 0 } : Obj)) :: news) → (∀ p ∈ news, p.1 < q) → Q (.ref q) { s with heap := h', toks := tk' }
noncomputable def opf (op : Str) (a b : Int) : Int := if (op == Str.ofString "+") = true then a + b else if (op == Str.ofString "-") = true then a - b else a * b
noncomputable def bt (op : Str) (a b : Int) : Int := if (op == Str.ofString "&") = true then Builtin.bitAnd a b else if (op == Str.ofString "|") = true then Builtin.bitOr a b else Builtin.bitXor a b
noncomputable def mu (k : Str) (n p : Int) : Int := if (kw k : Int) ≤ p then 0 else wr k (n * 2 ^ p.toNat)
noncomputable def md (k : Str) (n p : Int) (f : Bool) : Int := if f = true then n / 2 ^ (if (kw k : Int) < p then (kw k : Int) else p).toNat else wr k (n % 2 ^ kw k / 2 ^ (if (kw k : Int) < p then (kw k : Int) else p).toNat)
noncomputable def sh (k op : Str) (n p : Int) : Int := if (op == Str.ofString "<<") = true then (if 0 ≤ p then mu k n p else md k n (0 - p) true) else if p < 0 then mu k n (0 - p) else md k n p (op == Str.ofString ">>")
theorem negated_c {w : World} {news : List (Addr × Obj)} (k : Str) (t : Tok) (hk : Kind k) (n : Int) (t' : Tok) : Clm w 160 3 news [.str k t, .int n t'] (RetP news fun t => .int (wr k (0 - n)) t) := by
  unfold Clm RetP
  k_fill
  intro dp un gd cn cs a ccd cl outer A₀ base h₀ L m s Q E p loose mean mg mb B F X N T hcs hdp hun hret
  have hl := klen k hk
  have hb := kbig k hk
  have hw := kw_le k hk
  refine wpAny_call ?_
  k_dflt cell_enter
  repeat' (first
      | (k_unfold; (try dsimp only))
      | (k_end; kc_close)
      | ((with_reducible show wpAny _ _ (call (Value.ref _) _) _ _ _); first
        | (with_reducible ((with_reducible show wpAny _ _ (call (Value.ref 139) _) _ _ _); k_here; k_dflt (refine' clm_use (wrapped_c _ _ (by assumption) _ _) (by k_asm) (by k_asm) (by k_asm) (by k_asm) (by k_asm) (by first | exact rfl | assumption) (by ktr_room) (by ktr_units) ?_; k_whole); intro u'z h'z tk'z F'z N'z; (try dsimp only); (try k_fold); (try k_sweep)))
        | fail)
      | walk1
      | (dsimp only; walk1)
      | (leave1; walk_say "STEP leave1"; (try dsimp only))
      | fail "no step")
  refine cb_retI hret rfl (by k_asm) (by k_asm)
theorem inverted_c {w : World} {news : List (Addr × Obj)} (k : Str) (t : Tok) (hk : Kind k) (n : Int) (t' : Tok) : Clm w 202 3 news [.str k t, .int n t'] (RetP news fun t => .int (wr k (0 - n - 1)) t) := by
  unfold Clm RetP
  k_fill
  intro dp un gd cn cs a ccd cl outer A₀ base h₀ L m s Q E p loose mean mg mb B F X N T hcs hdp hun hret
  have hl := klen k hk
  have hb := kbig k hk
  have hw := kw_le k hk
  refine wpAny_call ?_
  k_dflt cell_enter
  repeat' (first
      | (k_unfold; (try dsimp only))
      | (k_end; kc_close)
      | ((with_reducible show wpAny _ _ (call (Value.ref _) _) _ _ _); first
        | (with_reducible ((with_reducible show wpAny _ _ (call (Value.ref 139) _) _ _ _); k_here; k_dflt (refine' clm_use (wrapped_c _ _ (by assumption) _ _) (by k_asm) (by k_asm) (by k_asm) (by k_asm) (by k_asm) (by first | exact rfl | assumption) (by ktr_room) (by ktr_units) ?_; k_whole); intro u'z h'z tk'z F'z N'z; (try dsimp only); (try k_fold); (try k_sweep)))
        | fail)
      | walk1
      | (dsimp only; walk1)
      | (leave1; walk_say "STEP leave1"; (try dsimp only))
      | fail "no step")
  refine cb_retI hret rfl (by k_asm) (by k_asm)
theorem exact_c {w : World} {news : List (Addr × Obj)} (op : Str) (t : Tok) (n : Int) (t' : Tok) (n2 : Int) (t2 : Tok) (hn : Builtin.Int.intBits n ≤ 500) (hn2 : Builtin.Int.intBits n2 ≤ 500) : Clm w 146 1 news [.str op t, .int n t', .int n2 t2] (RetP news fun t => .int (opf op n n2) t) := by
  unfold Clm RetP
  k_fill
  intro dp un gd cn cs a ccd cl outer A₀ base h₀ L m s Q E p loose mean mg mb B F X N T hcs hdp hun hret
  refine wpAny_call ?_
  k_dflt cell_enter
  k_steps
  all_goals (refine cb_retI hret ?_ (by k_asm) (by k_asm); unfold opf; simp_all; done)
theorem bits_together_c {w : World} {news : List (Addr × Obj)} (op : Str) (t : Tok) (n : Int) (t' : Tok) (n2 : Int) (t2 : Tok)  : Clm w 195 1 news [.str op t, .int n t', .int n2 t2] (RetP news fun t => .int (bt op n n2) t) := by
  unfold Clm RetP
  k_fill
  intro dp un gd cn cs a ccd cl outer A₀ base h₀ L m s Q E p loose mean mg mb B F X N T hcs hdp hun hret
  refine wpAny_call ?_
  k_dflt cell_enter
  k_steps
  all_goals (refine cb_retI hret ?_ (by k_asm) (by k_asm); unfold bt; simp_all; done)
theorem zeros_ahead_c {w : World} {news : List (Addr × Obj)} (k : Str) (t : Tok) (hk : Kind k) (n : Int) (t' : Tok) : Clm w 216 2 news [.str k t, .int n t'] (RetP news fun t => .int (kw k - Builtin.Int.intBits (n % 2 ^ kw k)) t) := by
  unfold Clm RetP
  k_fill
  intro dp un gd cn cs a ccd cl outer A₀ base h₀ L m s Q E p loose mean mg mb B F X N T hcs hdp hun hret
  have hl := klen k hk
  have hb := kbig k hk
  have hw := kw_le k hk
  refine wpAny_call ?_
  k_dflt cell_enter
  repeat' (first
      | (k_unfold; (try dsimp only))
      | (k_end; kc_close)
      | ((with_reducible show wpAny _ _ (call (Value.ref _) _) _ _ _); first
        | (with_reducible ((with_reducible show wpAny _ _ (call (Value.ref 167) _) _ _ _); k_here; k_dflt (refine' clm_use (unsigned_c _ _ (by assumption) _ _) (by k_asm) (by k_asm) (by k_asm) (by k_asm) (by k_asm) (by first | exact rfl | assumption) (by ktr_room) (by ktr_units) ?_; k_whole); intro u'z h'z tk'z F'z N'z; (try dsimp only); (try k_fold); (try k_sweep)))
        | fail)
      | (with_reducible ((with_reducible show wpAny _ _ (subscriptTail _ _ (Value.ref 90) (Value.str _ _)) _ _ _); k_here; k_dflt (refine' widths_item (by k_asm) (by k_asm) (by assumption) ?_ (by with_unfolding_all rfl); k_whole); intro u'z))
      | walk1
      | (dsimp only; walk1)
      | (leave1; walk_say "STEP leave1"; (try dsimp only))
      | fail "no step")
  refine cb_retI hret rfl (by k_asm) (by k_asm)
theorem moved_up_c {w : World} {news : List (Addr × Obj)} (k : Str) (t : Tok) (hk : Kind k) (n : Int) (t' : Tok) (pl : Int) (t2 : Tok) (hn : Builtin.Int.intBits n ≤ 1000) (h0 : 0 ≤ pl) : Clm w 174 3 news [.str k t, .int n t', .int pl t2] (RetP news fun t => .int (mu k n pl) t) := by
  unfold Clm RetP
  k_fill
  intro dp un gd cn cs a ccd cl outer A₀ base h₀ L m s Q E p loose mean mg mb B F X N T hcs hdp hun hret
  have hl := klen k hk
  have hb := kbig k hk
  have hw := kw_le k hk
  refine wpAny_call ?_
  k_dflt cell_enter
  repeat' (first
      | (k_unfold; (try dsimp only))
      | (k_end; kc_close)
      | ((with_reducible show wpAny _ _ (call (Value.ref _) _) _ _ _); first
        | (with_reducible ((with_reducible show wpAny _ _ (call (Value.ref 139) _) _ _ _); k_here; k_dflt (refine' clm_use (wrapped_c _ _ (by assumption) _ _) (by k_asm) (by k_asm) (by k_asm) (by k_asm) (by k_asm) (by first | exact rfl | assumption) (by ktr_room) (by ktr_units) ?_; k_whole); intro u'z h'z tk'z F'z N'z; (try dsimp only); (try k_fold); (try k_sweep)))
        | fail)
      | (with_reducible ((with_reducible show wpAny _ _ (subscriptTail _ _ (Value.ref 90) (Value.str _ _)) _ _ _); k_here; k_dflt (refine' widths_item (by k_asm) (by k_asm) (by assumption) ?_ (by with_unfolding_all rfl); k_whole); intro u'z))
      | walk1
      | (dsimp only; walk1)
      | (leave1; walk_say "STEP leave1"; (try dsimp only))
      | fail "no step")
  · refine cb_retI hret ?_ (by k_asm) (by k_asm)
    unfold mu; rw [if_pos (by assumption)]
  · refine cb_retI hret ?_ (by k_asm) (by k_asm)
    unfold mu; rw [if_neg (by assumption)]
theorem moved_down_c {w : World} {news : List (Addr × Obj)} (k : Str) (t : Tok) (hk : Kind k) (n : Int) (t' : Tok) (pl : Int) (t2 : Tok) (f : Bool) (h0 : 0 ≤ pl) : Clm w 181 3 news [.str k t, .int n t', .int pl t2, .bool f] (RetP news fun t => .int (md k n pl f) t) := by
  unfold Clm RetP
  k_fill
  intro dp un gd cn cs a ccd cl outer A₀ base h₀ L m s Q E p loose mean mg mb B F X N T hcs hdp hun hret
  have hl := klen k hk
  have hb := kbig k hk
  have hw := kw_le k hk
  refine wpAny_call ?_
  k_dflt cell_enter
  repeat' (first
      | (k_unfold; (try dsimp only))
      | (k_end; kc_close)
      | ((with_reducible show wpAny _ _ (call (Value.ref _) _) _ _ _); first
        | (with_reducible ((with_reducible show wpAny _ _ (call (Value.ref 167) _) _ _ _); k_here; k_dflt (refine' clm_use (unsigned_c _ _ (by assumption) _ _) (by k_asm) (by k_asm) (by k_asm) (by k_asm) (by k_asm) (by first | exact rfl | assumption) (by ktr_room) (by ktr_units) ?_; k_whole); intro u'z h'z tk'z F'z N'z; (try dsimp only); (try k_fold); (try k_sweep)))
        | (with_reducible ((with_reducible show wpAny _ _ (call (Value.ref 139) _) _ _ _); k_here; k_dflt (refine' clm_use (wrapped_c _ _ (by assumption) _ _) (by k_asm) (by k_asm) (by k_asm) (by k_asm) (by k_asm) (by first | exact rfl | assumption) (by ktr_room) (by ktr_units) ?_; k_whole); intro u'z h'z tk'z F'z N'z; (try dsimp only); (try k_fold); (try k_sweep)))
        | fail)
      | (with_reducible ((with_reducible show wpAny _ _ (subscriptTail _ _ (Value.ref 90) (Value.str _ _)) _ _ _); k_here; k_dflt (refine' widths_item (by k_asm) (by k_asm) (by assumption) ?_ (by with_unfolding_all rfl); k_whole); intro u'z))
      | walk1
      | (dsimp only; walk1)
      | (leave1; walk_say "STEP leave1"; (try dsimp only))
      | fail "no step")
  · refine cb_retI hret ?_ (by k_asm) (by k_asm)
    unfold md; rw [fdiv_pos (two_pos _)]; exact (if_pos (by assumption)).symm
  · refine cb_retI hret ?_ (by k_asm) (by k_asm)
    unfold md; rw [fdiv_pos (two_pos _)]; exact (if_neg (by simp_all)).symm
theorem shifted_c {w : World} {news : List (Addr × Obj)} (k : Str) (t : Tok) (hk : Kind k) (op : Str) (t0 : Tok) (n : Int) (t' : Tok) (pl : Int) (t2 : Tok) (hn : Builtin.Int.intBits n ≤ 1000) : Clm w 188 4 news [.str k t, .str op t0, .int n t', .int pl t2] (RetP news fun t => .int (sh k op n pl) t) := by
  unfold Clm RetP
  k_fill
  intro dp un gd cn cs a ccd cl outer A₀ base h₀ L m s Q E p loose mean mg mb B F X N T hcs hdp hun hret
  have hl := klen k hk
  have hb := kbig k hk
  have hw := kw_le k hk
  refine wpAny_call ?_
  k_dflt cell_enter
  repeat' (first
      | (k_unfold; (try dsimp only))
      | (k_end; kc_close)
      | ((with_reducible show wpAny _ _ (call (Value.ref _) _) _ _ _); first
        | (with_reducible ((with_reducible show wpAny _ _ (call (Value.ref 181) _) _ _ _); k_here; k_dflt (refine' clm_use (moved_down_c _ _ (by assumption) _ _ _ _ _ (by omega)) (by k_asm) (by k_asm) (by k_asm) (by k_asm) (by k_asm) (by first | exact rfl | assumption) (by ktr_room) (by ktr_units) ?_; k_whole); intro u'z h'z tk'z F'z N'z; (try dsimp only); (try k_fold); (try k_sweep)))
        | (with_reducible ((with_reducible show wpAny _ _ (call (Value.ref 174) _) _ _ _); k_here; k_dflt (refine' clm_use (moved_up_c _ _ (by assumption) _ _ _ _ (by assumption) (by omega)) (by k_asm) (by k_asm) (by k_asm) (by k_asm) (by k_asm) (by first | exact rfl | assumption) (by ktr_room) (by ktr_units) ?_; k_whole); intro u'z h'z tk'z F'z N'z; (try dsimp only); (try k_fold); (try k_sweep)))
        | fail)
      | walk1
      | (dsimp only; walk1)
      | (leave1; walk_say "STEP leave1"; (try dsimp only))
      | fail "no step")
  all_goals (refine cb_retI hret ?_ (by k_asm) (by k_asm); unfold sh)
  · rw [if_pos (by assumption), if_pos (by assumption)]
  · rw [if_pos (by assumption), if_neg (by assumption)]
  · rw [if_neg (by simp_all), if_pos (by assumption)]
  · rw [if_neg (by simp_all), if_neg (by assumption)]
theorem checked_c {w : World} {news : List (Addr × Obj)} (k : Str) (t : Tok) (hk : Kind k) (op : Str) (t0 : Tok) (n : Int) (t' : Tok) (n2 : Int) (t2 : Tok) (hn : Builtin.Int.intBits n ≤ 500) (hn2 : Builtin.Int.intBits n2 ≤ 500) : Clm w 153 4 news [.str k t, .str op t0, .int n t', .int n2 t2] (RetTB news (wr k (opf op n n2)) (!decide (lo k ≤ opf op n n2 ∧ opf op n n2 ≤ hi k))) := by
  unfold Clm RetTB
  k_fill
  intro dp un gd cn cs a ccd cl outer A₀ base h₀ L m s Q E p loose mean mg mb B F X N T hcs hdp hun hret
  have hl := klen k hk
  have hb := kbig k hk
  have hw := kw_le k hk
  refine wpAny_call ?_
  k_dflt cell_enter
  repeat' (first
      | (k_unfold; (try dsimp only))
      | (k_end; kc_close)
      | ((with_reducible show wpAny _ _ (call (Value.ref _) _) _ _ _); first
        | (with_reducible ((with_reducible show wpAny _ _ (call (Value.ref 146) _) _ _ _); k_here; k_dflt (refine' clm_use (exact_c _ _ _ _ _ _ (by assumption) (by assumption)) (by k_asm) (by k_asm) (by k_asm) (by k_asm) (by k_asm) (by first | exact rfl | assumption) (by ktr_room) (by ktr_units) ?_; k_whole); intro u'z h'z tk'z F'z N'z; (try dsimp only); (try k_fold); (try k_sweep)))
        | (with_reducible ((with_reducible show wpAny _ _ (call (Value.ref 139) _) _ _ _); k_here; k_dflt (refine' clm_use (wrapped_c _ _ (by assumption) _ _) (by k_asm) (by k_asm) (by k_asm) (by k_asm) (by k_asm) (by first | exact rfl | assumption) (by ktr_room) (by ktr_units) ?_; k_whole); intro u'z h'z tk'z F'z N'z; (try dsimp only); (try k_fold); (try k_sweep)))
        | (with_reducible ((with_reducible show wpAny _ _ (call (Value.ref 125) _) _ _ _); k_here; k_dflt (refine' clm_use (fits_c _ _ (by assumption) _ _) (by k_asm) (by k_asm) (by k_asm) (by k_asm) (by k_asm) (by first | exact rfl | assumption) (by ktr_room) (by ktr_units) ?_; k_whole); intro u'z h'z tk'z F'z N'z; (try dsimp only); (try k_fold); (try k_sweep)))
        | fail)
      | walk1
      | (dsimp only; walk1)
      | (leave1; walk_say "STEP leave1"; (try dsimp only))
      | fail "no step")
  exact hret _ _ _ _ (by k_asm) (by k_asm) (by assumption)

/- G4 -/

local macro_rules | `(tactic| k_all) => `(tactic| (intro p hp; (repeat ((with_reducible rename (∀ q : Addr × Obj, q ∈ _ → q.1 < _) => hq); first | (have hq' := ltN (hq p hp); clear hq) | clear hq)); (refine neN ?_; (try dsimp only); omega)))
/-- a fresh list of ints is handed back -/
abbrev RetL (news : List (Addr × Obj)) (ns : List Int) : Heap → Addr → (Str → Option Value) → Shared → (Value → Shared → Prop) → (Value → Shared → Prop) → Prop :=
  fun h₀ L m s Q _ => ∀ (q : Addr) (ys : List Value) (h' : Heap) (tk' : Nat), IntsAre ys ns → ys.length = ns.length → Fr h₀ L h' m → News h₀ L h' ((q, LCg.lst ys) :: news) → LCg.Off1 q news → Q (.ref q) { s with heap := h', toks := tk' }
theorem retL {news : List (Addr × Obj)} {ns ns' : List Int} {ys : List Value} {h₀ h' : Heap} {L q : Addr} {m : Str → Option Value} {s : Shared} {Q : Value → Shared → Prop} {tk' : Nat}
    (hret : ∀ (q : Addr) (ys : List Value) (h' : Heap) (tk' : Nat), IntsAre ys ns → ys.length = ns.length → Fr h₀ L h' m → News h₀ L h' ((q, LCg.lst ys) :: news) → LCg.Off1 q news → Q (.ref q) { s with heap := h', toks := tk' })
    (e : ns' = ns) (hI : IntsAre ys ns') (hL : ys.length = ns'.length) (F : Fr h₀ L h' m) (N : News h₀ L h' ((q, LCg.lst ys) :: news)) (o : LCg.Off1 q news) : Q (.ref q) { s with heap := h', toks := tk' } := by
  subst e; exact hret q ys h' tk' hI hL F N o
/-- the row of bits, the lowest first -/
noncomputable def bL (k : Str) (n : Int) : List Int := (List.range (kw k)).map fun i => n / 2 ^ i % 2
theorem pow_split {a b : Nat} (h : a ≤ b) : (2 : Int) ^ b = 2 ^ (b - a) * 2 ^ a := by rw [← Int.pow_add, Nat.sub_add_cancel h]
theorem bit_add (n : Int) {i W : Nat} (h : i < W) : (n + 2 ^ W) / 2 ^ i % 2 = n / 2 ^ i % 2 := by
  have e : (2 : Int) ^ W = 2 ^ (W - i - 1) * 2 * 2 ^ i := by rw [← Int.pow_succ, ← Int.pow_add]; congr 1; omega
  rw [e, Int.add_mul_ediv_right _ _ (two_ne i), Int.add_mul_emod_self_right]
theorem bL_of (k : Str) (n : Int) : List.map (fun k' => ((n + 2 ^ ((kw k : Int)).toNat).fdiv (2 ^ k'.toNat)).fmod 2) (rangeKs 0 ((kw k : Int) - 0).toNat) = bL k n := by
  unfold rangeKs bL
  rw [List.map_map, show ((kw k : Int) - 0).toNat = kw k by omega]
  refine List.map_congr_left fun i hi => ?_
  have hi' := List.mem_range.mp hi
  show ((n + 2 ^ kw k).fdiv (2 ^ (0 + (i : Int)).toNat)).fmod 2 = _
  rw [show (0 + (i : Int)).toNat = i by omega, fdiv_pos (two_pos _), fmod_pos (by decide), bit_add n hi']
theorem law_bits_c {w : World} {news : List (Addr × Obj)} (k : Str) (t : Tok) (hk : Kind k) (n : Int) (t' : Tok) : Clm w 270 3 news [.str k t, .int n t'] (RetL news (bL k n)) := by
  unfold Clm RetL
  k_fill
  intro dp un gd cn cs a ccd cl outer A₀ base h₀ L m s Q E p loose mean mg mb B F X N T hcs hdp hun hret
  have hl := klen k hk
  have hb := kbig k hk
  have hw := kw_le k hk
  refine wpAny_call ?_
  k_dflt (refine' code_defC ?k1 ?k2 ?k3 ?k4 ?k5 ?kA ?kF ?kK ?k6 ?k7 ?k8 ?k9 ?kB ?kD ?_ ?c2 ?c3 ?c4; (case kA => exact rfl); (case kF => exact rfl); (case kK => assumption); (case k1 => k_asm); (case k2 => k_asm); (case k3 => k_asm); (case k4 => k_asm); (case k5 => k_asm); (case k6 => k_is); (case k7 => k_is); (case k8 => ktr_room); (case k9 => exact BindsTo.of_eq rfl); (case kB => exact rfl); (case kD => decide +kernel); (case c2 => exact rfl); (case c3 => exact rfl); (case c4 => exact rfl); k_whole; intro g' L' h' tk' cells' FG' F' N' Y' B' X' T' l1; (try k_lt l1); k_cells Y'; (try simp only [List.cons_append, List.nil_append] at N'); (try dsimp only); (try k_lift B'); (try k_fold))
  repeat' (first
      | (k_unfold; (try dsimp only))
      | (k_end; kc_close)
      | ((with_reducible show wpAny _ _ (call (Value.ref _) _) _ _ _); first
        | (with_reducible ((with_reducible show wpAny _ _ (call (Value.ref 277) _) _ _ _); k_here; k_dflt (refine' clm_use (law_width_c _ _ (by assumption)) (by k_asm) (by k_asm) (by k_asm) (by k_asm) (by k_asm) (by first | exact rfl | assumption) (by ktr_room) (by ktr_units) ?_; k_whole); intro u'z h'z tk'z F'z N'z; (try dsimp only); (try k_fold); (try k_sweep)))
        | fail)
      | walk1
      | (dsimp only; walk1)
      | (leave1; walk_say "STEP leave1"; (try dsimp only))
      | fail "no step")
  refine retL hret (bL_of k n) (by assumption) (by assumption) (by k_asm) (cb_drop (by assumption) fun p hp => ?_) ?_
  · rcases List.mem_cons.mp hp with h | h
    · exact h ▸ .head _
    · exact .tail _ (.tail _ (.tail _ h))
  · rename _ ∧ _ ∧ LCg.Off1 _ _ => hoff
    exact hoff.2.2

/- En -/

open PyProof.Rows.LCg
section
variable {prog : Program} {w : World} {A : Around} {E : Value → Shared → Prop} {s : Shared} {h₀ : Heap} {L : Addr} {m : Str → Option Value} {env : Env}

/-- the end of a turn: an int, all else as it was -/
noncomputable def EnEnd (h₀ : Heap) (L : Addr) (m : Str → Option Value) (s : Shared) (led : List (Addr × Obj)) (r : Int) (y : Value) (s₂ : Shared) : Prop :=
  ∃ (t : Tok) (h' : Heap) (tk : Nat), y = .int r t ∧ s₂ = { s with heap := h', toks := tk } ∧ Fr h₀ L h' m ∧ News h₀ L h' led
noncomputable def EnTurn (prog : Program) (w : World) (A : Around) (h₀ : Heap) (L : Addr) (m : Str → Option Value) (env : Env) (elt : Expr) (a b : Str) (scope : Scope) (cl : List (Str × Addr)) (s : Shared) (news : List (Addr × Obj)) (its : Array Value) (g : Nat → Int) : Prop :=
  ∀ (i : Nat) (x : Value) (t : Tok) (e it C D : Addr) (oe oi oC : Obj) (ys : List Value) (m₂ : Str → Option Value) (h : Heap) (tk : Nat) (E' : Value → Shared → Prop), its[i]? = some x → NsObj oC m₂ → m₂ a = some (.int i t) → m₂ b = some x →
    Fr h₀ L h m → News h₀ L h ((e, oe) :: (it, oi) :: (C, oC) :: (D, lst ys) :: news) →
    wpAny (model prog w) A (eval elt (compEnvC scope cl C env)) (EnEnd h₀ L m { s with heap := h, toks := tk } ((e, oe) :: (it, oi) :: (C, oC) :: (D, lst ys) :: news) (g i)) E' { s with heap := h, toks := tk }

theorem en_block {elt iter : Expr} {a b : Str} {pa pb tp : Pos} {kk : Nat} {scope : Scope} {cl : List (Str × Addr)} {pos : Pos} {s₂ : Shared} {e it l : Addr} {its : Array Value} {news : List (Addr × Obj)} {g : Nat → Int}
    {RR : Value → Addr → Result → Shared → Prop}
    (hh : A.handled = none) (hsz : its.size ≤ sizeLine) (hS : SrcAt h₀ l its news) (hle : l ≠ e) (hli : l ≠ it)
    (he : IsEnum s₂.heap e it 0 .none) (hi : s₂.heap.IsListIter it l 0) (hei : e ≠ it)
    (offe : ∀ p ∈ news, p.1 ≠ e) (offi : ∀ p ∈ news, p.1 ≠ it) (he₀ : h₀.get? e = none) (hi₀ : h₀.get? it = none) (hLe : L ≠ e) (hLi : L ≠ it)
    (hcell : ∀ y ∈ scope.names, y.2 ≠ .cell) (hkind : scope.kind = .function) (hxa : scope.names.lookup a = some .local) (hxb : scope.names.lookup b = some .local) (hab : ¬ a = b)
    (F : Fr h₀ L s₂.heap m) (N : News h₀ L s₂.heap news)
    (R : EnTurn prog w A h₀ L m env elt a b scope cl s₂ news its g)
    (hRR : ∀ D C h tk m' ys, IntsAre ys ((List.range its.size).map g) → Fr h₀ L h m → News h₀ L h ((D, lst ys) :: news) → (∀ p ∈ news, p.1 < D) → h.Ns C m' → h₀.get? C = none → h₀.get? D = none → C ≠ L → D ≠ L → C ≠ D → (∀ p ∈ news, p.1 ≠ C) → RR (.ref D) C (.ok .next) { s₂ with heap := h, toks := tk }) :
    wpAny (model prog w) A (newList []) (fun acc s₃ => wpAny (model prog w) A (newFunctionEnv scope env.globals cl [] env.qual none .none (some env)) (fun cenv s₄ =>
      codeAny (model prog w) A (.compStart (.ListComp elt [⟨.Tuple [.Name a pa, .Name b pb] kk tp, iter, [], 0⟩] scope pos) 0 (.ref e) acc { cenv with scope := relabel scope env }) (RR acc cenv.locals) s₄) E s₃) E s₂ := by
  refine wpAny_newObj_type (wpAny_newFunctionEnv hcell (by intro y hy; simp at hy) (fun h₁ hns₁ hsb₁ => ?_) hkind)
  dsimp only at hns₁ hsb₁ ⊢
  generalize hH2 : s₂.heap.push { cls := .type "list", dict := none, data := .seq ([] : List Value).toArray } = H2 at hns₁ hsb₁ ⊢
  have hC : H2.objs.size = s₂.heap.objs.size + 1 := by rw [← hH2, Heap.size_push]
  have hDC : s₂.heap.objs.size ≠ H2.objs.size := by rw [hC]; exact Nat.ne_of_lt (Nat.lt_succ_self _)
  have below : ∀ b, b < s₂.heap.objs.size → b ≠ H2.objs.size ∧ b ≠ s₂.heap.objs.size := fun b hb => ⟨by rw [hC]; exact Nat.ne_of_lt (Nat.lt_succ_of_lt hb), Nat.ne_of_lt hb⟩
  have helt : e < s₂.heap.objs.size := Heap.lt_size he
  have hilt : it < s₂.heap.objs.size := by obtain ⟨_, x, _⟩ := hi; exact Heap.lt_size x
  have old : ∀ b o, s₂.heap.get? b = some o → h₁.get? b = some o := fun b o e => hsb₁.extBut b o (below b (Heap.lt_size e)).1 (Heap.get?_push_of_some _ (hH2 ▸ Heap.get?_push_of_some _ e))
  have hacc : h₁.get? s₂.heap.objs.size = some (lst []) := hsb₁.extBut _ _ hDC (Heap.get?_push_of_some _ (hH2 ▸ Heap.get?_push_size _ rfl))
  have fresh : ∀ a, s₂.heap.objs.size ≤ a → s₂.heap.get? a = none := fun a ha => by
    cases e : s₂.heap.get? a with
    | none => rfl
    | some o' => exact absurd (Heap.lt_size e) (Nat.not_lt.mpr ha)
  have fresh₀ : ∀ a, s₂.heap.objs.size ≤ a → h₀.get? a = none := fun a ha => by
    cases e : h₀.get? a with
    | none => rfl
    | some o' => have := F.keep a o' e; rw [fresh a ha] at this; cases this
  have hD₀ : h₀.get? s₂.heap.objs.size = none := fresh₀ _ (Nat.le_refl _)
  have hC₀ : h₀.get? H2.objs.size = none := fresh₀ _ (by rw [hC]; exact Nat.le_succ _)
  have hLlt : L < s₂.heap.objs.size := F.ns.lt
  have hDL : s₂.heap.objs.size ≠ L := Ne.symm (below L hLlt).2
  have hCL : H2.objs.size ≠ L := Ne.symm (below L hLlt).1
  have hltD : ∀ p ∈ news, p.1 < s₂.heap.objs.size := fun p hp => Heap.lt_size (N p hp).1
  have offC : ∀ p ∈ news, p.1 ≠ H2.objs.size := fun p hp => (below _ (hltD p hp)).1
  have offD : ∀ p ∈ news, p.1 ≠ s₂.heap.objs.size := fun p hp => (below _ (hltD p hp)).2
  have hCe := (below e helt).1
  have hDe := (below e helt).2
  have hCi := (below it hilt).1
  have hDi := (below it hilt).2
  have W := WalksT.enumerate (prog := prog) (w := w) hh e it l hei hle hli its
  have loop : ∀ s₃ : Shared, s₃ = { s₂ with heap := h₁, toks := s₂.toks + ([] : List (Str × Value)).length } →
      codeAny (model prog w) A (.compLoop (.ListComp elt [⟨.Tuple [.Name a pa, .Name b pb] kk tp, iter, [], 0⟩] scope pos) 0 (.ref e) (.ref s₂.heap.objs.size) (compEnvC scope cl H2.objs.size env))
        (RR (.ref s₂.heap.objs.size) H2.objs.size) s₃ := by
    rintro s₃ rfl
    refine kcp_loop
      (fun k s' => ∃ h' tk i ys m', s' = { s₂ with heap := h', toks := tk } ∧ i ≤ its.size ∧ k = its.size + 1 - i ∧ IntsAre ys ((List.range i).map g) ∧ ((∃ o, IsEnum h' e it i o) ∧ h'.IsListIter it l i ∧ h'.IsList l its) ∧ Fr h₀ L h' m ∧ h'.Ns H2.objs.size m' ∧
        News h₀ L h' ((s₂.heap.objs.size, lst ys) :: news)) ?_ (its.size + 1)
      ⟨h₁, _, 0, [], _, rfl, Nat.zero_le _, rfl, .nil, ⟨⟨_, old _ _ he⟩, hi.at (old _), hS.list (F.keeps old).keep (N.grown old)⟩, F.keeps old, hns₁, fun p hp => ?_⟩
    · rintro k' s' ⟨h', tk, i, ys, m', rfl, hi', rfl, hy, hst', F', hn', N'⟩
      have hylen : ys.length = i := by have := hy.length; simpa using this
      by_cases hlt : i < its.size
      · refine W.item i _ _ _ hlt hst' fun T vals h₂ tk₂ hP hTn hT hMd hk₂ => ?_
        refine W.go _ _ _ i T _ _ _ hMd fun h₃ hst₃ hk₃ => ?_
        have hT₃ := hT.at fun o x => hk₃ T o (W.apart i T _ hMd) x
        obtain ⟨t, x, hx, rfl⟩ := hP
        have up₃ : ∀ c o, c ≠ e → c ≠ it → h'.get? c = some o → h₃.get? c = some o := fun c o h1 h2 q => hk₃ c o (by simp [h1, h2]) (hk₂ c o (by simp [h1, h2]) q)
        refine kcp_assign (env := compEnvC scope cl H2.objs.size env) hh hT₃ (lookup_relabel_local hxa) (lookup_relabel_local hxb) (by simp [compEnvC, relabel, hkind]) (hn'.at' fun o q => up₃ _ o (Ne.symm hCe) (Ne.symm hCi) q) fun h₄ tk₄ hn₄ hs₄ => ?_
        have up : ∀ c o, c ≠ e → c ≠ it → c ≠ H2.objs.size → h'.get? c = some o → h₄.get? c = some o := fun c o h1 h2 h3 q => hs₄ c o h3 (up₃ c o h1 h2 q)
        obtain ⟨⟨old₃, hE₃⟩, hI₃, hL₃⟩ := hst₃
        have hE₄ := hs₄ e _ hCe hE₃
        obtain ⟨oi, hoi, hoi2⟩ := hI₃
        have hI₄ := hs₄ it _ hCi hoi
        obtain ⟨oC, heC, hoC⟩ := ns_obj hn₄
        have F₄ : Fr h₀ L h₄ m := ⟨F'.ns.at' fun o q => up _ o hLe hLi (Ne.symm hCL) q, fun c o q => up c o (fun z => by rw [z, he₀] at q; cases q) (fun z => by rw [z, hi₀] at q; cases q) (fun z => by rw [z, hC₀] at q; cases q) (F'.keep c o q), F'.above⟩
        have N₄ : News h₀ L h₄ ((e, _) :: (it, oi) :: (H2.objs.size, oC) :: (s₂.heap.objs.size, lst ys) :: news) := fun q hq => by
          rcases List.mem_cons.mp hq with rfl | hq
          · exact ⟨hE₄, Ne.symm hLe, he₀⟩
          rcases List.mem_cons.mp hq with rfl | hq
          · exact ⟨hI₄, Ne.symm hLi, hi₀⟩
          rcases List.mem_cons.mp hq with rfl | hq
          · exact ⟨heC, hCL, hC₀⟩
          have z := N' q hq
          refine ⟨up _ _ ?_ ?_ ?_ z.1, z.2⟩
          · rcases List.mem_cons.mp hq with rfl | hq
            · exact Ne.symm hDe
            · exact offe q hq
          · rcases List.mem_cons.mp hq with rfl | hq
            · exact Ne.symm hDi
            · exact offi q hq
          · rcases List.mem_cons.mp hq with rfl | hq
            · exact hDC
            · exact offC q hq
        refine wpAny_mono (R i x t e it H2.objs.size s₂.heap.objs.size _ oi oC ys _ h₄ _ _ hx hoC (by simp [hab]) (by simp) F₄ N₄) (fun y s₅ h₅ => ?_) fun _ _ q => q
        obtain ⟨ty, h₅, tk₅, rfl, rfl, F₅, N₅⟩ := h₅
        have zE := (N₅ _ List.mem_cons_self).1
        have zI := (N₅ _ (List.mem_cons_of_mem _ List.mem_cons_self)).1
        have zC := (N₅ _ (List.mem_cons_of_mem _ (List.mem_cons_of_mem _ List.mem_cons_self))).1
        have zD := (N₅ _ (List.mem_cons_of_mem _ (List.mem_cons_of_mem _ (List.mem_cons_of_mem _ List.mem_cons_self)))).1
        have N₅' : News h₀ L h₅ news := fun q hq => N₅ q (List.mem_cons_of_mem _ (List.mem_cons_of_mem _ (List.mem_cons_of_mem _ (List.mem_cons_of_mem _ hq))))
        refine append_at (hsz := by show ys.toArray.size ≤ sizeLine; rw [List.size_toArray, hylen]; exact Nat.le_trans hi' hsz) zD fun h₆ hs₆ hD₆ => ?_
        refine ⟨its.size + 1 - (i + 1), by omega, h₆, tk₅, i + 1, ys ++ [.int (g i) ty], _, rfl, hlt, rfl, ?_, ⟨⟨_, hs₆.extBut _ _ (Ne.symm (Ne.symm hDe)) zE⟩, ⟨oi, hs₆.extBut _ _ hDi zI, hoi2⟩, hS.list (F₅.change hs₆ hDL hD₀).keep (fun q hq => ⟨hs₆.extBut _ _ (offD q hq) (N₅' q hq).1, (N₅' q hq).2⟩ : News h₀ L h₆ news)⟩, F₅.change hs₆ hDL hD₀,
          (hoC.ns zC).sameBut hs₆ (Ne.symm hDC), fun q hq => ?_⟩
        · rw [List.range_succ, List.map_append]
          exact IntsAre.append hy (.cons (g i) ty .nil)
        · rcases List.mem_cons.mp hq with rfl | hq
          · exact ⟨hD₆.trans (congrArg some (lst_snoc ys _)), hDL, hD₀⟩
          · exact ⟨hs₆.extBut _ _ (offD q hq) (N₅' q hq).1, (N₅' q hq).2⟩
      · have hin : i = its.size := Nat.le_antisymm hi' (Nat.not_lt.mp hlt)
        subst hin
        refine W.done _ _ _ hst' fun h₂ tk₂ hk₂ => ?_
        have up : ∀ c o, c ≠ e → c ≠ it → h'.get? c = some o → h₂.get? c = some o := fun c o h1 h2 q => hk₂ c o (by simp [h1, h2]) q
        refine hRR _ _ h₂ tk₂ _ ys hy ⟨F'.ns.at' fun o q => up _ o hLe hLi q, fun c o q => up c o (fun z => by rw [z, he₀] at q; cases q) (fun z => by rw [z, hi₀] at q; cases q) (F'.keep c o q), F'.above⟩ (fun p hp => ?_) hltD (hn'.at' fun o q => up _ o (Ne.symm hCe) (Ne.symm hCi) q) hC₀ hD₀ hCL hDL (Ne.symm hDC) offC
        have z := N' p hp
        refine ⟨up _ _ ?_ ?_ z.1, z.2⟩
        · rcases List.mem_cons.mp hp with rfl | hp
          · exact Ne.symm hDe
          · exact offe p hp
        · rcases List.mem_cons.mp hp with rfl | hp
          · exact Ne.symm hDi
          · exact offi p hp
    · rcases List.mem_cons.mp hp with rfl | hp
      · exact ⟨hacc, hDL, hD₀⟩
      · exact ⟨old _ _ (N p hp).1, (N p hp).2⟩
  exact codeAny_compStart_list (loop _ rfl) (W.self 0 _ _ _ ⟨⟨_, old _ _ he⟩, hi.at (old _), hS.list (F.keeps old).keep (N.grown old)⟩ (loop _ rfl))

noncomputable def EnSrc (prog : Program) (w : World) (A : Around) (h₀ : Heap) (L : Addr) (m : Str → Option Value) (env : Env) (elt : Expr) (a b : Str) (scope : Scope) (cl : List (Str × Addr)) (Q : Value → Shared → Prop) (xv : Value) (s₁ : Shared) : Prop :=
  ∃ (e it l : Addr) (its : Array Value) (news : List (Addr × Obj)) (g : Nat → Int), xv = .ref e ∧ A.handled = none ∧ its.size ≤ sizeLine ∧ SrcAt h₀ l its news ∧ l ≠ e ∧ l ≠ it ∧ IsEnum s₁.heap e it 0 .none ∧ s₁.heap.IsListIter it l 0 ∧ e ≠ it ∧
    (∀ p ∈ news, p.1 ≠ e) ∧ (∀ p ∈ news, p.1 ≠ it) ∧ h₀.get? e = none ∧ h₀.get? it = none ∧ L ≠ e ∧ L ≠ it ∧ Fr h₀ L s₁.heap m ∧ News h₀ L s₁.heap news ∧
    EnTurn prog w A h₀ L m env elt a b scope cl s₁ news its g ∧
    ∀ (D : Addr) (ys : List Value) (h : Heap) (tk : Nat), IntsAre ys ((List.range its.size).map g) → Fr h₀ L h m → News h₀ L h ((D, lst ys) :: news) → (∀ p ∈ news, p.1 < D) → Q (.ref D) { s₁ with heap := h, toks := tk }

theorem en_ListComp {elt iter : Expr} {a b : Str} {pa pb tp : Pos} {kk : Nat} {scope : Scope} {cl : List (Str × Addr)} {pos : Pos} {Q : Value → Shared → Prop} (_F₀ : Fr h₀ L s.heap m)
    (hclos : closureFor scope env = pure cl) (hcell : ∀ y ∈ scope.names, y.2 ≠ .cell) (hkind : scope.kind = .function)
    (hnames : ∀ y ∈ scope.names, y.2 = .local → scope.names.lookup y.1 = some .local) (hxa : scope.names.lookup a = some .local) (hxb : scope.names.lookup b = some .local) (hab : ¬ a = b)
    (h : wpAny (model prog w) A (eval iter env) (EnSrc prog w A h₀ L m env elt a b scope cl Q) E s)
    (hs : ∀ x, foldedSetIterable iter env x = pure x := by intro _; rfl) :
    wpAny (model prog w) A (eval (.ListComp elt [⟨.Tuple [.Name a pa, .Name b pb] kk tp, iter, [], 0⟩] scope pos) env) Q E s := by
  rw [eval_ListComp]
  refine wpAny_comprehension_free (use := none) rfl hs hclos hkind hnames (wpAny_mono h (fun xv s₁ h₁ => ?_) fun _ _ e => e)
  obtain ⟨e, it, l, its, news, g, rfl, hh, hsz, hS, hle, hli, he, hi, hei, offe, offi, he₀, hi₀, hLe, hLi, F, N, R, fin⟩ := h₁
  refine wpAny_pyIter_enum he ?_
  refine en_block (its := its) (g := g) hh hsz hS hle hli he hi hei offe offi he₀ hi₀ hLe hLi hcell hkind hxa hxb hab F N R ?_
  intro D C h tk m' ys hy F' N' hlD hn hC₀ hD₀ hCL hDL hCD offC
  refine ⟨m', hn, fun h'' hs'' => fin D ys h'' tk hy (F'.change hs'' hCL hC₀) (fun p hp => ?_) hlD⟩
  refine ⟨hs''.extBut _ _ ?_ (N' p hp).1, (N' p hp).2⟩
  rcases List.mem_cons.mp hp with rfl | hp
  · exact Ne.symm hCD
  · exact offC p hp

theorem en_call {elt : Expr} {a b : Str} {scope : Scope} {cl : List (Str × Addr)} {Q : Value → Shared → Prop} {l : Addr} {its : Array Value} {news : List (Addr × Obj)} (g : Nat → Int)
    (hh : A.handled = none) (F : Fr h₀ L s.heap m) (N : News h₀ L s.heap news) (hS : SrcAt h₀ l its news) (hsz : its.size ≤ sizeLine)
    (R : ∀ h, EnTurn prog w A h₀ L m env elt a b scope cl { s with heap := h } news its g)
    (fin : ∀ (D : Addr) (ys : List Value) (h : Heap) (tk : Nat), IntsAre ys ((List.range its.size).map g) → Fr h₀ L h m → News h₀ L h ((D, lst ys) :: news) → (∀ p ∈ news, p.1 < D) → Q (.ref D) { s with heap := h, toks := tk }) :
    wpAny (model prog w) A (call (.type "enumerate") [.ref l]) (EnSrc prog w A h₀ L m env elt a b scope cl Q) E s := by
  have hL := hS.list F.keep N
  have hll : l < s.heap.objs.size := by obtain ⟨_, x, _⟩ := hL; exact Heap.lt_size x
  refine call_enumerate_list hL fun h' he hi hsize hk => ?_
  have lt : ∀ p ∈ news, p.1 < s.heap.objs.size := fun p hp => Heap.lt_size (N p hp).1
  have fresh₀ : ∀ a, s.heap.objs.size ≤ a → h₀.get? a = none := fun a ha => by
    cases e : h₀.get? a with
    | none => rfl
    | some o' => exact absurd (Heap.lt_size (F.keep a o' e)) (Nat.not_lt.mpr ha)
  have hLlt : L < s.heap.objs.size := F.ns.lt
  exact ⟨_, _, l, its, news, g, rfl, hh, hsz, hS, Nat.ne_of_lt (Nat.lt_succ_of_lt hll), Nat.ne_of_lt hll, he, hi, Nat.succ_ne_self _, fun p hp => Nat.ne_of_lt (Nat.lt_succ_of_lt (lt p hp)), fun p hp => Nat.ne_of_lt (lt p hp), fresh₀ _ (Nat.le_succ _), fresh₀ _ (Nat.le_refl _),
    Nat.ne_of_lt (Nat.lt_succ_of_lt hLlt), Nat.ne_of_lt hLlt, F.keeps hk, N.grown hk, R h', fin⟩
end

/- Ent -/
section
variable {prog : Program} {w : World} {A₀ A : Around} {s : Shared} {base h₀ : Heap} {outer : List Env} {L : Addr} {m mg mb : Str → Option Value} {env : Env} {own : List (Addr × Obj)} {K : Frag} {p : Program} {loose : List Str} {mean : ExcName → Option Value}
  {R : Result → Shared → Prop} {name qual : Str} {params : Arguments} {body : List Stmt} {scope : Scope} {dV kV doc pm cdv ct oc : Value} {an od : Option Addr} {osl : Array (Option Value)} {f : Addr} {args : Args} {binds : List (Str × Value)}

theorem own_plain (B : Below A₀ base outer h₀) (F : Fr h₀ L s.heap m) (X₀ : K.In h₀) (N : News h₀ L s.heap own) (T : Top p loose mean mg mb h₀) (hA : A.frames = some (env :: outer)) (hf : env.frame = some L) (hke : env.scope.kind = .function)
    (hk0 : K.lookup f = some ⟨oc, od, .func (fnOf name qual params body scope dV kV doc pm an cdv ct), osl⟩) (hcd : codeIn K cdv qual = true) (hroom : A.depth < recursionLimit)
    (hbind : BindsTo s (fnOf name qual params body scope dV kV doc pm an cdv ct) args binds) (hloc : ∀ y ∈ binds, scope.names.lookup y.1 = some .local)
    (h : ∀ g L' h₁, (∀ b o, s.heap.get? b = some o → b ∉ own.map (·.1) → g.get? b = some o) → Fr h₀ L g m → Fr g L' h₁ (fun y => binds.reverse.lookup y) → News g L' h₁ own → Below A base (env :: outer) g → K.In g → Top p loose mean mg mb g → (∀ p ∈ own, p.1 < L') →
      wpAny (model prog w) (A.deeper (envOf qual scope L' f cdv)) (execs body (envOf qual scope L' f cdv))
        (fun fl s' => LeaveK h₀ L m g R (match fl with | .ret v => v | _ => .none) s')
        (fun e s' => wpAny (model prog w) (A.deeper (envOf qual scope L' f cdv)) (leaving (envOf qual scope L' f cdv) e) (fun _ s'' => R (.error e) s'') (fun e' s'' => R (.error e') s'') s')
        { s with heap := h₁, toks := s.toks + binds.length })
    (hco : scope.isCoroutine = false) (hgen : scope.isGenerator = false) (hk : scope.kind = .function) (hcell : ∀ x ∈ scope.names, x.2 ≠ .cell) : codeAny (model prog w) A (.call (.ref f) args) R s := by
  obtain ⟨FG, BG, st, lv⟩ := groundX (R := R) B F N hA hf hke
  refine codeAny_call_def (fd := fnX name qual params body scope [] dV kV doc pm an cdv ct) (body := body) (binds := binds) hroom ((X₀.keeps F.keep) _ _ hk0) rfl (T.nolimit.keeps F.keep) (codeRec_of (X₀.keeps F.keep) hcd) rfl hbind hcell hloc (fun h₁ hns hk₁ => ?_) hco hgen hk
  exact wpAny_mono (h _ s.heap.objs.size h₁ (fun b o e hb => hideAll_get _ e hb) FG ⟨hns, fun b o e => hk₁ b o (of_hideAll _ e), Nat.le_of_eq (hideAll_size _ _)⟩
    (fun p hp => ⟨hk₁ _ _ (N p hp).1, Nat.ne_of_lt (Heap.lt_size (N p hp).1), hideAll_none _ (List.mem_map_of_mem hp)⟩) BG (X₀.keeps st) (T.keeps st) (fun p hp => Heap.lt_size (N p hp).1)) (fun fl s' hl => lv _ _ hl) fun _ _ y => y

theorem own_cells (B : Below A₀ base outer h₀) (F : Fr h₀ L s.heap m) (X₀ : K.In h₀) (N : News h₀ L s.heap own) (T : Top p loose mean mg mb h₀) (hA : A.frames = some (env :: outer)) (hf : env.frame = some L) (hke : env.scope.kind = .function)
    (hk0 : K.lookup f = some ⟨oc, od, .func (fnOf name qual params body scope dV kV doc pm an cdv ct), osl⟩) (hcd : codeIn K cdv qual = true) (hroom : A.depth < recursionLimit)
    (hbind : BindsTo s (fnOf name qual params body scope dV kV doc pm an cdv ct) args binds) (hkind : (binds.all fun y => scope.names.lookup y.1 == some .local || scope.names.lookup y.1 == some .cell) = true)
    (hnd : ((cellsFrom 0 scope.names []).map (·.1)).Nodup)
    (h : ∀ g L' h₁ tk cells, (∀ b o, s.heap.get? b = some o → b ∉ own.map (·.1) → g.get? b = some o) → Fr h₀ L g m → Fr g L' h₁ (bindL (envOfC qual scope L' f cdv).kindOf binds fun _ => none) → News g L' h₁ (cells ++ own) →
      CellsAre (bindC (envOfC qual scope L' f cdv).kindOf binds fun _ => none) (cellsFrom (L' + 1) scope.names []) cells → Below A base (env :: outer) g → K.In g → Top p loose mean mg mb g → (∀ p ∈ own, p.1 < L') →
      wpAny (model prog w) (A.deeper (envOfC qual scope L' f cdv)) (execs body (envOfC qual scope L' f cdv))
        (fun fl s' => LeaveK h₀ L m g R (match fl with | .ret v => v | _ => .none) s')
        (fun e s' => wpAny (model prog w) (A.deeper (envOfC qual scope L' f cdv)) (leaving (envOfC qual scope L' f cdv) e) (fun _ s'' => R (.error e) s'') (fun e' s'' => R (.error e') s'') s')
        { s with heap := h₁, toks := tk })
    (hco : scope.isCoroutine = false) (hgen : scope.isGenerator = false) (hk : scope.kind = .function) : codeAny (model prog w) A (.call (.ref f) args) R s := by
  obtain ⟨FG, BG, st, lv⟩ := groundX (R := R) B F N hA hf hke
  have hlim := T.nolimit
  have hcd' := codeRec_of (X₀.keeps F.keep) hcd
  have ho := (X₀.keeps F.keep) _ _ hk0
  refine codeAny_call_function hroom ho rfl hco hgen rfl hcd' (hbind _ _ _ _ ?_)
  refine wpAny_newFunctionEnv_cells hk (kindsX hkind _) fun env' he s' x => ?_
  subst he
  refine ⟨(hlim.keeps F.keep).keeps x.toInCall.keep, codeAny_func ?_⟩
  obtain ⟨h₁, tk, rfl, _⟩ := x.done
  have hk₁ := x.toInCall.keep
  obtain ⟨cells, NC, Y⟩ := Cl.news (h₀ := s.heap) (Nat.le_refl _) fun n c hm => ⟨x.cell n c (lookup_of_mem_nodup (cellsFrom_names scope.names 0 (s.heap.objs.size + 1) [] [] rfl ▸ hnd) hm), x.above n c hm⟩
  refine wpAny_mono (h _ s.heap.objs.size h₁ tk cells (fun b o e hb => hideAll_get _ e hb) FG ⟨x.toInCall.ns, fun b o e => hk₁ b o (of_hideAll _ e), Nat.le_of_eq (hideAll_size _ _)⟩ (fun p hp => ?_) Y BG (X₀.keeps st) (T.keeps st) (fun p hp => Heap.lt_size (N p hp).1)) (fun fl s' hl => lv _ _ hl) fun _ _ y => y
  rcases List.mem_append.mp hp with hp | hp
  · refine ⟨(NC p hp).1, (NC p hp).2.1, ?_⟩
    cases q : (hideAll s.heap (own.map (·.1))).get? p.1 with
    | none => rfl
    | some o => have := of_hideAll _ q; rw [(NC p hp).2.2] at this; cases this
  · exact ⟨hk₁ _ _ (N p hp).1, Nat.ne_of_lt (Heap.lt_size (N p hp).1), hideAll_none _ (List.mem_map_of_mem hp)⟩

/-- what the ground keeps, the caller's ledger keeps -/
theorem keeps_all {g h' : Heap} {L' : Addr} {m' : Str → Option Value} (hg : ∀ b o, s.heap.get? b = some o → b ∉ ([] : List (Addr × Obj)).map (·.1) → g.get? b = some o) (F : Fr g L' h' m') :
    ∀ nw, News h₀ L s.heap nw → News h₀ L h' nw := fun _ N p hp => ⟨F.keep _ _ (hg _ _ (N p hp).1 List.not_mem_nil), (N p hp).2⟩
theorem keeps_but {g h' : Heap} {L' : Addr} {m' : Str → Option Value} (hg : ∀ b o, s.heap.get? b = some o → b ∉ own.map (·.1) → g.get? b = some o) (F : Fr g L' h' m') :
    ∀ nw, News h₀ L s.heap nw → (∀ p ∈ nw, p.1 ∉ own.map (·.1)) → News h₀ L h' nw := fun _ N off p hp => ⟨F.keep _ _ (hg _ _ (N p hp).1 (off p hp)), (N p hp).2⟩
end

/-- a call's claim: own is the part of the ledger that the call may turn, Pre what it asks of the heap -/
abbrev Clo (w : World) (f : Addr) (k : Nat) (own : List (Addr × Obj)) (Pre : Heap → Prop) (vs : List Value) (Ret : Heap → Addr → (Str → Option Value) → Shared → (Value → Shared → Prop) → (Value → Shared → Prop) → Prop) : Prop :=
  ∀ (dp un : Nat) (gd : Option (List Code)) (cn : Str) (cs : Scope) (a : Addr) (ccd : Value) (cl : List (Str × Addr)) (outer : List Env) (A₀ : Around) (base h₀ : Heap) (L : Addr) (m : Str → Option Value) (s : Shared) (Q E : Value → Shared → Prop)
    (p : Program) (loose : List Str) (mean : ExcName → Option Value) (mg mb : Str → Option Value),
    Below A₀ base outer h₀ → Fr h₀ L s.heap m → (KF w.params).In h₀ → News h₀ L s.heap own → Pre s.heap → Top p loose mean mg mb h₀ → cs.kind = .function → dp + k < recursionLimit → un + 8 * k < cLine →
      Ret h₀ L m s Q E → wpAny (model PySem.Challenge.rw_pc0193_01.row.prog w) (ktrTop dp un gd cn cs L a ccd cl outer) (call (.ref f) vs) Q E s
section
variable {w : World} {f : Addr} {k : Nat} {own : List (Addr × Obj)} {Pre : Heap → Prop} {vs : List Value} {Ret : Heap → Addr → (Str → Option Value) → Shared → (Value → Shared → Prop) → (Value → Shared → Prop) → Prop}
  {dp un : Nat} {gd : Option (List Code)} {cn : Str} {cs : Scope} {a : Addr} {ccd : Value} {cl : List (Str × Addr)} {outer : List Env} {A₀ : Around} {base h₀ : Heap} {L : Addr} {m : Str → Option Value} {s : Shared} {Q E : Value → Shared → Prop}
    {p : Program} {loose : List Str} {mean : ExcName → Option Value} {mg mb : Str → Option Value}
theorem clo_use (C : Clo w f k own Pre vs Ret) (B : Below A₀ base outer h₀) (F : Fr h₀ L s.heap m) (X : (KF w.params).In h₀) (N : News h₀ L s.heap own) (hP : Pre s.heap) (T : Top p loose mean mg mb h₀) (hcs : cs.kind = .function) (hdp : dp + k < recursionLimit) (hun : un + 8 * k < cLine)
    (r : Ret h₀ L m s Q E) : wpAny (model PySem.Challenge.rw_pc0193_01.row.prog w) (ktrTop dp un gd cn cs L a ccd cl outer) (call (.ref f) vs) Q E s :=
  C _ _ _ _ _ _ _ _ _ _ _ _ _ _ _ _ _ _ _ _ _ _ B F X N hP T hcs hdp hun r
end
/-- it hands back R and leaves every ledger as it was -/
abbrev RetA (R : Tok → Value) : Heap → Addr → (Str → Option Value) → Shared → (Value → Shared → Prop) → (Value → Shared → Prop) → Prop :=
  fun h₀ L m s Q _ => ∀ (t : Tok) (h' : Heap) (tk' : Nat), Fr h₀ L h' m → (∀ nw, News h₀ L s.heap nw → News h₀ L h' nw) → Q (R t) { s with heap := h', toks := tk' }
theorem no_news {h₀ h : Heap} {L : Addr} : News h₀ L h [] := fun _ hp => nomatch hp
theorem list_at {h₀ h : Heap} {L q : Addr} {news : List (Addr × Obj)} {xs : Array Value} {c : Nat} (N : News h₀ L h news) (hm : (q, W.listOf xs c) ∈ news) : h.IsList q xs := ⟨_, (N _ hm).1, rfl, _, rfl⟩
theorem lst_at {h₀ h : Heap} {L q : Addr} {news : List (Addr × Obj)} {ys : List Value} (N : News h₀ L h news) (hm : (q, LCg.lst ys) ∈ news) : h.IsList q ys.toArray := ⟨_, (N _ hm).1, rfl, _, rfl⟩
theorem News.tail1 {h₀ h : Heap} {L : Addr} {p : Addr × Obj} {news : List (Addr × Obj)} (N : News h₀ L h (p :: news)) : News h₀ L h news := fun q hq => N q (.tail _ hq)
local macro_rules | `(tactic| walk_at "my list") => `(tactic| ((with_reducible rename News _ _ _ _ => lN8); (try dsimp only); first | ((have z8 := list_at lN8 List.mem_cons_self); with_reducible exact z8) | ((have z8 := lst_at lN8 List.mem_cons_self); with_reducible exact z8) | ((replace lN8 := News.tail1 lN8); walk_at "my list")))

section
variable {w : World} {f : Addr} {k : Nat} {own : List (Addr × Obj)} {Pre : Heap → Prop} {vs : List Value} {Ret : Heap → Addr → (Str → Option Value) → Shared → (Value → Shared → Prop) → (Value → Shared → Prop) → Prop}
  {dp un : Nat} {gd : Option (List Code)} {cn : Str} {cs : Scope} {a : Addr} {ccd : Value} {cl : List (Str × Addr)} {outer : List Env} {A₀ : Around} {base h₀ : Heap} {L : Addr} {m : Str → Option Value} {s : Shared} {Q E : Value → Shared → Prop}
    {p : Program} {loose : List Str} {mean : ExcName → Option Value} {mg mb : Str → Option Value}
theorem clo_useI (F : Fr h₀ L s.heap m) (X : (KF w.params).In h₀) (B : Below A₀ base outer h₀) (N : News h₀ L s.heap own) (hP : Pre s.heap) (C : Clo w f k own Pre vs Ret) (T : Top p loose mean mg mb h₀) (hcs : cs.kind = .function) (hdp : dp + k < recursionLimit) (hun : un + 8 * k < cLine)
    (r : Ret h₀ L m s Q E) : wpAny (model PySem.Challenge.rw_pc0193_01.row.prog w) (ktrTop dp un gd cn cs L a ccd cl outer) (call (.ref f) vs) Q E s := clo_use C B F X N hP T hcs hdp hun r
end
/- G5 -/

theorem retA_b {h₀ h' : Heap} {L : Addr} {m : Str → Option Value} {s : Shared} {Q : Value → Shared → Prop} {tk' : Nat} {b : Bool}
    (hret : ∀ (t : Tok) (h' : Heap) (tk' : Nat), Fr h₀ L h' m → (∀ nw, News h₀ L s.heap nw → News h₀ L h' nw) → Q ((fun _ => .bool true) t) { s with heap := h', toks := tk' }) (e : b = true) (F : Fr h₀ L h' m) (kp : ∀ nw, News h₀ L s.heap nw → News h₀ L h' nw) :
    Q (.bool b) { s with heap := h', toks := tk' } := by subst e; exact hret 0 h' tk' F kp
theorem retA_i {h₀ h' : Heap} {L : Addr} {m : Str → Option Value} {s : Shared} {Q : Value → Shared → Prop} {tk' : Nat} {x y : Int} {t : Tok}
    (hret : ∀ (t : Tok) (h' : Heap) (tk' : Nat), Fr h₀ L h' m → (∀ nw, News h₀ L s.heap nw → News h₀ L h' nw) → Q ((fun t => .int x t) t) { s with heap := h', toks := tk' }) (e : y = x) (F : Fr h₀ L h' m) (kp : ∀ nw, News h₀ L s.heap nw → News h₀ L h' nw) :
    Q (.int y t) { s with heap := h', toks := tk' } := by subst e; exact hret t h' tk' F kp
/-- the number that a row of digits says -/
noncomputable def num : List Int → Int
  | [] => 0
  | b :: r => b + 2 * num r
theorem num_range : ∀ ns : List Int, (∀ x ∈ ns, 0 ≤ x ∧ x ≤ 1) → 0 ≤ num ns ∧ num ns < 2 ^ ns.length
  | [], _ => ⟨by decide, by decide⟩
  | b :: r, h => by
    have h1 := num_range r fun x hx => h x (.tail _ hx)
    have h2 := h b (.head _)
    rw [List.length_cons, Int.pow_succ]
    unfold num
    omega
theorem num_sum : ∀ (ns : List Int) (c : Nat), ((List.range ns.length).map fun i => ns.getD i 0 * 2 ^ (i + c)).sum = 2 ^ c * num ns
  | [], c => by simp [num]
  | b :: r, c => by
    have ih := num_sum r (c + 1)
    rw [List.length_cons, List.range_succ_eq_map, List.map_cons, List.map_map, List.sum_cons]
    have e : (List.map ((fun i => (b :: r).getD i 0 * 2 ^ (i + c)) ∘ Nat.succ) (List.range r.length)) = List.map (fun i => r.getD i 0 * 2 ^ (i + (c + 1))) (List.range r.length) := by
      refine List.map_congr_left fun i _ => ?_
      show (b :: r).getD (i + 1) 0 * 2 ^ (i + 1 + c) = _
      rw [List.getD_cons_succ, show i + 1 + c = i + (c + 1) by omega]
    rw [e, ih, List.getD_cons_zero, Nat.zero_add, Int.pow_succ]
    rw [show num (b :: r) = b + 2 * num r from rfl, Int.mul_add, Int.mul_comm b, Int.mul_assoc]
theorem getD_at {ns : List Int} {i : Nat} {x : Int} (h : ns[i]? = some x) : ns.getD i 0 = x := by rw [List.getD_eq_getElem?_getD, h]; rfl
section
open PyProof.Rows.LCg
variable {prog : Program} {w : World} {A : Around} {E : Value → Shared → Prop} {s : Shared} {h₀ : Heap} {L : Addr} {m : Str → Option Value} {env : Env}
theorem en_num {elt : Expr} {a b : Str} {scope : Scope} {cl : List (Str × Addr)} {Q : Value → Shared → Prop} {l : Addr} {ys : List Value} {ns : List Int} {news : List (Addr × Obj)} (hI : IntsAre ys ns) (hL : ns.length ≤ 64) (h01 : ∀ x ∈ ns, 0 ≤ x ∧ x ≤ 1)
    (hh : A.handled = none) (F : Fr h₀ L s.heap m) (N : News h₀ L s.heap news) (hS : SrcAt h₀ l ys.toArray news)
    (R : ∀ (h9 : Heap) (i : Nat) (x : Int) (t t' : Tok) (e it C D : Addr) (oe oi oC : Obj) (ys' : List Value) (m₂ : Str → Option Value) (h : Heap) (tk : Nat) (E' : Value → Shared → Prop), i < 64 → 0 ≤ x → x ≤ 1 → NsObj oC m₂ → m₂ a = some (.int i t) → m₂ b = some (.int x t') →
      Fr h₀ L h m → News h₀ L h ((e, oe) :: (it, oi) :: (C, oC) :: (D, lst ys') :: news) →
      wpAny (model prog w) A (eval elt (compEnvC scope cl C env)) (EnEnd h₀ L m { { s with heap := h9 } with heap := h, toks := tk } ((e, oe) :: (it, oi) :: (C, oC) :: (D, lst ys') :: news) (x * 2 ^ i)) E' { { s with heap := h9 } with heap := h, toks := tk })
    (fin : ∀ (D : Addr) (ys' : List Value) (zs : List Int) (h : Heap) (tk : Nat), IntsAre ys' zs → zs.length ≤ 64 → Builtin.Int.intBits zs.sum ≤ 1000 → zs.sum = num ns → Fr h₀ L h m → News h₀ L h ((D, lst ys') :: news) → (∀ p ∈ news, p.1 < D) → Q (.ref D) { s with heap := h, toks := tk }) :
    wpAny (model prog w) A (call (.type "enumerate") [.ref l]) (EnSrc prog w A h₀ L m env elt a b scope cl Q) E s := by
  have hlen := hI.length
  refine en_call (its := ys.toArray) (fun i => ns.getD i 0 * 2 ^ i) hh F N hS (by rw [List.size_toArray, PySem.sizeLine_eq]; omega) (fun h9 => ?_) fun D ys' h tk hI' F' N' lt => ?_
  · intro i x t e it C D oe oi oC ys' m₂ h tk E' hx hC ha hb F' N'
    have hx' : ys[i]? = some x := by simpa using hx
    obtain ⟨z, t', e1, hz⟩ := IntsAre.at hI i x (by simpa using hx')
    have hz' := h01 z (List.mem_of_getElem? hz)
    have hi : i < ns.length := (List.getElem?_eq_some_iff.mp hz).1
    have := R h9 i z t t' e it C D oe oi oC ys' m₂ h tk E' (by omega) hz'.1 hz'.2 hC ha (e1 ▸ hb) F' N'
    rw [← getD_at hz] at this
    exact this
  · have es : ((List.range ys.toArray.size).map fun i => ns.getD i 0 * 2 ^ i).sum = num ns := by
      have := num_sum ns 0
      rw [List.size_toArray, hlen]
      simpa using this
    have hr := num_range ns h01
    have hp : (2 : Int) ^ ns.length ≤ 2 ^ 64 := by
      rw [pow_split hL]
      have h1 := two_pos (64 - ns.length)
      have h2 := two_pos ns.length
      have h3 := Int.mul_le_mul_of_nonneg_right (show (1 : Int) ≤ 2 ^ (64 - ns.length) by omega) (Int.le_of_lt h2)
      omega
    refine fin D ys' _ h tk hI' (by rw [List.length_map, List.length_range, List.size_toArray]; omega) ?_ es F' N' lt
    rw [es]
    refine Nat.le_trans (intBits_le (k := 64) ?_) (by decide)
    have : (2 : Int) ^ 64 = 18446744073709551616 := by decide
    have : (2 : Nat) ^ 64 = 18446744073709551616 := by decide
    omega
end
theorem law_number_c {w : World} (k : Str) (t : Tok) (hk : Kind k) (b : Addr) (ys : List Value) (ns : List Int) (hI : IntsAre ys ns) (hL : ns.length ≤ 64) (h01 : ∀ x ∈ ns, 0 ≤ x ∧ x ≤ 1) : Clo w 282 5 [] (fun h => h.IsList b ys.toArray) [.str k t, .ref b] (RetA fun t => .int (wr k (num ns)) t) := by
  unfold Clo RetA
  k_fill
  intro dp un gd cn cs a ccd cl outer A₀ base h₀ L m s Q E p loose mean mg mb B F X N hP T hcs hdp hun hret
  have hl := klen k hk
  have hb := kbig k hk
  have hw := kw_le k hk
  refine wpAny_call ?_
  k_dflt (refine' own_plain ?k1 ?k2 ?k3 ?k4 ?k5 ?kA ?kF ?kK ?k6 ?k7 ?k8 ?k9 ?kB ?_ ?c2 ?c3 ?c4 ?c5; (case kA => exact rfl); (case kF => exact rfl); (case kK => assumption); (case k1 => k_asm); (case k2 => k_asm); (case k3 => k_asm); (case k4 => exact N); (case k5 => k_asm); (case k6 => k_is); (case k7 => k_is); (case k8 => ktr_room); (case k9 => exact BindsTo.of_eq rfl); (case c5 => decide); (case kB => exact locs rfl); (case c2 => exact rfl); (case c3 => exact rfl); (case c4 => exact rfl); k_whole)
  intro g' L' h' hg' FG' F' N' B' X' T' l1
  (try k_lt l1)
  have hbL : g'.IsList b ys.toArray := hP.at fun o e => hg' b o e List.not_mem_nil
  (try dsimp only)
  (try k_lift B')
  (try k_fold)
  repeat' (first
      | (k_unfold; (try dsimp only))
      | (k_end; kc_close)
      | ((with_reducible show wpAny _ _ (call (Value.ref _) _) _ _ _); first
        | (with_reducible ((with_reducible show wpAny _ _ (call (Value.ref 258) _) _ _ _); k_here; k_dflt (refine' clm_use (law_round_c _ _ (by assumption) _ _ (by assumption)) (by k_asm) (by k_asm) (by k_asm) (by k_asm) (by k_asm) (by first | exact rfl | assumption) (by ktr_room) (by ktr_units) ?_; k_whole); intro u'z h'z tk'z F'z N'z; (try dsimp only); (try k_fold); (try k_sweep)))
        | fail)
      | (with_reducible ((with_reducible show wpAny _ _ (call (Value.type "enumerate") _) _ _ _); k_here; (rename IntsAre _ _ => hI9z); k_dflt (refine en_num hI9z (by assumption) (by assumption) (by rfl) (by k_asm) (by k_asm) (Or.inl (by assumption)) ?_ ?_); (intro h9'z i'z x'z t1'z t2'z e'z it'z C'z D'z oe'z oi'z oC'z ys'z m'z h'z tk'z E'z hi'z hx0'z hx1'z hC'z ha'z hb'z F'z N'z); (try dsimp only); rotate_left; (intro D'z ys'z zs'z h'z tk'z hI'z hL'z hB'z hS'z F'z N'z l1'z); (try dsimp only); rotate_left))
      | (with_reducible ((with_reducible show wpAny _ _ (eval (Expr.ListComp _ [⟨Expr.Tuple [Expr.Name _ _, Expr.Name _ _] _ _, Expr.Call (Expr.Name (Str.ofString "enumerate") _) _ _ _, [], 0⟩] _ _) _) _ _ _); k_here; k_dflt (refine en_ListComp (by k_asm) (by rfl) (by decide) (by rfl) (by decide) (by rfl) (by rfl) (by decide) ?_)))
      | walk1
      | (dsimp only; walk1)
      | (leave1; walk_say "STEP leave1"; (try dsimp only))
      | fail "no step")
  · exact ⟨_, _, _, rfl, rfl, by k_asm, by k_asm⟩
  · refine retA_i hret ?_ (by k_asm) (keeps_all hg' (by k_asm))
    rename (List.sum _ = num _) => hS
    rw [hS]

theorem in_bits {k : Str} {x : Int} (hk : Kind k) (h : lo k ≤ x ∧ x ≤ hi k) : Builtin.Int.intBits x ≤ 64 := by
  refine intBits_le ?_
  have hw := kw_le k hk
  have hlo := lo_bits k hk
  have hhi := hi_bits k hk
  have a := PyProof.Rows.lt_pow_of_bits hlo (Nat.le_refl _)
  have b := PyProof.Rows.lt_pow_of_bits hhi (Nat.le_refl _)
  omega

/- G6 -/

theorem opf_add (a b : Int) : opf (Str.ofString "+") a b = a + b := by unfold opf; rw [if_pos (by decide +kernel)]
theorem opf_sub (a b : Int) : opf (Str.ofString "-") a b = a - b := by unfold opf; rw [if_neg (by decide +kernel), if_pos (by decide +kernel)]
theorem opf_mul (a b : Int) : opf (Str.ofString "*") a b = a * b := by unfold opf; rw [if_neg (by decide +kernel), if_neg (by decide +kernel)]
theorem nfit (l r d : Int) : (!decide (l ≤ d ∧ d ≤ r)) = (decide (d < l) || decide (r < d)) := by
  by_cases h1 : d < l <;> by_cases h2 : r < d <;> simp [h1, h2] <;> omega
section
variable {prog : Program} {w : World} {A : Around} {E : Value → Shared → Prop} {Q : Value → Shared → Prop} {s : Shared} {env : Env} {h₀ : Heap} {L : Addr} {news : List (Addr × Obj)}
theorem due_or {d l r : Int} {td tl tr : Tok} {x y z : Str} {px py pz px' p1 p2 pos : Pos} (hd : ∀ (pp : Pos) (Q E : Value → Shared → Prop), Q (.int d td) s → wpAny (model prog w) A (eval (.Name x pp) env) Q E s)
    (hl : ∀ (Q E : Value → Shared → Prop), Q (.int l tl) s → wpAny (model prog w) A (eval (.Name y py) env) Q E s) (hr : ∀ (Q E : Value → Shared → Prop), Q (.int r tr) s → wpAny (model prog w) A (eval (.Name z pz) env) Q E s)
    (h : Q (.bool (decide (d < l) || decide (r < d))) s) : wpAny (model prog w) A (eval (.BoolOp .Or [.Compare (.Name x px) [.Lt] [.Name y py] p1, .Compare (.Name x px') [.Gt] [.Name z pz] p2] pos) env) Q E s := by
  refine BoolOp_or (wpAny_Compare1 (hd _ _ _ (hl _ _ (PyProof.Rows.lt_int ?_))))
  refine wpAny_truthy_bool ?_
  by_cases h1 : d < l
  · simp only [h1, decide_true, Bool.true_or] at h
    simp only [h1, decide_true]
    exact h
  · simp only [h1, decide_false, Bool.false_or] at h
    simp only [h1, decide_false]
    exact BoolOp_one (wpAny_Compare1 (hd _ _ _ (hr _ _ (PyProof.Rows.gt_int h))))
theorem ne_pair {a b : Addr} {x y : Int} {p q : Bool} {t u : Tok} (N : News h₀ L s.heap news) (ha : (a, ({ cls := .type "tuple", data := .seq #[.int x t, .bool p] 0 } : Obj)) ∈ news) (hb : (b, ({ cls := .type "tuple", data := .seq #[.int y u, .bool q] 0 } : Obj)) ∈ news)
    (hu : A.units + 64 < cLine) (e1 : x = y) (e2 : p = q) (h : Q (.bool false) s) : wpAny (model prog w) A (compareOp .NotEq (.ref a) (.ref b)) Q E s := by
  subst e1 e2
  refine ne_dataH (reads_tuple_at (News.get N ha) rfl rfl (.cons (.int _ _) (.cons (.bool _) .nil))) (reads_tuple_at (News.get N hb) rfl rfl (.cons (.int _ _) (.cons (.bool _) .nil))) rfl rfl hu ?_
  simpa [PyData.eqv, PyData.eqvAll] using h
end
local macro_rules | `(tactic| units_room) => `(tactic| ktr_units)
theorem law_sums_right_c {w : World} (k : Str) (t : Tok) (hk : Kind k) (one : Int) (t1 : Tok) (h1 : lo k ≤ one ∧ one ≤ hi k) (other : Int) (t2 : Tok) (h2 : lo k ≤ other ∧ other ≤ hi k) : Clo w 289 16 [] (fun _ => True) [.str k t, .int one t1, .int other t2] (RetA fun _ => .bool true) := by
  unfold Clo RetA
  k_fill
  intro dp un gd cn cs a ccd cl outer A₀ base h₀ L m s Q E p loose mean mg mb B F X N hP T hcs hdp hun hret
  have hl := klen k hk
  have hb := kbig k hk
  have hw := kw_le k hk
  have hb1 := in_bits hk h1
  have hb2 := in_bits hk h2
  have hc1 : Builtin.Int.intBits one ≤ 500 := by omega
  have hc2 : Builtin.Int.intBits other ≤ 500 := by omega
  have hd0 : Builtin.Int.intBits (-one) ≤ 1000 := Nat.le_trans (PyProof.Rows.bits_neg hb1) (by decide)
  have hd1 : Builtin.Int.intBits (one + other) ≤ 1000 := Nat.le_trans (PyProof.Rows.bits_add hb1 hb2) (by decide)
  have hd2 : Builtin.Int.intBits (one - other) ≤ 1000 := Nat.le_trans (PyProof.Rows.bits_sub hb1 hb2) (by decide)
  have hd3 : Builtin.Int.intBits (one * other) ≤ 1000 := Nat.le_trans (PyProof.Rows.bits_mul hb1 hb2) (by decide)
  refine wpAny_call ?_
  k_dflt (refine' own_plain ?k1 ?k2 ?k3 ?k4 ?k5 ?kA ?kF ?kK ?k6 ?k7 ?k8 ?k9 ?kB ?_ ?c2 ?c3 ?c4 ?c5; (case kA => exact rfl); (case kF => exact rfl); (case kK => assumption); (case k1 => k_asm); (case k2 => k_asm); (case k3 => k_asm); (case k4 => exact N); (case k5 => k_asm); (case k6 => k_is); (case k7 => k_is); (case k8 => ktr_room); (case k9 => exact BindsTo.of_eq rfl); (case c5 => decide); (case kB => exact locs rfl); (case c2 => exact rfl); (case c3 => exact rfl); (case c4 => exact rfl); k_whole)
  intro g' L' h' hg' FG' F' N' B' X' T' l1
  (try k_lt l1)
  (try dsimp only)
  (try k_lift B')
  (try k_fold)
  repeat' (first
      | (k_unfold; (try dsimp only))
      | (k_end; kc_close)
      | ((with_reducible show wpAny _ _ (call (Value.ref _) _) _ _ _); first
        | (with_reducible ((with_reducible show wpAny _ _ (call (Value.ref 153) _) _ _ _); k_here; k_dflt (refine' clm_use (checked_c _ _ (by assumption) _ _ _ _ _ _ (by assumption) (by assumption)) (by k_asm) (by k_asm) (by k_asm) (by k_asm) (by k_asm) (by first | exact rfl | assumption) (by ktr_room) (by ktr_units) ?_; k_whole); intro q'z t1'z h'z tk'z F'z N'z l1'z; (try k_lt l1'z); (try dsimp only); (try k_fold); (try k_sweep)))
        | (with_reducible ((with_reducible show wpAny _ _ (call (Value.ref 160) _) _ _ _); k_here; k_dflt (refine' clm_use (negated_c _ _ (by assumption) _ _) (by k_asm) (by k_asm) (by k_asm) (by k_asm) (by k_asm) (by first | exact rfl | assumption) (by ktr_room) (by ktr_units) ?_; k_whole); intro u'z h'z tk'z F'z N'z; (try dsimp only); (try k_fold); (try k_sweep)))
        | (with_reducible ((with_reducible show wpAny _ _ (call (Value.ref 258) _) _ _ _); k_here; k_dflt (refine' clm_use (law_round_c _ _ (by assumption) _ _ (by assumption)) (by k_asm) (by k_asm) (by k_asm) (by k_asm) (by k_asm) (by first | exact rfl | assumption) (by ktr_room) (by ktr_units) ?_; k_whole); intro u'z h'z tk'z F'z N'z; (try dsimp only); (try k_fold); (try k_sweep)))
        | (with_reducible ((with_reducible show wpAny _ _ (call (Value.ref 251) _) _ _ _); k_here; k_dflt (refine' clm_use (law_ends_c _ _ (by assumption)) (by k_asm) (by k_asm) (by k_asm) (by k_asm) (by k_asm) (by first | exact rfl | assumption) (by ktr_room) (by ktr_units) ?_; k_whole); intro q'z t1'z t2'z h'z tk'z F'z N'z l1'z; (try k_lt l1'z); (try dsimp only); (try k_fold); (try k_sweep)))
        | fail)
      | (with_reducible ((with_reducible show wpAny _ _ (compareOp CmpOp.NotEq (Value.ref _) (Value.ref _)) _ _ _); k_here; k_dflt (refine ne_pair (by k_asm) (by k_mem) (by k_mem) (by units_room) (by first | rw [opf_add] | rw [opf_sub] | rw [opf_mul]) (by first | (rw [opf_add]; exact nfit _ _ _) | (rw [opf_sub]; exact nfit _ _ _) | (rw [opf_mul]; exact nfit _ _ _)) ?_)))
      | (with_reducible ((with_reducible show wpAny _ _ (eval (Expr.BoolOp BoolOp.Or [Expr.Compare (Expr.Name (Str.ofString "due") _) [CmpOp.Lt] [_] _, Expr.Compare _ [CmpOp.Gt] [_] _] _) _) _ _ _); k_here; (with_reducible rename Fr _ _ _ _ => lF9z); k_dflt (refine due_or (fun _ _ _ h => ld lF9z (by exact rfl) h) (fun _ _ h => ld lF9z (by exact rfl) h) (fun _ _ h => ld lF9z (by exact rfl) h) ?_)))
      | walk1
      | (dsimp only; walk1)
      | (leave1; walk_say "STEP leave1"; (try dsimp only))
      | fail "no step")
  refine retA_b hret ?_ (by k_asm) (keeps_all hg' (by k_asm))
  rw [Int.zero_sub]; exact beq_self_eq_true _

/- G7 -/

/-- how many bits are set -/
noncomputable def popN : Nat → Nat
  | 0 => 0
  | n + 1 => (n + 1) % 2 + popN ((n + 1) / 2)
theorem popN_step (n : Nat) (h : 0 < n) : popN n = n % 2 + popN (n / 2) := by
  cases n with
  | zero => exact absurd h (Nat.lt_irrefl _)
  | succ n => rw [popN]
theorem pop_turn {x c d : Int} (h : 0 < x) (e : c + popN x.toNat = d) : 0 ≤ x.fdiv 2 ∧ (c + x.fmod 2) + popN (x.fdiv 2).toNat = d := by
  rw [fdiv_pos (by decide), fmod_pos (by decide)]
  refine ⟨by omega, ?_⟩
  rw [popN_step x.toNat (by omega)] at e
  rw [show (x / 2).toNat = x.toNat / 2 by omega]
  omega
theorem pop_less {x : Int} (h : 0 < x) : (x.fdiv 2).toNat < x.toNat := by
  rw [fdiv_pos (by decide)]; omega
theorem pop_end {x c d : Int} (h : 0 ≤ x) (h' : ¬ 0 < x) (e : c + popN x.toNat = 0 + d) : c = d := by
  obtain rfl : x = 0 := by omega
  simp [popN] at e
  exact e
noncomputable def W2End (h₀ : Heap) (L : Addr) (s : Shared) (a b : Str) (P : Int → Int → Prop) (μ : Int → Int → Nat) (x c : Int) (f : Flow) (s₃ : Shared) : Prop :=
  f = .next ∧ ∃ (h' : Heap) (tk : Nat) (m' : Str → Option Value) (x' c' : Int) (t1 t2 : Tok), s₃ = { s with heap := h', toks := tk } ∧ Fr h₀ L h' m' ∧ m' a = some (.int x' t1) ∧ m' b = some (.int c' t2) ∧ P x' c' ∧ μ x' c' < μ x c
section
variable {prog : Program} {w : World} {A : Around} {E : Value → Shared → Prop} {Q : Flow → Shared → Prop} {s : Shared} {env : Env} {h₀ : Heap} {L : Addr}
theorem while2 {test : Expr} {body : List Stmt} {pos : Pos} {m : Str → Option Value} (a b : Str) (P : Int → Int → Prop) (μ : Int → Int → Nat) {x₀ c₀ : Int} {t1 t2 : Tok}
    (F : Fr h₀ L s.heap m) (ha : m a = some (.int x₀ t1)) (hb : m b = some (.int c₀ t2)) (hP : P x₀ c₀)
    (turn : ∀ (x c : Int) (t1 t2 : Tok) (m₁ : Str → Option Value) (h : Heap) (tk : Nat), P x c → Fr h₀ L h (fun z => if z = a then some (.int x t1) else if z = b then some (.int c t2) else m₁ z) → News h₀ L h [] →
      wpAny (model prog w) A (isTrue test env (eval test env)) (fun bb s₂ => if bb = true then wpAny (model prog w) A (execs body env) (W2End h₀ L s a b P μ x c) E s₂ else Q .next s₂) E { s with heap := h, toks := tk })
    (hE : PassesOwn (model prog w) A env E := by passes_own) : wpAny (model prog w) A (exec (.While test body [] pos) env) Q E s := by
  refine While_inv2 (fun n m nx => nx = [] ∧ ∃ (x c : Int) (t1 t2 : Tok), μ x c = n ∧ P x c ∧ m a = some (.int x t1) ∧ m b = some (.int c t2)) F no_news ⟨rfl, x₀, c₀, t1, t2, rfl, hP, ha, hb⟩ ?_ hE
  rintro n m₁ nx h tk F₁ N₁ ⟨rfl, x, c, t1, t2, rfl, hp, h1, h2⟩
  have em : (fun z => if z = a then some (.int x t1) else if z = b then some (.int c t2) else m₁ z) = m₁ := by
    funext z
    by_cases z1 : z = a
    · subst z1; simp [h1]
    · by_cases z2 : z = b
      · subst z2; simp [z1, h2]
      · simp [z1, z2]
  refine wpAny_mono (turn x c t1 t2 m₁ h tk hp (em.symm ▸ F₁) N₁) (fun bb s₂ p => ?_) fun _ _ x => x
  cases bb with
  | false => simpa using p
  | true =>
    simp only [if_true] at p ⊢
    refine wpAny_mono p (fun f s₃ q => ?_) fun _ _ x => x
    obtain ⟨rfl, h', tk', m', x', c', u1, u2, rfl, F', e1, e2, hp', hm⟩ := q
    exact ⟨h', tk', m', [], μ x' c', rfl, F', no_news, hm, rfl, x', c', u1, u2, rfl, hp', e1, e2⟩
theorem ones_while {test : Expr} {body : List Stmt} {pos : Pos} {m : Str → Option Value} {x₀ c₀ : Int} {t1 t2 : Tok}
    (F : Fr h₀ L s.heap m) (ha : m (Str.ofString "left") = some (.int x₀ t1)) (hb : m (Str.ofString "many") = some (.int c₀ t2)) (hP : 0 ≤ x₀)
    (turn : ∀ (x c : Int) (t1 t2 : Tok) (m₁ : Str → Option Value) (h : Heap) (tk : Nat), 0 ≤ x → c + popN x.toNat = c₀ + popN x₀.toNat → Fr h₀ L h (fun z => if z = Str.ofString "left" then some (.int x t1) else if z = Str.ofString "many" then some (.int c t2) else m₁ z) → News h₀ L h [] →
      wpAny (model prog w) A (isTrue test env (eval test env)) (fun bb s₂ => if bb = true then wpAny (model prog w) A (execs body env) (W2End h₀ L s (Str.ofString "left") (Str.ofString "many") (fun x c => 0 ≤ x ∧ c + popN x.toNat = c₀ + popN x₀.toNat) (fun x _ => x.toNat) x c) E s₂ else Q .next s₂) E { s with heap := h, toks := tk })
    (hE : PassesOwn (model prog w) A env E := by passes_own) : wpAny (model prog w) A (exec (.While test body [] pos) env) Q E s :=
  while2 _ _ _ _ F ha hb ⟨hP, rfl⟩ (fun x c t1 t2 m₁ h tk hp F' N' => turn x c t1 t2 m₁ h tk hp.1 hp.2 F' N') hE
end
theorem ones_in_c {w : World} (k : Str) (t : Tok) (hk : Kind k) (n : Int) (t' : Tok) : Clo w 209 3 [] (fun _ => True) [.str k t, .int n t'] (RetA fun t => .int (popN (n % 2 ^ kw k).toNat) t) := by
  unfold Clo RetA
  k_fill
  intro dp un gd cn cs a ccd cl outer A₀ base h₀ L m s Q E p loose mean mg mb B F X N hP T hcs hdp hun hret
  have hl := klen k hk
  have hb := kbig k hk
  have hw := kw_le k hk
  refine wpAny_call ?_
  k_dflt (refine' own_plain ?k1 ?k2 ?k3 ?k4 ?k5 ?kA ?kF ?kK ?k6 ?k7 ?k8 ?k9 ?kB ?_ ?c2 ?c3 ?c4 ?c5; (case kA => exact rfl); (case kF => exact rfl); (case kK => assumption); (case k1 => k_asm); (case k2 => k_asm); (case k3 => k_asm); (case k4 => exact N); (case k5 => k_asm); (case k6 => k_is); (case k7 => k_is); (case k8 => ktr_room); (case k9 => exact BindsTo.of_eq rfl); (case c5 => decide); (case kB => exact locs rfl); (case c2 => exact rfl); (case c3 => exact rfl); (case c4 => exact rfl); k_whole)
  intro g' L' h' hg' FG' F' N' B' X' T' l1
  (try k_lt l1)
  (try dsimp only)
  (try k_lift B')
  (try k_fold)
  repeat' (first
      | (k_unfold; (try dsimp only))
      | (k_end; kc_close)
      | ((with_reducible show wpAny _ _ (call (Value.ref _) _) _ _ _); first
        | (with_reducible ((with_reducible show wpAny _ _ (call (Value.ref 167) _) _ _ _); k_here; k_dflt (refine' clm_use (unsigned_c _ _ (by assumption) _ _) (by k_asm) (by k_asm) (by k_asm) (by k_asm) (by k_asm) (by first | exact rfl | assumption) (by ktr_room) (by ktr_units) ?_; k_whole); intro u'z h'z tk'z F'z N'z; (try dsimp only); (try k_fold); (try k_sweep)))
        | fail)
      | (with_reducible ((with_reducible show wpAny _ _ (exec (Stmt.While _ _ [] _) _) _ _ _); k_here; k_dflt (refine ones_while (by k_asm) (by exact rfl) (by exact rfl) (Int.emod_nonneg _ (two_ne _)) ?_ (by passes_own)); intro x'z c'z t1'z t2'z m'z h'z tk'z hx'z hc'z F'z N'z; (try dsimp only); (try k_fold)))
      | (with_reducible ((with_reducible show wpAny _ _ (exec (Stmt.While _ _ [] _) _) _ _ _); k_here; k_dflt (refine ones_while (by k_asm) (by exact rfl) (by exact rfl) (Int.emod_nonneg _ (two_ne _)) ?_ (by passes_own)); intro x'z c'z t1'z t2'z m'z h'z tk'z hx'z hc'z F'z N'z; (try dsimp only); (try k_fold)))
      | (with_reducible ((with_reducible show wpAny _ _ (exec (Stmt.While _ _ [] _) _) _ _ _); k_here; k_dflt (refine ones_while (by k_asm) (by exact rfl) (by exact rfl) (Int.emod_nonneg _ (two_ne _)) ?_ (by passes_own)); intro x'z c'z t1'z t2'z m'z h'z tk'z hx'z hc'z F'z N'z; (try dsimp only); (try k_fold)))
      | walk1
      | (dsimp only; walk1)
      | (leave1; walk_say "STEP leave1"; (try dsimp only))
      | fail "no step")
  · rename (0 : Int) ≤ _ => hx0
    rename _ + _ = 0 + _ => hc0
    rename (0 : Int) < _ => hx1
    refine ⟨rfl, _, _, _, _, _, _, _, rfl, by k_asm, by k_dflt exact rfl, by k_dflt exact rfl, pop_turn hx1 hc0, pop_less hx1⟩
  · rename (0 : Int) ≤ _ => hx0
    rename _ + _ = 0 + _ => hc0
    rename ¬ (0 : Int) < _ => hx1
    refine retA_i hret (pop_end hx0 hx1 hc0) (by k_asm) (keeps_all hg' (by k_asm))

/- G9 -/

/-- a fresh list of ints is handed back, every ledger as it was -/
abbrev RetAL (ns : List Int) : Heap → Addr → (Str → Option Value) → Shared → (Value → Shared → Prop) → (Value → Shared → Prop) → Prop :=
  fun h₀ L m s Q _ => ∀ (q : Addr) (ys : List Value) (c : Nat) (h' : Heap) (tk' : Nat), IntsAre ys ns → ys.length = ns.length → Fr h₀ L h' m → (∀ nw, News h₀ L s.heap nw → News h₀ L h' ((q, W.listOf ys.toArray c) :: nw)) → (∀ nw, News h₀ L s.heap nw → LCg.Off1 q nw) → Q (.ref q) { s with heap := h', toks := tk' }

local macro_rules | `(tactic| kmk_nums) => `(tactic| first | ((with_reducible refine' kmk_from ?gi ?gx); (case gi => l_ints); (case gx => omega)) | ((with_reducible refine' kmk_upto ?gi ?gx); (case gi => l_ints); (case gx => omega)))
/-- the row of bits moved, the lowest first -/
noncomputable def mvL (ns : List Int) (pl fill : Int) : List Int := if 0 ≤ pl then (List.replicate pl.toNat 0 ++ ns).take ns.length else ((ns ++ List.replicate (0 - pl).toNat fill).drop (0 - pl).toNat).take ns.length
theorem off1_of {q : Addr} : ∀ {l : List (Addr × Obj)}, (∀ p ∈ l, p.1 ≠ q) → LCg.Off1 q l
  | [], _ => trivial
  | _ :: _, h => ⟨h _ (.head _), off1_of fun p hp => h p (.tail _ hp)⟩
theorem off_of {h₀ g h' : Heap} {L L' q : Addr} {o : Obj} {rest : List (Addr × Obj)} {s : Shared} (hg : ∀ b o, s.heap.get? b = some o → b ∉ ([] : List (Addr × Obj)).map (·.1) → g.get? b = some o) (N : News g L' h' ((q, o) :: rest)) :
    ∀ nw, News h₀ L s.heap nw → LCg.Off1 q nw := fun nw hn => off1_of fun p hp e => by
  have h1 := hg _ _ (hn p hp).1 List.not_mem_nil
  have h2 := (N _ (.head _)).2.2
  rw [e] at h1
  rw [h1] at h2; cases h2
theorem news_head {h₀ h : Heap} {L : Addr} {q : Addr × Obj} {news : List (Addr × Obj)} (N : News h₀ L h (q :: news)) : News h₀ L h [q] := fun p hp => N p (by rw [List.mem_singleton.mp hp]; exact .head _)
theorem retAL {ns ns' : List Int} {ys : List Value} {h₀ h' : Heap} {L q : Addr} {m : Str → Option Value} {s : Shared} {Q : Value → Shared → Prop} {c tk' : Nat}
    (hret : ∀ (q : Addr) (ys : List Value) (c : Nat) (h' : Heap) (tk' : Nat), IntsAre ys ns → ys.length = ns.length → Fr h₀ L h' m → (∀ nw, News h₀ L s.heap nw → News h₀ L h' ((q, W.listOf ys.toArray c) :: nw)) → (∀ nw, News h₀ L s.heap nw → LCg.Off1 q nw) → Q (.ref q) { s with heap := h', toks := tk' })
    (e : ns' = ns) (hI : IntsAre ys ns') (F : Fr h₀ L h' m) (kp : ∀ nw, News h₀ L s.heap nw → News h₀ L h' nw) (N : News h₀ L h' [(q, W.listOf ys.toArray c)]) (hq : ∀ nw, News h₀ L s.heap nw → LCg.Off1 q nw) : Q (.ref q) { s with heap := h', toks := tk' } := by
  subst e
  refine hret q ys c h' tk' hI hI.length F (fun nw hn p hp => ?_) hq
  rcases List.mem_cons.mp hp with rfl | hp
  · exact N _ (.head _)
  · exact kp nw hn p hp
theorem law_moved_c {w : World} (b : Addr) (ys : List Value) (ns : List Int) (hI : IntsAre ys ns) (hL : ns.length ≤ 64) (pl : Int) (t : Tok) (fill : Int) (t2 : Tok) (hp : -70 ≤ pl ∧ pl ≤ 70) : Clo w 301 8 [] (fun h => h.IsList b ys.toArray) [.ref b, .int pl t, .int fill t2] (RetAL (mvL ns pl fill)) := by
  unfold Clo RetAL
  k_fill
  intro dp un gd cn cs a ccd cl outer A₀ base h₀ L m s Q E p loose mean mg mb B F X N hP T hcs hdp hun hret
  refine wpAny_call ?_
  k_dflt (refine' own_plain ?k1 ?k2 ?k3 ?k4 ?k5 ?kA ?kF ?kK ?k6 ?k7 ?k8 ?k9 ?kB ?_ ?c2 ?c3 ?c4 ?c5; (case kA => exact rfl); (case kF => exact rfl); (case kK => assumption); (case k1 => k_asm); (case k2 => k_asm); (case k3 => k_asm); (case k4 => exact N); (case k5 => k_asm); (case k6 => k_is); (case k7 => k_is); (case k8 => ktr_room); (case k9 => exact BindsTo.of_eq rfl); (case c5 => decide); (case kB => exact locs rfl); (case c2 => exact rfl); (case c3 => exact rfl); (case c4 => exact rfl); k_whole)
  intro g' L' h' hg' FG' F' N' B' X' T' l1
  (try k_lt l1)
  have hbL : g'.IsList b ys.toArray := hP.at fun o e => hg' b o e List.not_mem_nil
  (try dsimp only)
  (try k_lift B')
  (try k_fold)
  k_steps
  · refine retAL hret ?_ (by assumption) (by k_asm) (keeps_all hg' (by k_asm)) (c := 0) (news_head (by assumption)) ?_
    · unfold mvL
      rw [if_pos (by assumption), List.flatten_replicate_singleton]; rfl
    · exact off_of hg' (by assumption)
  · refine retAL hret ?_ (by assumption) (by k_asm) (keeps_all hg' (by k_asm)) (c := 0) (news_head (by assumption)) ?_
    · unfold mvL
      rw [if_neg (by assumption), List.flatten_replicate_singleton]; rfl
    · exact off_of hg' (by assumption)

/- M1 -/
noncomputable def bl (W : Nat) (x : Int) : List Int := (List.range W).map fun i => x / 2 ^ i % 2
theorem bl_len (W : Nat) (x : Int) : (bl W x).length = W := by unfold bl; rw [List.length_map, List.length_range]
theorem div_div (x : Int) (i : Nat) : x / 2 / 2 ^ i = x / 2 ^ (i + 1) := by
  rw [Int.ediv_ediv_of_nonneg (by decide), Int.pow_succ, Int.mul_comm]
theorem bl_succ (W : Nat) (x : Int) : bl (W + 1) x = x % 2 :: bl W (x / 2) := by
  unfold bl
  rw [List.range_succ_eq_map, List.map_cons, List.map_map]
  congr 1
  · rw [Int.pow_zero, Int.ediv_one]
  · refine List.map_congr_left fun i _ => ?_
    show x / 2 ^ (i + 1) % 2 = _
    rw [div_div]
theorem bl_01 (W : Nat) (x : Int) : ∀ b ∈ bl W x, 0 ≤ b ∧ b ≤ 1 := by
  intro b hb
  unfold bl at hb
  obtain ⟨i, _, rfl⟩ := List.mem_map.mp hb
  omega
theorem num_bl : ∀ (W : Nat) (x : Int), num (bl W x) = x % 2 ^ W
  | 0, x => by show (0 : Int) = _; rw [Int.pow_zero, Int.emod_one]
  | W + 1, x => by
    rw [bl_succ, num, num_bl W (x / 2)]
    have h1 := Int.emod_add_mul_ediv (x / 2) (2 ^ W)
    have h2 := Int.emod_nonneg (x / 2) (two_ne W)
    have h3 := Int.emod_lt_of_pos (x / 2) (two_pos W)
    refine (emod_of (q := x / 2 / 2 ^ W) ?_ ?_ ?_).symm
    · rw [Int.pow_succ, Int.mul_right_comm, Int.mul_comm (2 ^ W * _) 2]
      omega
    · omega
    · rw [Int.pow_succ]; omega
theorem wr_congr {k : Str} {a b : Int} (h : a % 2 ^ kw k = b % 2 ^ kw k) : wr k a = wr k b := by unfold wr; rw [h]
theorem wr_mod (k : Str) (a : Int) : wr k (a % 2 ^ kw k) = wr k a := wr_congr (Int.emod_emod_of_dvd _ (Int.dvd_refl _))
theorem wr_in {k : Str} (hk : Kind k) {n : Int} (h : lo k ≤ n ∧ n ≤ hi k) : wr k n = n := by
  rw [← round_wr k hk n]
  have := span k hk
  rw [Int.ediv_eq_zero_of_lt (by omega) (by omega), Int.zero_mul, Int.sub_zero]
theorem bl_take (W p : Nat) (x : Int) : (bl (W + p) x).take W = bl W x := by
  unfold bl
  rw [← List.map_take, List.take_range, Nat.min_eq_left (Nat.le_add_right _ _)]
theorem bl_up (W : Nat) : ∀ (p : Nat) (x : Int), List.replicate p 0 ++ bl W x = bl (W + p) (x * 2 ^ p)
  | 0, x => by rw [Int.pow_zero, Int.mul_one]; rfl
  | p + 1, x => by
    rw [List.replicate_succ, List.cons_append, bl_up W p x, ← Nat.add_assoc, bl_succ, Int.pow_succ, ← Int.mul_assoc]
    congr 1
    · omega
    · congr 1; omega
theorem bl_drop (W : Nat) : ∀ (p : Nat) (x : Int), (bl (W + p) x).drop p = bl W (x / 2 ^ p)
  | 0, x => by rw [Int.pow_zero, Int.ediv_one]; rfl
  | p + 1, x => by rw [← Nat.add_assoc, bl_succ, List.drop_succ_cons, bl_drop W p (x / 2), div_div]
theorem bl_more (W p : Nat) (z f : Int) (h : ∀ i, W ≤ i → z / 2 ^ i % 2 = f) : bl W z ++ List.replicate p f = bl (W + p) z := by
  unfold bl
  rw [List.range_add, List.map_append, List.map_map]
  congr 1
  refine (List.eq_replicate_iff.mpr ⟨by rw [List.length_map, List.length_range], fun b hb => ?_⟩).symm
  obtain ⟨i, _, rfl⟩ := List.mem_map.mp hb
  exact h _ (Nat.le_add_right _ _)
theorem bl_congr {W : Nat} {x z : Int} (h : x % 2 ^ W = z % 2 ^ W) : bl W x = bl W z := by
  unfold bl
  refine List.map_congr_left fun i hi => ?_
  have hi := List.mem_range.mp hi
  have key : ∀ y : Int, y / 2 ^ i % 2 = y % 2 ^ W / 2 ^ i % 2 := by
    intro y
    have h1 := Int.emod_add_mul_ediv y (2 ^ W)
    have e : (2 : Int) ^ W = 2 ^ (W - i - 1) * 2 * 2 ^ i := by rw [← Int.pow_succ, ← Int.pow_add]; congr 1; omega
    have e2 : y = y % 2 ^ W + 2 ^ (W - i - 1) * (y / 2 ^ W) * 2 * 2 ^ i := by
      have : (2 : Int) ^ (W - i - 1) * (y / 2 ^ W) * 2 * 2 ^ i = 2 ^ W * (y / 2 ^ W) := by
        rw [e]; simp only [Int.mul_assoc, Int.mul_comm, Int.mul_left_comm]
      omega
    have e3 : y / 2 ^ i = y % 2 ^ W / 2 ^ i + 2 ^ (W - i - 1) * (y / 2 ^ W) * 2 := by
      conv => lhs; rw [e2]
      rw [Int.add_mul_ediv_right _ _ (two_ne i)]
    omega
  rw [key x, key z, h]
theorem bL_len (k : Str) (n : Int) : (bL k n).length = kw k := bl_len _ _
theorem mvL_up (k : Str) (n p f : Int) (hp : 0 ≤ p) : mvL (bL k n) p f = bl (kw k) (n * 2 ^ p.toNat) := by
  unfold mvL
  rw [if_pos hp, bL_len, show bL k n = bl (kw k) n from rfl, bl_up, bl_take]
theorem mvL_down (k : Str) (n p f z : Int) (hp : p < 0) (hz : n % 2 ^ kw k = z % 2 ^ kw k) (hf : ∀ i, kw k ≤ i → z / 2 ^ i % 2 = f) : mvL (bL k n) p f = bl (kw k) (z / 2 ^ (0 - p).toNat) := by
  unfold mvL
  rw [if_neg (by omega), bL_len, show bL k n = bl (kw k) n from rfl, bl_congr hz, bl_more _ _ _ _ hf, bl_drop]
  rw [List.take_of_length_le (by rw [bl_len]; exact Nat.le_refl _)]
theorem pow_le {a b : Nat} (h : a ≤ b) : (2 : Int) ^ a ≤ 2 ^ b := by
  rw [pow_split h]
  have h1 := two_pos (b - a)
  have h2 := two_pos a
  have h3 := Int.mul_le_mul_of_nonneg_right (show (1 : Int) ≤ 2 ^ (b - a) by omega) (Int.le_of_lt h2)
  omega
theorem div_small {z : Int} {i : Nat} (h0 : 0 ≤ z) (h : z < 2 ^ i) : z / 2 ^ i = 0 := Int.ediv_eq_zero_of_lt h0 h
theorem div_neg {z : Int} {i : Nat} (h0 : z < 0) (h : -(2 ^ i) ≤ z) : z / 2 ^ i = -1 := ediv_of (r := z + 2 ^ i) (by omega) (by omega) (by omega)
theorem sgn_of (k : Str) (hk : Kind k) (n : Int) (h : lo k ≤ n ∧ n ≤ hi k) : ∀ i, kw k ≤ i → n / 2 ^ i % 2 = if n < 0 then 1 else 0 := by
  intro i hi'
  have hw := kw_le k hk
  have e := pow_le hi'
  have e2 := pow_le (show kw k - 1 ≤ kw k by omega)
  have : n < 2 ^ i ∧ -(2 ^ i) ≤ n := by unfold lo hi at h; split at h <;> omega
  split
  · rw [div_neg (by omega) this.2]; rfl
  · rw [div_small (by omega) this.1]; rfl
/-- the sign's own bit -/
noncomputable def sg (k : Str) (n : Int) : Int := if ks k = true then n / 2 ^ (kw k - 1) % 2 else 0
theorem sg_is (k : Str) (hk : Kind k) (n : Int) (h : lo k ≤ n ∧ n ≤ hi k) : sg k n = if n < 0 then 1 else 0 := by
  unfold sg
  unfold lo hi at h
  have e := two_pos (kw k - 1)
  split
  · rename_i hs
    rw [if_pos hs, if_pos hs] at h
    split
    · rw [div_neg (by omega) (by omega)]; rfl
    · rw [div_small (by omega) (by omega)]; rfl
  · rename_i hs
    rw [if_neg hs, if_neg hs] at h
    rw [if_neg (by omega)]
theorem in_div (k : Str) {n : Int} (h : lo k ≤ n ∧ n ≤ hi k) (p : Nat) : lo k ≤ n / 2 ^ p ∧ n / 2 ^ p ≤ hi k := by
  have hp := two_pos p
  have hlo : lo k ≤ 0 := by unfold lo; have := two_pos (kw k - 1); split <;> omega
  have hhi : 0 ≤ hi k := by unfold hi; have := two_pos (kw k - 1); have := two_pos (kw k); split <;> omega
  by_cases hn : 0 ≤ n
  · have h1 := Int.ediv_nonneg hn (Int.le_of_lt hp)
    have h2 := Int.ediv_le_self (2 ^ p) hn
    omega
  · have h1 : n / 2 ^ p < 0 := Int.ediv_neg_of_neg_of_pos (by omega) hp
    have h2 : n ≤ n / 2 ^ p := by
      refine Int.le_ediv_of_mul_le hp ?_
      have := Int.mul_le_mul_of_nonneg_left (show (1 : Int) ≤ 2 ^ p by omega) (show 0 ≤ -n by omega)
      simp only [Int.neg_mul, Int.mul_one] at this
      omega
    omega
theorem mu_is (k : Str) (n p : Int) (hp : 0 ≤ p) : mu k n p = wr k (n * 2 ^ p.toNat) := by
  unfold mu
  split
  · have e : (n * 2 ^ p.toNat) % 2 ^ kw k = 0 := by
      rw [pow_split (show kw k ≤ p.toNat by omega), ← Int.mul_assoc]
      exact Int.mul_emod_left _ _
    unfold wr
    have := two_pos (kw k - 1)
    rw [e, if_neg (by omega)]
  · rfl
theorem min_div {k : Str} (hk : Kind k) {z p : Int} (hp : 0 ≤ p) (h1 : z < 2 ^ kw k) (h2 : -(2 ^ kw k) ≤ z) : z / 2 ^ (if (kw k : Int) < p then (kw k : Int) else p).toNat = z / 2 ^ p.toNat := by
  split
  · have e := pow_le (show kw k ≤ p.toNat by omega)
    rw [show ((kw k : Int)).toNat = kw k from rfl]
    by_cases hz : z < 0
    · rw [div_neg hz h2, div_neg hz (by omega)]
    · rw [div_small (by omega) h1, div_small (by omega) (by omega)]
  · rfl
theorem in_two {k : Str} (hk : Kind k) {n : Int} (h : lo k ≤ n ∧ n ≤ hi k) : n < 2 ^ kw k ∧ -(2 ^ kw k) ≤ n := by
  have hw := kw_le k hk
  have e2 := pow_le (show kw k - 1 ≤ kw k by omega)
  have := two_pos (kw k - 1)
  unfold lo hi at h; split at h <;> omega
theorem up_is (k : Str) (n p f : Int) (hp : 0 ≤ p) : wr k (num (mvL (bL k n) p f)) = mu k n p := by
  rw [mvL_up k n p f hp, num_bl, wr_mod, mu_is k n p hp]
theorem down_is (k : Str) (hk : Kind k) (n p : Int) (h : lo k ≤ n ∧ n ≤ hi k) (hp : p < 0) : wr k (num (mvL (bL k n) p (sg k n))) = md k n (0 - p) true := by
  rw [mvL_down k n p _ n hp rfl (fun i hi => by rw [sgn_of k hk n h i hi, sg_is k hk n h]), num_bl, wr_mod, wr_in hk (in_div k h _)]
  unfold md
  rw [if_pos rfl, min_div hk (by omega) (in_two hk h).1 (in_two hk h).2]
theorem down0_is (k : Str) (hk : Kind k) (n p : Int) (hp : p < 0) : wr k (num (mvL (bL k n) p 0)) = md k n (0 - p) false := by
  have h2 := Int.emod_nonneg n (two_ne (kw k))
  have h3 := Int.emod_lt_of_pos n (two_pos (kw k))
  rw [mvL_down k n p _ (n % 2 ^ kw k) hp (Int.emod_emod_of_dvd _ (Int.dvd_refl _)).symm (fun i hi => by rw [div_small h2 (by have := pow_le hi; omega)]; rfl), num_bl, wr_mod]
  unfold md
  rw [if_neg (by decide), min_div hk (by omega) h3 (by omega)]
theorem md0 (k : Str) (hk : Kind k) (n : Int) (h : lo k ≤ n ∧ n ≤ hi k) (b : Bool) : md k n 0 b = wr k n := by
  have hw := kw_le k hk
  unfold md
  have e : (if (kw k : Int) < 0 then (kw k : Int) else 0).toNat = 0 := by rw [if_neg (by omega)]; rfl
  rw [e, Int.pow_zero, Int.ediv_one, Int.ediv_one]
  split
  · rw [wr_in hk h]
  · rw [wr_mod]
theorem mu0 (k : Str) (hk : Kind k) (n : Int) : mu k n 0 = wr k n := by
  rw [mu_is k n 0 (by omega)]; congr 1; exact Int.mul_one n
theorem sh_left (k : Str) (hk : Kind k) (n p : Int) (h : lo k ≤ n ∧ n ≤ hi k) : sh k (Str.ofString "<<") n p = wr k (num (mvL (bL k n) p (sg k n))) := by
  unfold sh
  rw [if_pos (by decide +kernel)]
  split
  · exact (up_is k n p _ (by assumption)).symm
  · exact (down_is k hk n p h (by omega)).symm
theorem sh_right (k : Str) (hk : Kind k) (n p : Int) (h : lo k ≤ n ∧ n ≤ hi k) : sh k (Str.ofString ">>") n p = wr k (num (mvL (bL k n) (-p) (sg k n))) := by
  unfold sh
  rw [if_neg (by decide +kernel)]
  split
  · rw [up_is k n (-p) _ (by omega), Int.zero_sub]
  · by_cases hp : p = 0
    · subst hp
      rw [up_is k n (-0) _ (by decide), md0 k hk n h]; exact (mu0 k hk n).symm
    · rw [down_is k hk n (-p) h (by omega), show 0 - -p = p by omega]
      congr 1
theorem sh_right0 (k : Str) (hk : Kind k) (n p : Int) (h : lo k ≤ n ∧ n ≤ hi k) : sh k (Str.ofString ">>>") n p = wr k (num (mvL (bL k n) (-p) 0)) := by
  unfold sh
  rw [if_neg (by decide +kernel)]
  split
  · rw [up_is k n (-p) _ (by omega), Int.zero_sub]
  · by_cases hp : p = 0
    · subst hp
      rw [up_is k n (-0) _ (by decide), md0 k hk n h]; exact (mu0 k hk n).symm
    · rw [down0_is k hk n (-p) (by omega), show 0 - -p = p by omega]
      congr 1
theorem mvL_len (ns : List Int) (p f : Int) : (mvL ns p f).length = ns.length := by
  unfold mvL
  split
  · rw [List.length_take, List.length_append]; omega
  · rw [List.length_take, List.length_drop, List.length_append, List.length_replicate]; omega
theorem mvL_01 (ns : List Int) (p f : Int) (h : ∀ x ∈ ns, 0 ≤ x ∧ x ≤ 1) (hf : 0 ≤ f ∧ f ≤ 1) : ∀ x ∈ mvL ns p f, 0 ≤ x ∧ x ≤ 1 := by
  unfold mvL
  split
  · intro x hx
    rcases List.mem_append.mp (List.mem_of_mem_take hx) with hx | hx
    · rw [(List.mem_replicate.mp hx).2]; decide
    · exact h x hx
  · intro x hx
    rcases List.mem_append.mp (List.mem_of_mem_drop (List.mem_of_mem_take hx)) with hx | hx
    · exact h x hx
    · rw [(List.mem_replicate.mp hx).2]; exact hf
theorem bL_01 (k : Str) (n : Int) : ∀ b ∈ bL k n, 0 ≤ b ∧ b ≤ 1 := bl_01 _ _
theorem sg_01 (k : Str) (n : Int) : 0 ≤ sg k n ∧ sg k n ≤ 1 := by
  unfold sg
  split <;> omega

/- G10 -/

theorem item_back {prog : Program} {w : World} {A : Around} {s : Shared} {Q E : Value → Shared → Prop} {value slice : Expr} {q : Addr} {ys : List Value} {ns : List Int} {i : Int} {u : Tok}
    (hl : s.heap.IsList q ys.toArray) (hI : IntsAre ys ns) (h0 : -(ns.length : Int) ≤ i) (h1 : i < 0) (hL : ns.length ≤ 64) (h : ∀ t, Q (.int (ns.getD ((ns.length : Int) + i).toNat 0) t) s)
    (hs : subscripted slice false (.ref q) (.int i u) = operate [.ref q, .int i u] (getItem (.ref q) (.int i u)) := by with_unfolding_all rfl) :
    wpAny (model prog w) A (subscriptTail value slice (.ref q) (.int i u)) Q E s := by
  have hlen := hI.length
  have hj : ((ns.length : Int) + i).toNat < ys.length := by omega
  obtain ⟨n, t, e1, e2⟩ := IntsAre.at hI ((ns.length : Int) + i).toNat _ (List.getElem?_eq_getElem hj)
  have e3 : ns.getD ((ns.length : Int) + i).toNat 0 = n := by rw [List.getD_eq_getElem?_getD, e2]; rfl
  refine tail_any hl.typeIs slot_list_getitem.lookup (wpAny_getItem_list_neg (x := ys[((ns.length : Int) + i).toNat]) hl h1 ?_ ?_ ?_ ?_) hs
  · simp only [List.size_toArray]; omega
  · have : (2 : Int) ^ 63 = 9223372036854775808 := by decide
    omega
  · simp only [List.size_toArray]
    rw [show (i + (ys.length : Int)).toNat = ((ns.length : Int) + i).toNat by omega, List.getElem?_toArray]
    exact List.getElem?_eq_getElem hj
  · rw [e1, ← e3]; exact h t
theorem sg_back {k : Str} {n : Int} (hs : ks k = true) (hw : 8 ≤ kw k ∧ kw k ≤ 64) : (bL k n).getD (((bL k n).length : Int) + (-1)).toNat 0 = sg k n := by
  unfold sg
  rw [if_pos hs, bL_len, show ((kw k : Int) + (-1)).toNat = kw k - 1 by omega]
  refine getD_at ?_
  unfold bL
  rw [List.getElem?_map, List.getElem?_range (by omega)]; rfl
theorem item_back' {prog : Program} {w : World} {A : Around} {s : Shared} {Q E : Value → Shared → Prop} {value slice : Expr} {q : Addr} {ys : List Value} {k : Str} {n : Int} {u : Tok}
    (hl : s.heap.IsList q ys.toArray) (hI : IntsAre ys (bL k n)) (hks : ks k = true) (hw : 8 ≤ kw k ∧ kw k ≤ 64) (h : ∀ t, Q (.int (sg k n) t) s)
    (hs : subscripted slice false (.ref q) (.int (-1) u) = operate [.ref q, .int (-1) u] (getItem (.ref q) (.int (-1) u)) := by with_unfolding_all rfl) :
    wpAny (model prog w) A (subscriptTail value slice (.ref q) (.int (-1) u)) Q E s :=
  item_back hl hI (by rw [bL_len]; omega) (by decide) (by rw [bL_len]; omega) (fun t => by rw [sg_back hks hw]; exact h t) hs
theorem law_shifts_right_c {w : World} (k : Str) (t : Tok) (hk : Kind k) (n : Int) (t1 : Tok) (h1 : lo k ≤ n ∧ n ≤ hi k) (pl : Int) (t2 : Tok) (hp : -70 ≤ pl ∧ pl ≤ 70) : Clo w 308 16 [] (fun _ => True) [.str k t, .int n t1, .int pl t2] (RetA fun _ => .bool true) := by
  unfold Clo RetA
  k_fill
  intro dp un gd cn cs a ccd cl outer A₀ base h₀ L m s Q E p loose mean mg mb B F X N hP T hcs hdp hun hret
  have hl := klen k hk
  have hb := kbig k hk
  have hw := kw_le k hk
  have hb1 := in_bits hk h1
  have hc1 : Builtin.Int.intBits n ≤ 1000 := by omega
  have gL : (bL k n).length ≤ 64 := by rw [bL_len]; omega
  have g0 : ks k = false → sg k n = 0 := fun h => by unfold sg; rw [if_neg (by rw [h]; decide)]
  have g1 := mvL_01 _ pl _ (bL_01 k n) (sg_01 k n)
  have g2 := mvL_01 _ (-pl) _ (bL_01 k n) (sg_01 k n)
  have g3 := mvL_01 _ (-pl) 0 (bL_01 k n) (by decide)
  have g4 := mvL_01 _ pl 0 (bL_01 k n) (by decide)
  have e1 : (mvL (bL k n) pl (sg k n)).length ≤ 64 := by rw [mvL_len]; exact gL
  have e2 : (mvL (bL k n) (-pl) (sg k n)).length ≤ 64 := by rw [mvL_len]; exact gL
  have e3 : (mvL (bL k n) pl 0).length ≤ 64 := by rw [mvL_len]; exact gL
  have e4 : (mvL (bL k n) (-pl) 0).length ≤ 64 := by rw [mvL_len]; exact gL
  refine wpAny_call ?_
  k_dflt (refine' own_plain ?k1 ?k2 ?k3 ?k4 ?k5 ?kA ?kF ?kK ?k6 ?k7 ?k8 ?k9 ?kB ?_ ?c2 ?c3 ?c4 ?c5; (case kA => exact rfl); (case kF => exact rfl); (case kK => assumption); (case k1 => k_asm); (case k2 => k_asm); (case k3 => k_asm); (case k4 => exact N); (case k5 => k_asm); (case k6 => k_is); (case k7 => k_is); (case k8 => ktr_room); (case k9 => exact BindsTo.of_eq rfl); (case c5 => decide); (case kB => exact locs rfl); (case c2 => exact rfl); (case c3 => exact rfl); (case c4 => exact rfl); k_whole)
  intro g' L' h' hg' FG' F' N' B' X' T' l1
  (try k_lt l1)
  (try dsimp only)
  (try k_lift B')
  (try k_fold)
  rcases Bool.eq_false_or_eq_true (ks k) with hks | hks
  · have z1 := sh_left k hk n pl h1
    have z2 := sh_right k hk n pl h1
    have z3 := sh_right0 k hk n pl h1
    repeat' (first
        | (k_unfold; (try dsimp only))
        | (k_end; kc_close)
        | ((with_reducible show wpAny _ _ (call (Value.ref _) _) _ _ _); first
          | (with_reducible ((with_reducible show wpAny _ _ (call (Value.ref 301) _) _ _ _); k_here; (with_reducible rename News _ _ _ _ => lN9z); k_dflt (refine' clo_useI (by k_asm) (by k_asm) (by k_asm) (by exact no_news) (by (dsimp only; walk_at "my list")) (law_moved_c _ _ _ (by first | assumption | l_ints) (by assumption) _ _ _ _ (by omega)) (by k_asm) (by first | exact rfl | assumption) (by ktr_room) (by ktr_units) ?_; k_whole); intro q'z ws'z c'z h'z tk'z hI8z hL8z F'z kN9z o9z; (have N'z := kN9z _ lN9z); (have o1'z := o9z _ lN9z); clear kN9z o9z; (try simp only [LCg.Off1, and_true] at o1'z); (try dsimp only); (try k_fold); (try k_sweep)))
          | (with_reducible ((with_reducible show wpAny _ _ (call (Value.ref 282) _) _ _ _); k_here; (with_reducible rename News _ _ _ _ => lN9z); k_dflt (refine' clo_useI (by k_asm) (by k_asm) (by k_asm) (by exact no_news) (by (dsimp only; walk_at "my list")) (law_number_c _ _ (by assumption) _ _ _ (by first | assumption | l_ints) (by assumption) (by assumption)) (by k_asm) (by first | exact rfl | assumption) (by ktr_room) (by ktr_units) ?_; k_whole); intro u'z h'z tk'z F'z kN9z; (have N'z := kN9z _ lN9z); clear kN9z; (try dsimp only); (try k_fold); (try k_sweep)))
          | (with_reducible ((with_reducible show wpAny _ _ (call (Value.ref 270) _) _ _ _); k_here; k_dflt (refine' clm_use (law_bits_c _ _ (by assumption) _ _) (by k_asm) (by k_asm) (by k_asm) (by k_asm) (by k_asm) (by first | exact rfl | assumption) (by ktr_room) (by ktr_units) ?_; k_whole); intro q'z ys'z h'z tk'z hI8z hL8z F'z N'z o1'z; (try simp only [LCg.Off1, and_true] at o1'z); (try dsimp only); (try k_fold); (try k_sweep)))
          | (with_reducible ((with_reducible show wpAny _ _ (call (Value.ref 188) _) _ _ _); k_here; k_dflt (refine' clm_use (shifted_c _ _ (by assumption) _ _ _ _ _ _ (by assumption)) (by k_asm) (by k_asm) (by k_asm) (by k_asm) (by k_asm) (by first | exact rfl | assumption) (by ktr_room) (by ktr_units) ?_; k_whole); intro u'z h'z tk'z F'z N'z; (try dsimp only); (try k_fold); (try k_sweep)))
          | (with_reducible ((with_reducible show wpAny _ _ (call (Value.ref 104) [Value.str _ _]) _ _ _); k_here; k_dflt (refine' clm_use (is_signed_c _ _ (by assumption)) (by k_asm) (by k_asm) (by k_asm) (by k_asm) (by k_asm) (by first | exact rfl | assumption) (by ktr_room) (by ktr_units) ?_; k_whole); intro u'z h'z tk'z F'z N'z; (try dsimp only); (try k_fold); (try k_sweep)))
          | fail)
        | (with_reducible ((with_reducible show wpAny _ _ (subscriptTail _ _ (Value.ref _) (Value.int (-1) _)) _ _ _); k_here; k_dflt (refine' item_back' (by walk_at "my list") (by assumption) (by assumption) (by assumption) ?_ (by with_unfolding_all rfl); k_whole); intro u'z))
        | walk1
        | (dsimp only; walk1)
        | (leave1; walk_say "STEP leave1"; (try dsimp only))
        | fail "no step")
    all_goals (try (refine retA_b hret ?_ (by k_asm) (keeps_all hg' (by k_asm)); rw [z3]; exact beq_self_eq_true _))
    all_goals (exfalso; with_reducible contradiction)
  · have z0 := g0 hks
    have z1 := z0 ▸ sh_left k hk n pl h1
    have z2 := z0 ▸ sh_right k hk n pl h1
    have z3 := sh_right0 k hk n pl h1
    repeat' (first
        | (k_unfold; (try dsimp only))
        | (k_end; kc_close)
        | ((with_reducible show wpAny _ _ (call (Value.ref _) _) _ _ _); first
          | (with_reducible ((with_reducible show wpAny _ _ (call (Value.ref 301) _) _ _ _); k_here; (with_reducible rename News _ _ _ _ => lN9z); k_dflt (refine' clo_useI (by k_asm) (by k_asm) (by k_asm) (by exact no_news) (by (dsimp only; walk_at "my list")) (law_moved_c _ _ _ (by first | assumption | l_ints) (by assumption) _ _ _ _ (by omega)) (by k_asm) (by first | exact rfl | assumption) (by ktr_room) (by ktr_units) ?_; k_whole); intro q'z ws'z c'z h'z tk'z hI8z hL8z F'z kN9z o9z; (have N'z := kN9z _ lN9z); (have o1'z := o9z _ lN9z); clear kN9z o9z; (try simp only [LCg.Off1, and_true] at o1'z); (try dsimp only); (try k_fold); (try k_sweep)))
          | (with_reducible ((with_reducible show wpAny _ _ (call (Value.ref 282) _) _ _ _); k_here; (with_reducible rename News _ _ _ _ => lN9z); k_dflt (refine' clo_useI (by k_asm) (by k_asm) (by k_asm) (by exact no_news) (by (dsimp only; walk_at "my list")) (law_number_c _ _ (by assumption) _ _ _ (by first | assumption | l_ints) (by assumption) (by assumption)) (by k_asm) (by first | exact rfl | assumption) (by ktr_room) (by ktr_units) ?_; k_whole); intro u'z h'z tk'z F'z kN9z; (have N'z := kN9z _ lN9z); clear kN9z; (try dsimp only); (try k_fold); (try k_sweep)))
          | (with_reducible ((with_reducible show wpAny _ _ (call (Value.ref 270) _) _ _ _); k_here; k_dflt (refine' clm_use (law_bits_c _ _ (by assumption) _ _) (by k_asm) (by k_asm) (by k_asm) (by k_asm) (by k_asm) (by first | exact rfl | assumption) (by ktr_room) (by ktr_units) ?_; k_whole); intro q'z ys'z h'z tk'z hI8z hL8z F'z N'z o1'z; (try simp only [LCg.Off1, and_true] at o1'z); (try dsimp only); (try k_fold); (try k_sweep)))
          | (with_reducible ((with_reducible show wpAny _ _ (call (Value.ref 188) _) _ _ _); k_here; k_dflt (refine' clm_use (shifted_c _ _ (by assumption) _ _ _ _ _ _ (by assumption)) (by k_asm) (by k_asm) (by k_asm) (by k_asm) (by k_asm) (by first | exact rfl | assumption) (by ktr_room) (by ktr_units) ?_; k_whole); intro u'z h'z tk'z F'z N'z; (try dsimp only); (try k_fold); (try k_sweep)))
          | (with_reducible ((with_reducible show wpAny _ _ (call (Value.ref 104) [Value.str _ _]) _ _ _); k_here; k_dflt (refine' clm_use (is_signed_c _ _ (by assumption)) (by k_asm) (by k_asm) (by k_asm) (by k_asm) (by k_asm) (by first | exact rfl | assumption) (by ktr_room) (by ktr_units) ?_; k_whole); intro u'z h'z tk'z F'z N'z; (try dsimp only); (try k_fold); (try k_sweep)))
          | fail)
        | (with_reducible ((with_reducible show wpAny _ _ (subscriptTail _ _ (Value.ref _) (Value.int (-1) _)) _ _ _); k_here; k_dflt (refine' item_back' (by walk_at "my list") (by assumption) (by assumption) (by assumption) ?_ (by with_unfolding_all rfl); k_whole); intro u'z))
        | walk1
        | (dsimp only; walk1)
        | (leave1; walk_say "STEP leave1"; (try dsimp only))
        | fail "no step")
    all_goals (try (refine retA_b hret ?_ (by k_asm) (keeps_all hg' (by k_asm)); rw [z3]; exact beq_self_eq_true _))
    all_goals (exfalso; with_reducible contradiction)

/- G11 -/

local macro_rules | `(tactic| walk_at "my own") => `(tactic| ((with_reducible rename News _ _ _ _ => lN8); (try dsimp only); first | ((have z8 := news_head lN8); with_reducible exact z8) | ((replace lN8 := News.tail1 lN8); walk_at "my own")))
local macro_rules | `(tactic| walk_at "my off") => `(tactic| first | exact fun _ h => absurd h List.not_mem_nil | ((simp only [List.mem_cons, List.not_mem_nil, or_false, forall_eq_or_imp, forall_eq]) <;> (repeat' with_reducible refine And.intro ?_ ?_) <;> first | with_reducible assumption | (with_reducible refine Ne.symm ?_; with_reducible assumption) | k_ne))
theorem News.but1 {h₀ h : Heap} {L : Addr} {p q : Addr × Obj} {news : List (Addr × Obj)} (N : News h₀ L h (p :: q :: news)) : News h₀ L h (p :: news) := fun r hr => N r (by rcases List.mem_cons.mp hr with rfl | hr; exact .head _; exact .tail _ (.tail _ hr))
theorem News.but2 {h₀ h : Heap} {L : Addr} {p p2 q : Addr × Obj} {news : List (Addr × Obj)} (N : News h₀ L h (p :: p2 :: q :: news)) : News h₀ L h (p :: p2 :: news) := fun r hr => N r (by rcases List.mem_cons.mp hr with rfl | hr; exact .head _; rcases List.mem_cons.mp hr with rfl | hr; exact .tail _ (.head _); exact .tail _ (.tail _ (.tail _ hr)))
theorem News.but3 {h₀ h : Heap} {L : Addr} {p p2 p3 q : Addr × Obj} {news : List (Addr × Obj)} (N : News h₀ L h (p :: p2 :: p3 :: q :: news)) : News h₀ L h (p :: p2 :: p3 :: news) := fun r hr => N r (by rcases List.mem_cons.mp hr with rfl | hr; exact .head _; rcases List.mem_cons.mp hr with rfl | hr; exact .tail _ (.head _); rcases List.mem_cons.mp hr with rfl | hr; exact .tail _ (.tail _ (.head _)); exact .tail _ (.tail _ (.tail _ (.tail _ hr))))
theorem my_have {P Q : Prop} (h : P) (k : P → Q) : Q := k h
local macro_rules | `(tactic| walk_at "my back") => `(tactic| ((with_reducible rename (∀ nw : List (Addr × Obj), News _ _ _ nw → (∀ p, p ∈ nw → p.1 ≠ _) → News _ _ _ (_ :: nw)) => kN8); (with_reducible rename News _ _ _ _ => lN7); first | (refine' my_have (kN8 _ (News.tail1 lN7) ?off) ?_; (case off => walk_at "my off"); intro N') | (refine' my_have (kN8 _ (News.but1 lN7) ?off) ?_; (case off => walk_at "my off"); intro N') | (refine' my_have (kN8 _ (News.but2 lN7) ?off) ?_; (case off => walk_at "my off"); intro N') | (refine' my_have (kN8 _ (News.but3 lN7) ?off) ?_; (case off => walk_at "my off"); intro N'); (clear kN8)))
theorem span_pos (k : Str) (hk : Kind k) : 0 < hi k - lo k + 1 := by rw [span k hk]; exact two_pos _
local macro_rules | `(tactic| walk_at "my pos") => `(tactic| first | decide +kernel | omega | exact span_pos _ (by assumption))
local macro_rules | `(tactic| walk_at "my log") => `(tactic| first | decide +kernel | exact span_log _ (by assumption))
/-- a number is drawn, the pot is turned -/
abbrev RetDraw (l : Addr) (P : Int → Prop) : Heap → Addr → (Str → Option Value) → Shared → (Value → Shared → Prop) → (Value → Shared → Prop) → Prop :=
  fun h₀ L m s Q _ => ∀ (d a b : Int) (t t1 t2 : Tok) (c : Nat) (h' : Heap) (tk' : Nat), P d → 0 ≤ a → 0 ≤ b → b < 4294967296 → Fr h₀ L h' m → (∀ nw, News h₀ L s.heap nw → (∀ p ∈ nw, p.1 ≠ l) → News h₀ L h' ((l, W.listOf #[.int a t1, .int b t2] c) :: nw)) → Q (.int d t) { s with heap := h', toks := tk' }
theorem retDraw {l : Addr} {P : Int → Prop} {d a b : Int} {h₀ h' g : Heap} {L L' : Addr} {m m' : Str → Option Value} {s : Shared} {Q : Value → Shared → Prop} {t t1 t2 : Tok} {c tk' : Nat} {o : Obj}
    (hret : ∀ (d a b : Int) (t t1 t2 : Tok) (c : Nat) (h' : Heap) (tk' : Nat), P d → 0 ≤ a → 0 ≤ b → b < 4294967296 → Fr h₀ L h' m → (∀ nw, News h₀ L s.heap nw → (∀ p ∈ nw, p.1 ≠ l) → News h₀ L h' ((l, W.listOf #[.int a t1, .int b t2] c) :: nw)) → Q (.int d t) { s with heap := h', toks := tk' })
    (e : P d) (ha : 0 ≤ a) (hb : 0 ≤ b ∧ b < 4294967296) (F : Fr h₀ L h' m) (hg : ∀ b o', s.heap.get? b = some o' → b ∉ ([(l, o)] : List (Addr × Obj)).map (·.1) → g.get? b = some o') (FG : Fr g L' h' m') (N : News h₀ L s.heap [(l, o)]) (N' : News g L' h' [(l, W.listOf #[.int a t1, .int b t2] c)]) : Q (.int d t) { s with heap := h', toks := tk' } := by
  refine hret d a b t t1 t2 c h' tk' e ha hb.1 hb.2 F fun nw hn off p hp => ?_
  rcases List.mem_cons.mp hp with rfl | hp
  · exact ⟨(N' _ (.head _)).1, (N _ (.head _)).2⟩
  · exact keeps_but hg FG nw hn (fun p hp => by simp only [List.map_cons, List.map_nil, List.mem_singleton]; exact off p hp) p hp
theorem fmod_in {x m : Int} (h : 0 < m) : 0 ≤ x.fmod m ∧ x.fmod m < m := by
  rw [fmod_pos h]
  exact ⟨Int.emod_nonneg _ (Int.ne_of_gt h), Int.emod_lt_of_pos _ h⟩
local macro_rules | `(tactic| walk_at "binaryOp FloorDiv int int") => `(tactic| (k_here; (with_reducible refine floordiv_int ?kbe ?_ (Or.inl (PyProof.noPylong_of_log2 ?kbp))); (case kbp => with_reducible assumption); (case kbe => omega)))
theorem lohi (k : Str) (hk : Kind k) : lo k ≤ 0 ∧ 127 ≤ hi k := by
  have hw := kw_le k hk
  have h7 := pow_le (show 7 ≤ kw k - 1 by omega)
  have e := pow_le (show kw k - 1 ≤ kw k by omega)
  have : (2 : Int) ^ 7 = 128 := by decide
  unfold lo hi
  split <;> omega
theorem some_in {k : Str} (hk : Kind k) {d : Int} (h0 : 0 ≤ d) (h4 : d < 4) : lo k ≤ [lo k, hi k, lo k + 1, 0].getD d.toNat 0 ∧ [lo k, hi k, lo k + 1, 0].getD d.toNat 0 ≤ hi k := by
  have lh := lohi k hk
  have : d = 0 ∨ d = 1 ∨ d = 2 ∨ d = 3 := by omega
  rcases this with rfl | rfl | rfl | rfl
  · show lo k ≤ lo k ∧ lo k ≤ hi k; omega
  · show lo k ≤ hi k ∧ hi k ≤ hi k; omega
  · show lo k ≤ lo k + 1 ∧ lo k + 1 ≤ hi k; omega
  · show lo k ≤ 0 ∧ 0 ≤ hi k; omega
theorem law_out_c {w : World} (l : Addr) (a b : Int) (t1 t2 : Tok) (c : Nat) (ha : 0 ≤ a) (hb0 : 0 ≤ b) (hb : b < 4294967296) (many : Int) (t : Tok) (hm : 0 < many) (hm2 : many.natAbs.log2 < 9000) : Clo w 244 8 [(l, W.listOf #[.int a t1, .int b t2] c)] (fun _ => True) [.ref l, .int many t] (RetDraw l fun d => 0 ≤ d ∧ d < many) := by
  unfold Clo RetDraw
  k_fill
  intro dp un gd cn cs a ccd cl outer A₀ base h₀ L m s Q E p loose mean mg mb B F X N hP T hcs hdp hun hret
  refine wpAny_call ?_
  k_dflt (refine' own_plain ?k1 ?k2 ?k3 ?k4 ?k5 ?kA ?kF ?kK ?k6 ?k7 ?k8 ?k9 ?kB ?_ ?c2 ?c3 ?c4 ?c5; (case kA => exact rfl); (case kF => exact rfl); (case kK => assumption); (case k1 => k_asm); (case k2 => k_asm); (case k3 => k_asm); (case k4 => exact N); (case k5 => k_asm); (case k6 => k_is); (case k7 => k_is); (case k8 => ktr_room); (case k9 => exact BindsTo.of_eq rfl); (case c5 => decide); (case kB => exact locs rfl); (case c2 => exact rfl); (case c3 => exact rfl); (case c4 => exact rfl); k_whole)
  intro g' L' h' hg' FG' F' N' B' X' T' l1
  (try k_lt l1)
  (try dsimp only)
  (try k_lift B')
  (try k_fold)
  k_steps
  · refine retDraw hret (fmod_in hm) ?_ ⟨hb0, hb⟩ (by k_asm) hg' (by k_asm) N (by assumption)
    · dsimp only [List.getD]
      rw [fdiv_pos hm]
      exact Int.ediv_nonneg ha (Int.le_of_lt hm)
  · have z := @fmod_in (b * 16807 + 3) 2147483647 (by decide)
    refine retDraw hret (fmod_in hm) ha ?_ (by k_asm) hg' (by k_asm) N (by assumption)
    exact ⟨z.1, Int.lt_trans z.2 (by decide)⟩
theorem law_some_c {w : World} (l : Addr) (a b : Int) (t1 t2 : Tok) (c : Nat) (ha : 0 ≤ a) (hb0 : 0 ≤ b) (hb : b < 4294967296) (k : Str) (t : Tok) (hk : Kind k) : Clo w 265 12 [(l, W.listOf #[.int a t1, .int b t2] c)] (fun _ => True) [.ref l, .str k t] (RetDraw l fun d => lo k ≤ d ∧ d ≤ hi k) := by
  unfold Clo RetDraw
  k_fill
  intro dp un gd cn cs a ccd cl outer A₀ base h₀ L m s Q E p loose mean mg mb B F X N hP T hcs hdp hun hret
  have hl := klen k hk
  have hb := kbig k hk
  have hw := kw_le k hk
  refine wpAny_call ?_
  k_dflt (refine' own_plain ?k1 ?k2 ?k3 ?k4 ?k5 ?kA ?kF ?kK ?k6 ?k7 ?k8 ?k9 ?kB ?_ ?c2 ?c3 ?c4 ?c5; (case kA => exact rfl); (case kF => exact rfl); (case kK => assumption); (case k1 => k_asm); (case k2 => k_asm); (case k3 => k_asm); (case k4 => exact N); (case k5 => k_asm); (case k6 => k_is); (case k7 => k_is); (case k8 => ktr_room); (case k9 => exact BindsTo.of_eq rfl); (case c5 => decide); (case kB => exact locs rfl); (case c2 => exact rfl); (case c3 => exact rfl); (case c4 => exact rfl); k_whole)
  intro g' L' h' hg' FG' F' N' B' X' T' l1
  (try k_lt l1)
  (try dsimp only)
  (try k_lift B')
  (try k_fold)
  have lh := lohi k hk
  have sp := span k hk
  repeat' (first
      | (k_unfold; (try dsimp only))
      | (k_end; kc_close)
      | ((with_reducible show wpAny _ _ (call (Value.ref _) _) _ _ _); first
        | (with_reducible ((with_reducible show wpAny _ _ (call (Value.ref 244) _) _ _ _); k_here; (with_reducible rename News _ _ _ _ => lN9z); k_dflt (refine' clo_useI (by k_asm) (by k_asm) (by k_asm) (by walk_at "my own") (by trivial) (law_out_c _ _ _ _ _ _ (by assumption) (by assumption) (by assumption) _ _ (by walk_at "my pos") (by walk_at "my log")) (by k_asm) (by first | exact rfl | assumption) (by ktr_room) (by ktr_units) ?_; k_whole); intro d'z a'z b'z t'z t1'z t2'z c'z h'z tk'z hd'z ha'z hb0'z hb1'z F'z kN9z; (walk_at "my back"); (try dsimp only); (try dsimp only); (try k_fold); (try k_sweep)))
        | (with_reducible ((with_reducible show wpAny _ _ (call (Value.ref 251) _) _ _ _); k_here; k_dflt (refine' clm_use (law_ends_c _ _ (by assumption)) (by k_asm) (by k_asm) (by k_asm) (by k_asm) (by k_asm) (by first | exact rfl | assumption) (by ktr_room) (by ktr_units) ?_; k_whole); intro q'z t1'z t2'z h'z tk'z F'z N'z l1'z; (try k_lt l1'z); (try dsimp only); (try k_fold); (try k_sweep)))
        | fail)
      | walk1
      | (dsimp only; walk1)
      | (leave1; walk_say "STEP leave1"; (try dsimp only))
      | fail "no step")
  all_goals (rename News g' _ _ _ => nN; first | (have zN : News g' _ _ [(l, _)] := news_head nN) | (have zN : News g' _ _ [(l, _)] := news_head (News.tail1 nN)))
  all_goals (refine retDraw (N' := zN) hret ?_ (by assumption) ⟨by assumption, by assumption⟩ (by k_asm) hg' (by k_asm) N)
  · rename 0 ≤ _ ∧ _ < (6 : Int) => hd6
    exact some_in hk hd6.1 (by assumption)
  · rename 0 ≤ _ ∧ _ < hi k - lo k + 1 => hd6
    omega
  · rename 0 ≤ _ ∧ _ < (20 : Int) => hd6
    split <;> omega

/- G12 -/

/-- the pot is made -/
abbrev RetPot : Heap → Addr → (Str → Option Value) → Shared → (Value → Shared → Prop) → (Value → Shared → Prop) → Prop :=
  fun h₀ L m s Q _ => ∀ (l : Addr) (a b : Int) (t1 t2 : Tok) (c : Nat) (h' : Heap) (tk' : Nat), 0 ≤ a → 0 ≤ b → b < 4294967296 → Fr h₀ L h' m → (∀ nw, News h₀ L s.heap nw → News h₀ L h' ((l, W.listOf #[.int a t1, .int b t2] c) :: nw)) → (∀ nw, News h₀ L s.heap nw → LCg.Off1 l nw) → Q (.ref l) { s with heap := h', toks := tk' }
theorem retPot {l : Addr} {a b : Int} {h₀ h' g : Heap} {L L' : Addr} {m m' : Str → Option Value} {s : Shared} {Q : Value → Shared → Prop} {t1 t2 : Tok} {c tk' : Nat} {rest : List (Addr × Obj)}
    (hret : ∀ (l : Addr) (a b : Int) (t1 t2 : Tok) (c : Nat) (h' : Heap) (tk' : Nat), 0 ≤ a → 0 ≤ b → b < 4294967296 → Fr h₀ L h' m → (∀ nw, News h₀ L s.heap nw → News h₀ L h' ((l, W.listOf #[.int a t1, .int b t2] c) :: nw)) → (∀ nw, News h₀ L s.heap nw → LCg.Off1 l nw) → Q (.ref l) { s with heap := h', toks := tk' })
    (ha : 0 ≤ a) (hb : 0 ≤ b ∧ b < 4294967296) (F : Fr h₀ L h' m) (hg : ∀ b o, s.heap.get? b = some o → b ∉ ([] : List (Addr × Obj)).map (·.1) → g.get? b = some o) (FG : Fr g L' h' m') (N' : News h₀ L h' [(l, W.listOf #[.int a t1, .int b t2] c)]) (N2 : News g L' h' ((l, W.listOf #[.int a t1, .int b t2] c) :: rest)) : Q (.ref l) { s with heap := h', toks := tk' } := by
  refine hret l a b t1 t2 c h' tk' ha hb.1 hb.2 F (fun nw hn p hp => ?_) (off_of hg N2)
  rcases List.mem_cons.mp hp with rfl | hp
  · exact N' _ (.head _)
  · exact keeps_all hg FG nw hn p hp
theorem pot_b (x : Int) : 0 ≤ x.fmod 2147483629 + 23 ∧ x.fmod 2147483629 + 23 < 4294967296 := by
  have z := @fmod_in x 2147483629 (by decide)
  omega

local macro_rules | `(tactic| walk_at "my script") => `(tactic| first | assumption | ((with_reducible rename Fr _ _ _ _ => lF8); exact Heap.IsList.at (by assumption) fun o e => lF8.keep _ _ e))
theorem law_pot_c {w : World} (sc : Addr) (ys : List Value) (ns : List Int) (hI : IntsAre ys ns) (hL : ns.length ≤ 63) (hB : ∀ n ∈ ns, Builtin.Int.intBits n ≤ 1048576) : Clo w 237 8 [] (fun h => h.IsList sc ys.toArray) [.ref sc] (RetPot) := by
  unfold Clo RetPot
  k_fill
  intro dp un gd cn cs a ccd cl outer A₀ base h₀ L m s Q E p loose mean mg mb B F X N hP T hcs hdp hun hret
  refine wpAny_call ?_
  k_dflt (refine' own_plain ?k1 ?k2 ?k3 ?k4 ?k5 ?kA ?kF ?kK ?k6 ?k7 ?k8 ?k9 ?kB ?_ ?c2 ?c3 ?c4 ?c5; (case kA => exact rfl); (case kF => exact rfl); (case kK => assumption); (case k1 => k_asm); (case k2 => k_asm); (case k3 => k_asm); (case k4 => exact N); (case k5 => k_asm); (case k6 => k_is); (case k7 => k_is); (case k8 => ktr_room); (case k9 => exact BindsTo.of_eq rfl); (case c5 => decide); (case kB => exact locs rfl); (case c2 => exact rfl); (case c3 => exact rfl); (case c4 => exact rfl); k_whole)
  intro g' L' h' hg' FG' F' N' B' X' T' l1
  (try k_lt l1)
  have hbL : g'.IsList sc ys.toArray := hP.at fun o e => hg' sc o e List.not_mem_nil
  (try dsimp only)
  (try k_lift B')
  (try k_fold)
  k_steps
  all_goals (rename News g' _ _ _ => nN)
  all_goals (refine retPot (N2 := nN) hret ?_ (pot_b _) (by k_asm) hg' (by k_asm) (by assumption))
  all_goals (try omega)

/- Tc -/
section
open PyProof.Rows.LCg
variable {prog : Program} {w : World} {A : Around} {E : Value → Shared → Prop} {s : Shared} {h₀ : Heap} {L : Addr} {m : Str → Option Value} {env : Env}
noncomputable def TupSrc (prog : Program) (w : World) (A : Around) (h₀ : Heap) (L : Addr) (m : Str → Option Value) (env : Env) (elt : Expr) (x : Str) (scope : Scope) (cl : List (Str × Addr)) (Fin : Shared → List Value → List (Addr × Obj) → Prop) (xv : Value) (s₁ : Shared) : Prop :=
  ∃ (ax : Addr) (its : Array Value) (k : Nat) (news : List (Addr × Obj)), xv = .ref ax ∧ A.handled = none ∧ Fr h₀ L s₁.heap m ∧ News h₀ L s₁.heap news ∧ (ax, ({ cls := .type "tuple", data := .seq its k } : Obj)) ∈ news ∧ its.size ≤ sizeLine ∧
    ∀ s₂ : Shared, (∃ h, s₂ = { s₁ with heap := h }) → CompRest prog w A h₀ L m env elt x scope cl s₂ (fun nw => (ax, ({ cls := .type "tuple", data := .seq its k } : Obj)) ∈ nw) (fun i v => its[i]? = some v) (Fin s₂) its.size 0 [] news
theorem tup_st {ax I : Addr} {its : Array Value} {k : Nat} : ∀ i (h h' : Heap) (o : Obj) (nw : List (Addr × Obj)), (h.IsTupleIter I ax i ∧ h.IsTuple ax its) → h.get? I = some o → h'.get? I = some o → (∀ b o, h₀.get? b = some o → h'.get? b = some o) → News h₀ L h' nw → (ax, ({ cls := .type "tuple", data := .seq its k } : Obj)) ∈ nw → (h'.IsTupleIter I ax i ∧ h'.IsTuple ax its) :=
  fun i h h' o nw st e e' _ N S => ⟨by obtain ⟨o', q, r⟩ := st.1; rw [e] at q; cases q; exact ⟨o, e', r⟩, _, (N _ S).1, rfl, _, rfl⟩
theorem tup_ListComp {elt iter : Expr} {x : Str} {px : Pos} {scope : Scope} {cl : List (Str × Addr)} {pos : Pos} {Q : Value → Shared → Prop} (_F₀ : Fr h₀ L s.heap m)
    (hclos : closureFor scope env = pure cl) (hcell : ∀ y ∈ scope.names, y.2 ≠ .cell) (hkind : scope.kind = .function)
    (hnames : ∀ y ∈ scope.names, y.2 = .local → scope.names.lookup y.1 = some .local) (hx : scope.names.lookup x = some .local)
    (h : wpAny (model prog w) A (eval iter env) (TupSrc prog w A h₀ L m env elt x scope cl (fun s₂ => FinE h₀ L m s₂ Q)) E s)
    (hs : ∀ x, foldedSetIterable iter env x = pure x := by intro _; rfl) :
    wpAny (model prog w) A (eval (.ListComp elt [⟨.Name x px, iter, [], 0⟩] scope pos) env) Q E s := by
  rw [eval_ListComp]
  refine wpAny_comprehension_free (use := none) rfl hs hclos hkind hnames (wpAny_mono h (fun xv s₁ h₁ => ?_) fun _ _ e => e)
  obtain ⟨ax, its, k, news, rfl, hh, F, N, S, hsz, R⟩ := h₁
  have hl : s₁.heap.IsTuple ax its := ⟨_, (N _ S).1, rfl, _, rfl⟩
  have hlt : ax < s₁.heap.objs.size := Heap.lt_size (N _ S).1
  refine wpAny_pyIter_tuple hl ?_
  have up : ∀ b o, s₁.heap.get? b = some o → (s₁.heap.push { cls := .type "tuple_iterator", data := .fields #[.ref ax, .int 0 0] }).get? b = some o := fun b o e => Heap.get?_push_of_some _ e
  refine block_U (Walks.tuple hh s₁.heap.objs.size ax (Nat.ne_of_lt hlt) its) hsz (fun i h st => by obtain ⟨o, e, _⟩ := st.1; exact ⟨o, e⟩) tup_st hcell hkind hx ⟨⟨_, Heap.get?_push_size _ rfl, rfl, rfl⟩, hl.push _⟩ (fun b hb => ?_)
    (F.keeps up) (N.grown up) (Nat.ne_of_lt F.ns.lt) (next_is_new F) (fun p hp => Nat.ne_of_lt (Heap.lt_size (N p hp).1)) S (R _ ⟨_, rfl⟩) ?_
  · show b < (s₁.heap.push _).objs.size
    rw [Heap.size_push]
    rcases List.mem_cons.mp hb with rfl | hb
    · exact Nat.lt_succ_self _
    · rw [List.mem_singleton.mp hb]; exact Nat.lt_succ_of_lt hlt
  · intro D C h tk m' ys news' F' N' o1 hn hC₀ hD₀ hCL hDL hCD offC fin
    refine ⟨m', hn, fun h'' hs'' => fin D h'' tk (F'.change hs'' hCL hC₀) (fun p hp => ?_) o1⟩
    refine ⟨hs''.extBut _ _ ?_ (N' p hp).1, (N' p hp).2⟩
    rcases List.mem_cons.mp hp with rfl | hp
    · exact Ne.symm hCD
    · exact offC p hp
theorem TupSrc.ints {elt : Expr} {x : Str} {scope : Scope} {cl : List (Str × Addr)} {Fin : Shared → List Value → List (Addr × Obj) → Prop} {ax : Addr} {vs : List Value} {ns : List Int} {k : Nat} {news : List (Addr × Obj)} {s₁ : Shared} (g : Int → Int)
    (hh : A.handled = none) (F : Fr h₀ L s₁.heap m) (N : News h₀ L s₁.heap news) (hm : (ax, ({ cls := .type "tuple", data := .seq vs.toArray k } : Obj)) ∈ news) (hI : IntsAre vs ns) (hL : ns.length ≤ 64)
    (turn : ∀ g' k' t I oI C oC D m₂ ys h tk (E' : Value → Shared → Prop), k' ∈ ns → NsObj oC m₂ → m₂ x = some (.int k' t) → Fr h₀ L h m → News h₀ L h ((I, oI) :: (C, oC) :: (D, lst ys) :: news) → Off3 I C D news → ((@Ne Nat I C) ∧ (@Ne Nat I D) ∧ (@Ne Nat C D)) →
      wpAny (model prog w) A (eval elt (compEnvC scope cl C env)) (CompEnd h₀ L m { { s₁ with heap := g' } with heap := h, toks := tk } I oI C oC D (lst ys) (fun nw => (ax, ({ cls := .type "tuple", data := .seq vs.toArray k } : Obj)) ∈ nw) (fun y news' => KCfEl news (g k') y news')) E' { { s₁ with heap := g' } with heap := h, toks := tk })
    (fin : ∀ g' ys, IntsAre ys (ns.map g) → Fin { s₁ with heap := g' } ys news) : TupSrc prog w A h₀ L m env elt x scope cl Fin (.ref ax) s₁ := by
  refine ⟨ax, vs.toArray, k, news, rfl, hh, F, N, hm, by rw [List.size_toArray, hI.length, PySem.sizeLine_eq]; omega, fun s₂ ⟨g', e⟩ => ?_⟩
  subst e
  exact kcf_list g hI (fun k' t I oI C oC D m₂ ys h tk E' hk hC hx F N off ne _ => turn g' k' t I oI C oC D m₂ ys h tk E' hk hC hx F N off ne) (fin g')
end

/- Zp -/
theorem zip_no_len : typeLookup (.type "zip") "__len__" = pure none := by rw [typeLookup_type, builtinLookup_eq_fast]; kernel_rfl
theorem zip_no_hint : typeLookup (.type "zip") "__length_hint__" = pure none := by rw [typeLookup_type, builtinLookup_eq_fast]; kernel_rfl
/-- a zip that has handed out its tuple -/
def ZipB (h : Heap) (z TI TO T : Addr) : Prop :=
  ∃ b : Bool, h.get? z = some { cls := .type "zip", dict := none, data := .fields #[rawInt T, .bool b, .bool false, .ref TI, .ref TO], slots := #[] }
section
variable {prog : Program} {w : World} {A : Around} {E : Value → Shared → Prop} {s : Shared}
theorem wpAny_alive {M : Model} {a : Addr} {Q : Option Obj → Shared → Prop} (h : Q (s.heap.get? a) s) : wpAny M A (loadIfAlive a) Q E s := fun _ _ _ => h
theorem zipB_free {z TI TO T : Addr} {Q : Bool → Shared → Prop} (hz : ZipB s.heap z TI TO T) (hT : ∃ o, s.heap.get? T = some o)
    (h : ∀ h', ZipB h' z TI TO T → Heap.SameBut z s.heap h' → Q false { s with heap := h' }) : wpAny (model prog w) A (Builtin.SmallTypes.ownedTupleIsFree (.ref z)) Q E s := by
  obtain ⟨b, hz⟩ := hz
  obtain ⟨oT, hT⟩ := hT
  unfold Builtin.SmallTypes.ownedTupleIsFree
  refine wpAny_bind (wpAny_field hz rfl (x := rawInt T) rfl ?_)
  show wpAny _ _ (loadIfAlive ((T : Int).toNat) >>= _) _ _ _
  refine wpAny_bind (wpAny_alive ?_)
  have e : s.heap.get? ((T : Int).toNat) = some oT := hT
  rw [e, if_neg (by simp)]
  refine wpAny_bind (wpAny_field hz rfl (x := .bool b) rfl ?_)
  cases b with
  | true =>
    rw [if_neg (by decide)]
    exact wpAny_pure (h _ ⟨true, hz⟩ (Heap.SameBut.refl ..))
  | false =>
    rw [if_pos (by decide)]
    refine wpAny_bind (wpAny_setField_rec hz (by simp) fun h' hz' hs' => wpAny_pure (h _ ⟨true, hz'⟩ hs'))
/-- the zip's next pair, its first tuple still held -/
theorem zipB_item {z TI TO T i1 i2 l1 l2 : Addr} {k1 k2 : Nat} {xs ys : Array Value} {x y : Value} {Q : Value → Shared → Prop} (D : ZipApart z TI TO i1 i2 l1 l2)
    (hz : ZipB s.heap z TI TO T) (hT : ∃ o, s.heap.get? T = some o) (hTI : IsPair s.heap TI (.ref i1) (.ref i2))
    (h1 : s.heap.IsListIter i1 l1 k1) (h2 : s.heap.IsListIter i2 l2 k2) (hl1 : s.heap.IsList l1 xs) (hl2 : s.heap.IsList l2 ys) (hx : xs[k1]? = some x) (hy : ys[k2]? = some y)
    (hQ : ∀ h' P, ZipB h' z TI TO T → h'.IsListIter i1 l1 (k1 + 1) → h'.IsListIter i2 l2 (k2 + 1) → IsPair h' P x y → s.heap.objs.size ≤ P →
      (∀ c o, c ≠ z → c ≠ i1 → c ≠ i2 → s.heap.get? c = some o → h'.get? c = some o) → Q (.ref P) { s with heap := h' }) :
    wpAny (model prog w) A (Builtin.«zip.__next__» ⟨[.ref z], []⟩) (fun fin s' => ∃ v, fin = .done (.ret v) ∧ Q v s') E s := by
  obtain ⟨b, hz0⟩ := id hz
  show wpAny _ _ (field (.ref z) 2 >>= _) _ _ _
  refine wpAny_bind (wpAny_field hz0 rfl (x := .bool false) rfl ?_)
  show wpAny _ _ (field (.ref z) 3 >>= _) _ _ _
  refine wpAny_bind (wpAny_field hz0 rfl (x := .ref TI) rfl ?_)
  refine wpAny_bind (wpAny_seqItems hTI rfl ?_)
  show wpAny _ _ (Builtin.SmallTypes.ownedTupleIsFree (.ref z) >>= _) _ _ _
  refine wpAny_bind (zipB_free hz hT fun h₁ hz₁ hs₁ => ?_)
  simp only [Bool.false_eq_true, if_false, List.forIn_toArray, List.forIn_cons, List.forIn_nil]
  have h1₁ : h₁.IsListIter i1 l1 k1 := h1.extBut hs₁.extBut D.i1z
  have hl1₁ : h₁.IsList l1 xs := hl1.extBut hs₁.extBut D.l1z
  refine wpAny_bind (wpAny_bind (wpAny_bind (wpAny_holding ?_)))
  show wpAny _ _ (Builtin.SmallTypes.nextOf (.ref i1) >>= _) _ _ _
  refine wpAny_bind (wpAny_nextOf_list_item h1₁ hl1₁ hx fun h₂ h1₂ hs₂ => wpAny_pure (wpAny_pure ?_))
  refine wpAny_bind (wpAny_bind (wpAny_holding ?_))
  show wpAny _ _ (Builtin.SmallTypes.nextOf (.ref i2) >>= _) _ _ _
  refine wpAny_bind (wpAny_nextOf_list_item (((h2.extBut hs₁.extBut D.i2z).extBut hs₂.extBut D.i12.symm)) ((hl2.extBut hs₁.extBut D.l2z).extBut hs₂.extBut D.l2i1) hy fun h₃ h2₃ hs₃ => wpAny_pure (wpAny_pure ?_))
  refine wpAny_pure ?_
  show wpAny _ _ (newTuple [x, y] >>= _) _ _ _
  refine wpAny_bind (wpAny_newTuple ?_)
  have up : ∀ c o, c ≠ z → c ≠ i1 → c ≠ i2 → s.heap.get? c = some o → h₃.get? c = some o := fun c o a1 a2 a3 e => hs₃.extBut _ _ a3 (hs₂.extBut _ _ a2 (hs₁.extBut _ _ a1 e))
  have hz₃ : ZipB (h₃.push { cls := .type "tuple", data := .seq #[x, y] }) z TI TO T := by
    obtain ⟨b', e⟩ := hz₁
    exact ⟨b', Heap.get?_push_of_some _ (hs₃.extBut _ _ D.i2z.symm (hs₂.extBut _ _ D.i1z.symm e))⟩
  refine wpAny_pure ⟨_, rfl, hQ _ _ hz₃ ((h1₂.extBut hs₃.extBut D.i12).at fun o e => Heap.get?_push_of_some _ e) (h2₃.at fun o e => Heap.get?_push_of_some _ e) (Heap.get?_push_size _ rfl) ?_ fun c o a1 a2 a3 e => Heap.get?_push_of_some _ (up c o a1 a2 a3 e)⟩
  rw [hs₃.1, hs₂.1, hs₁.1]
  exact Nat.le_refl _
theorem zipB_end {z TI TO T i1 i2 l1 l2 : Addr} {k1 : Nat} {xs : Array Value} {Q : Fin → Shared → Prop} (hh : A.handled = none) (D : ZipApart z TI TO i1 i2 l1 l2)
    (hz : ZipB s.heap z TI TO T) (hT : ∃ o, s.heap.get? T = some o) (hTI : IsPair s.heap TI (.ref i1) (.ref i2))
    (h1 : s.heap.IsListIter i1 l1 k1) (hl1 : s.heap.IsList l1 xs) (hx : xs[k1]? = none)
    (hE : ∀ h' e, (∀ c o, c ≠ z → c ≠ i1 → s.heap.get? c = some o → h'.get? c = some o) → (∃ o, h'.get? e = some o ∧ o.cls = .type "StopIteration") → E (.ref e) { s with heap := h' }) :
    wpAny (model prog w) A (Builtin.«zip.__next__» ⟨[.ref z], []⟩) Q E s := by
  obtain ⟨b, hz0⟩ := id hz
  show wpAny _ _ (field (.ref z) 2 >>= _) _ _ _
  refine wpAny_bind (wpAny_field hz0 rfl (x := .bool false) rfl ?_)
  show wpAny _ _ (field (.ref z) 3 >>= _) _ _ _
  refine wpAny_bind (wpAny_field hz0 rfl (x := .ref TI) rfl ?_)
  refine wpAny_bind (wpAny_seqItems hTI rfl ?_)
  show wpAny _ _ (Builtin.SmallTypes.ownedTupleIsFree (.ref z) >>= _) _ _ _
  refine wpAny_bind (zipB_free hz hT fun h₁ hz₁ hs₁ => ?_)
  simp only [Bool.false_eq_true, if_false, List.forIn_toArray, List.forIn_cons, List.forIn_nil]
  refine wpAny_bind (wpAny_bind (wpAny_bind (wpAny_holding ?_)))
  show wpAny _ _ (Builtin.SmallTypes.nextOf (.ref i1) >>= _) _ _ _
  refine wpAny_bind (wpAny_nextOf_list_end hh (h1.extBut hs₁.extBut D.i1z) (hl1.extBut hs₁.extBut D.l1z) hx fun h₂ e hs₂ he => ?_)
  exact hE _ _ (fun c o a1 a2 x => hs₂ _ _ a2 (hs₁.extBut _ _ a1 x)) he
theorem zipB_pyNext {z TI TO T i1 i2 l1 l2 : Addr} {k : Nat} {xs ys : Array Value} {x y : Value} {Q : Option Value → Shared → Prop} (D : ZipApart z TI TO i1 i2 l1 l2)
    (hz : ZipB s.heap z TI TO T) (hT : ∃ o, s.heap.get? T = some o) (hTI : IsPair s.heap TI (.ref i1) (.ref i2))
    (h1 : s.heap.IsListIter i1 l1 k) (h2 : s.heap.IsListIter i2 l2 k) (hl1 : s.heap.IsList l1 xs) (hl2 : s.heap.IsList l2 ys) (hx : xs[k]? = some x) (hy : ys[k]? = some y)
    (hQ : ∀ h' P, ZipB h' z TI TO T → h'.IsListIter i1 l1 (k + 1) → h'.IsListIter i2 l2 (k + 1) → IsPair h' P x y → s.heap.objs.size ≤ P →
      (∀ c o, c ≠ z → c ≠ i1 → c ≠ i2 → s.heap.get? c = some o → h'.get? c = some o) → Q (some (.ref P)) { s with heap := h' }) : wpAny (model prog w) A (pyNext (.ref z)) Q E s := by
  have hTy : s.TypeIs (.ref z) "zip" := by obtain ⟨b, e⟩ := hz; exact ⟨_, e, rfl⟩
  unfold pyNext
  exact wpAny_bind (wpAny_attempt (wpAny_callSpecial?_slot (name := Str.ofString "__next__") hTy F.slot_zip_next
    (wpAny_call_entry F.slot_zip_next hTy F.entry_zip_next
      (zipB_item D hz hT hTI h1 h2 hl1 hl2 hx hy fun h' P a1 a2 a3 a4 a5 a6 => wpAny_pure (hQ h' P a1 a2 a3 a4 a5 a6)) (F.args_zip_next_1 _))))
theorem zipB_pyNext_end {z TI TO T i1 i2 l1 l2 : Addr} {k : Nat} {xs : Array Value} {Q : Option Value → Shared → Prop} (hh : A.handled = none) (D : ZipApart z TI TO i1 i2 l1 l2)
    (hz : ZipB s.heap z TI TO T) (hT : ∃ o, s.heap.get? T = some o) (hTI : IsPair s.heap TI (.ref i1) (.ref i2))
    (h1 : s.heap.IsListIter i1 l1 k) (hl1 : s.heap.IsList l1 xs) (hx : xs[k]? = none)
    (hQ : ∀ h', (∀ c o, c ≠ z → c ≠ i1 → s.heap.get? c = some o → h'.get? c = some o) → Q none { s with heap := h' }) : wpAny (model prog w) A (pyNext (.ref z)) Q E s := by
  have hTy : s.TypeIs (.ref z) "zip" := by obtain ⟨b, e⟩ := hz; exact ⟨_, e, rfl⟩
  unfold pyNext
  refine wpAny_bind (wpAny_attempt (wpAny_callSpecial?_slot (name := Str.ofString "__next__") hTy F.slot_zip_next
    (wpAny_call_entry F.slot_zip_next hTy F.entry_zip_next (zipB_end hh D hz hT hTI h1 hl1 hx fun h' e hk he => ?_) (F.args_zip_next_1 _))))
  obtain ⟨o, ho, hc⟩ := he
  refine wpAny_bind (wpAny_isInstance (T := "StopIteration") (b := true) ⟨o, ho, hc⟩ isSubtype_stop ?_)
  exact wpAny_pure (hQ _ hk)

theorem ne_lo {a b c : Nat} (h : a < b) (hc : b ≤ c) : c ≠ a := by omega
abbrev tup2 (x y : Value) : Obj := { cls := .type "tuple", data := .seq #[x, y] }
/-- the pairs so far -/
structure ZPairs (h : Heap) (base : Nat) (xs ys : Array Value) (tl : List (Addr × Obj)) : Prop where
  at' : ∀ p ∈ tl, h.get? p.1 = some p.2 ∧ base ≤ p.1
  is : ∀ (j : Nat) (p : Addr × Obj), tl[j]? = some p → ∃ x y, xs[j]? = some x ∧ ys[j]? = some y ∧ p.2 = tup2 x y
theorem ZPairs.keep {h h' : Heap} {base : Nat} {xs ys : Array Value} {tl : List (Addr × Obj)} (Z : ZPairs h base xs ys tl) (k : ∀ c o, base ≤ c → h.get? c = some o → h'.get? c = some o) : ZPairs h' base xs ys tl :=
  ⟨fun p hp => ⟨k _ _ (Z.at' p hp).2 (Z.at' p hp).1, (Z.at' p hp).2⟩, Z.is⟩
theorem ZPairs.snoc {h : Heap} {base P : Nat} {xs ys : Array Value} {tl : List (Addr × Obj)} {x y : Value} (Z : ZPairs h base xs ys tl) (hx : xs[tl.length]? = some x) (hy : ys[tl.length]? = some y) (hP : IsPair h P x y) (hb : base ≤ P) : ZPairs h base xs ys (tl ++ [(P, tup2 x y)]) := by
  refine ⟨fun p hp => ?_, fun j p hj => ?_⟩
  · rcases List.mem_append.mp hp with hp | hp
    · exact Z.at' p hp
    · rw [List.mem_singleton.mp hp]; exact ⟨hP, hb⟩
  · by_cases hlt : j < tl.length
    · rw [List.getElem?_append_left hlt] at hj; exact Z.is j p hj
    · rw [List.getElem?_append_right (Nat.not_lt.mp hlt)] at hj
      by_cases h0 : j - tl.length = 0
      · rw [h0] at hj
        have : j = tl.length := by omega
        subst this
        cases hj
        exact ⟨x, y, hx, hy, rfl⟩
      · rw [List.getElem?_eq_none (by simp; omega)] at hj; cases hj
abbrev refsOf (tl : List (Addr × Obj)) : List Value := tl.map fun p => .ref p.1
structure ZApart (z TO i1 i2 S base : Nat) : Prop where
  z : z < base
  TO : TO < base
  i1 : i1 < base
  i2 : i2 < base
  S : S < base
section
variable {R : Result → Shared → Prop}
theorem zip_loop {z TI TO i1 i2 l1 l2 T S base : Nat} {xs ys : Array Value} {res : Value} (hh : A.handled = none) (D : ZipApart z TI TO i1 i2 l1 l2) (B : ZApart z TO i1 i2 S base) (hSz : S ≠ z) (hSTI : S ≠ TI) (hS1 : S ≠ i1) (hS2 : S ≠ i2) (hSl1 : S ≠ l1) (hSl2 : S ≠ l2) (hST : S ≠ T) (hsz : xs.size = ys.size) (hlen : xs.size ≤ 1000) :
    ∀ (k i : Nat) (s : Shared) (tl : List (Addr × Obj)) (c : Nat), xs.size - i = k → i ≤ xs.size → tl.length = i → ZipB s.heap z TI TO T → (∃ o, s.heap.get? T = some o) → T ≠ z → T ≠ i1 → T ≠ i2 → IsPair s.heap TI (.ref i1) (.ref i2) →
    s.heap.IsListIter i1 l1 i → s.heap.IsListIter i2 l2 i → s.heap.IsList l1 xs → s.heap.IsList l2 ys → s.heap.get? S = some { cls := .type "list", dict := none, data := .seq (refsOf tl).toArray c, slots := #[] } → ZPairs s.heap base xs ys tl → base ≤ s.heap.objs.size →
    (∀ h' tl' c', tl'.length = xs.size → h'.get? S = some { cls := .type "list", dict := none, data := .seq (refsOf tl').toArray c', slots := #[] } → ZPairs h' base xs ys tl' → (∀ c o, c ≠ z → c ≠ i1 → c ≠ i2 → c ≠ S → s.heap.get? c = some o → h'.get? c = some o) → R (.ok (.ret res)) { s with heap := h' }) →
    codeAny (model prog w) A (.builtin "list.extend.loop" ⟨[.ref S, .ref z, res], []⟩) R s := by
  intro k
  induction k with
  | zero =>
    intro i s tl c hk hi hl hz hT t1 t2 t3 hTI h1 h2 hl1 hl2 hS Z hb hR
    have hin : i = xs.size := by omega
    refine codeAny_builtin F.entry_extend_loop ?_
    rw [Around.under_plainId F.plain_extend_loop _]
    show wpAny _ A.in1 (pyNext (.ref z) >>= _) _ _ s
    refine wpAny_bind (zipB_pyNext_end hh D hz hT hTI h1 hl1 (Array.getElem?_eq_none (by omega)) fun h' hk' => ?_)
    have hlt : ∀ {c o}, s.heap.get? c = some o → c < s.heap.objs.size := fun e => Heap.lt_size e
    exact wpAny_pure (hR h' tl c (by omega) (hk' _ _ hSz hS1 hS) (Z.keep fun c o hc e => hk' c o (ne_lo B.z hc) (ne_lo B.i1 hc) e) fun c o a1 a2 _ _ e => hk' c o a1 a2 e)
  | succ k ih =>
    intro i s tl c hk hi hl hz hT t1 t2 t3 hTI h1 h2 hl1 hl2 hS Z hb hR
    have hlt : i < xs.size := by omega
    refine codeAny_builtin F.entry_extend_loop ?_
    rw [Around.under_plainId F.plain_extend_loop _]
    show wpAny _ A.in1 (pyNext (.ref z) >>= _) _ _ s
    refine wpAny_bind (zipB_pyNext D hz hT hTI h1 h2 hl1 hl2 (Array.getElem?_eq_getElem hlt) (Array.getElem?_eq_getElem (hsz ▸ hlt)) fun h' P hz' h1' h2' hP hPb hk' => ?_)
    have hS' := hk' _ _ hSz hS1 hS2 hS
    show wpAny _ A.in1 (updateSeq S (·.push (.ref P)) >>= _) _ _ _
    refine wpAny_bind ?_
    have hSs : (refsOf tl).toArray.size = i := by simp [hl]
    have z24 : PySem.sizeLine = 16777216 := PySem.sizeLine_eq
    obtain ⟨oT, hT⟩ := hT
    have hPS : P ≠ S := ne_lo B.S (Nat.le_trans hb hPb)
    have hk2 : ∀ c o, c ≠ S → h'.get? c = some o → (h'.update S (Obj.mapSeq (·.push (.ref P)))).get? c = some o := fun c o hc e => (Heap.get?_update_other _ _ (Ne.symm hc)).trans e
    have hsz' : s.heap.objs.size ≤ h'.objs.size := Nat.le_of_lt_succ (Nat.lt_succ_of_le (Nat.le_of_lt (Nat.lt_of_le_of_lt hPb (Heap.lt_size hP))))
    refine wpAny_updateSeq (o := { cls := .type "list", dict := none, data := .seq (refsOf tl).toArray c, slots := #[] }) hS' rfl (wpAny_pure ⟨plainId_quiet F.plain_extend_loop _, ih (i + 1) _ (tl ++ [(P, tup2 xs[i] (ys[i]'(hsz ▸ hlt)))]) (c + 1) (by omega) hlt (by simp [hl]) ?_ ⟨oT, ?_⟩ t1 t2 t3 ?_ ?_ ?_ ?_ ?_ ?_ ?_ ?_ ?_⟩) (by rw [hSs]; omega) (by show (Array.push _ _).size ≤ sizeLine + 1; rw [Array.size_push, hSs]; omega)
    · obtain ⟨b, e⟩ := hz'; exact ⟨b, hk2 _ _ hSz.symm e⟩
    · exact hk2 _ _ hST.symm (hk' _ _ t1 t2 t3 hT)
    · exact hk2 _ _ hSTI.symm (hk' _ _ D.TIz D.TIi1 D.TIi2 hTI)
    · exact h1'.at fun o e => hk2 _ o hS1.symm e
    · exact h2'.at fun o e => hk2 _ o hS2.symm e
    · exact hl1.at fun o e => hk2 _ o hSl1.symm (hk' _ o D.l1z D.l1i1 D.l1i2 e)
    · exact hl2.at fun o e => hk2 _ o hSl2.symm (hk' _ o D.l2z D.l2i1 D.l2i2 e)
    · refine (Heap.get?_update_self _ hS' rfl).trans ?_
      simp [Obj.mapSeq, refsOf]
    · refine ZPairs.snoc (Z.keep fun c o hc e => hk2 _ _ (ne_lo B.S hc) (hk' c o (ne_lo B.z hc) (ne_lo B.i1 hc) (ne_lo B.i2 hc) e)) (by rw [hl]; exact Array.getElem?_eq_getElem hlt) (by rw [hl]; exact Array.getElem?_eq_getElem (hsz ▸ hlt)) (hk2 _ _ hPS hP) (Nat.le_trans hb hPb)
    · show base ≤ (h'.update S _).objs.size
      rw [(Heap.SameBut.update h' S (Obj.mapSeq (·.push (.ref P)))).1]
      exact Nat.le_trans hb hsz'
    · intro h'' tl' c' x1 x2 x3 x4
      exact hR h'' tl' c' x1 x2 x3 fun c o a1 a2 a3 a4 e => x4 c o a1 a2 a3 a4 (hk2 c o a4 (hk' c o a1 a2 a3 e))
end

/-- a zip just made of two lists, all else older than it -/
def ZReady (h₀ h : Heap) (L z l1 l2 : Addr) (xs ys : Array Value) (news : List (Addr × Obj)) : Prop :=
  ∃ n0 : Nat, z = n0 + 4 ∧ IsZip h (n0 + 4) (n0 + 2) (n0 + 3) .none ∧ IsPair h (n0 + 2) (.ref n0) (.ref (n0 + 1)) ∧ IsPair h (n0 + 3) .none .none ∧ h.IsListIter n0 l1 0 ∧ h.IsListIter (n0 + 1) l2 0 ∧ h.objs.size = n0 + 5 ∧
    h.IsList l1 xs ∧ h.IsList l2 ys ∧ @LT.lt Nat _ l1 n0 ∧ @LT.lt Nat _ l2 n0 ∧ @LT.lt Nat _ L n0 ∧ (∀ p ∈ news, @LT.lt Nat _ p.1 n0) ∧ (∀ c o, h₀.get? c = some o → @LT.lt Nat _ c n0)
theorem call_zip_N {h₀ : Heap} {L l1 l2 : Addr} {m : Str → Option Value} {news : List (Addr × Obj)} {xs ys : Array Value} {Q : Value → Shared → Prop} (F : Fr h₀ L s.heap m) (N : News h₀ L s.heap news) (hl1 : s.heap.IsList l1 xs) (hl2 : s.heap.IsList l2 ys)
    (h : ∀ h' z, Fr h₀ L h' m → News h₀ L h' news → ZReady h₀ h' L z l1 l2 xs ys news → Q (.ref z) { s with heap := h' }) : wpAny (model prog w) A (call (.type "zip") [.ref l1, .ref l2]) Q E s := by
  refine call_zip_2 hl1 hl2 fun h' z1 z2 z3 z4 z5 z6 z7 => ?_
  refine h h' _ (F.keeps z7) (N.grown z7) ⟨_, rfl, z1, z2, z3, z4, z5, z6, hl1.at fun o e => z7 _ o e, hl2.at fun o e => z7 _ o e, ?_, ?_, F.ns.lt, fun p hp => Heap.lt_size (N p hp).1, fun c o e => Heap.lt_size (F.keep c o e)⟩
  · obtain ⟨_, e, _⟩ := hl1; exact Heap.lt_size e
  · obtain ⟨_, e, _⟩ := hl2; exact Heap.lt_size e
theorem zip_apart {n0 l1 l2 : Nat} (h1 : l1 < n0) (h2 : l2 < n0) : ZipApart (n0 + 4) (n0 + 2) (n0 + 3) n0 (n0 + 1) l1 l2 := by
  constructor <;> (show @Ne Nat _ _) <;> omega
theorem zip_first {n0 l1 l2 S : Nat} {xs ys : Array Value} {res : Value} {R : Result → Shared → Prop} (hh : A.handled = none) (h1 : l1 < n0) (h2 : l2 < n0) (hS : S = n0 + 5) (hsz : xs.size = ys.size) (hlen : xs.size ≤ 1000) (hpos : 0 < xs.size) {s : Shared} {c : Nat}
    (hz : IsZip s.heap (n0 + 4) (n0 + 2) (n0 + 3) .none) (hTI : IsPair s.heap (n0 + 2) (.ref n0) (.ref (n0 + 1))) (hTO : IsPair s.heap (n0 + 3) .none .none) (i1 : s.heap.IsListIter n0 l1 0) (i2 : s.heap.IsListIter (n0 + 1) l2 0)
    (hl1 : s.heap.IsList l1 xs) (hl2 : s.heap.IsList l2 ys) (hSo : s.heap.get? S = some { cls := .type "list", dict := none, data := .seq #[] c, slots := #[] }) (hb : s.heap.objs.size = n0 + 6)
    (hR : ∀ h' tl' c', tl'.length = xs.size → h'.get? S = some { cls := .type "list", dict := none, data := .seq (refsOf tl').toArray c', slots := #[] } → ZPairs h' (n0 + 6) xs ys tl' → (∀ c o, c < n0 → s.heap.get? c = some o → h'.get? c = some o) → R (.ok (.ret res)) { s with heap := h' }) :
    codeAny (model prog w) A (.builtin "list.extend.loop" ⟨[.ref S, .ref (n0 + 4), res], []⟩) R s := by
  have D := zip_apart h1 h2
  refine codeAny_builtin F.entry_extend_loop ?_
  rw [Around.under_plainId F.plain_extend_loop _]
  show wpAny _ A.in1 (pyNext (.ref (n0 + 4)) >>= _) _ _ s
  refine wpAny_bind (wpAny_pyNext_zip_item D hz hTI hTO i1 i2 hl1 hl2 (Array.getElem?_eq_getElem hpos) (Array.getElem?_eq_getElem (hsz ▸ hpos)) fun h' a1 a2 a3 a4 a5 a6 a7 => ?_)
  have ne : ∀ {a b : Nat}, a ≠ b → @Ne Addr a b := fun x => x
  have hS' := a7 S _ (ne (by omega)) (ne (by omega)) (ne (by omega)) (ne (by omega)) hSo
  show wpAny _ A.in1 (updateSeq S (·.push (.ref s.heap.objs.size)) >>= _) _ _ _
  refine wpAny_bind ?_
  have z24 : PySem.sizeLine = 16777216 := PySem.sizeLine_eq
  have hk2 : ∀ c o, c ≠ S → h'.get? c = some o → (h'.update S (Obj.mapSeq (·.push (.ref s.heap.objs.size)))).get? c = some o := fun c o hc e => (Heap.get?_update_other _ _ (Ne.symm hc)).trans e
  refine wpAny_updateSeq (o := { cls := .type "list", dict := none, data := .seq #[] c, slots := #[] }) hS' rfl (wpAny_pure ⟨plainId_quiet F.plain_extend_loop _, zip_loop (T := s.heap.objs.size) (TO := n0 + 3) (base := n0 + 6) hh D ⟨by omega, by omega, by omega, by omega, by omega⟩ (by omega) (by omega) (by omega) (by omega) (by omega) (by omega) (by omega) hsz hlen (xs.size - 1) 1 _ [(s.heap.objs.size, tup2 xs[0] (ys[0]'(hsz ▸ hpos)))] (c + 1) (by omega) hpos rfl ?_ ⟨tup2 xs[0] (ys[0]'(hsz ▸ hpos)), ?_⟩ (ne (by omega)) (ne (by omega)) (ne (by omega)) ?_ ?_ ?_ ?_ ?_ ?_ ?_ ?_ ?_⟩) (by simp) (by simp)
  · exact ⟨false, hk2 _ _ (ne (by omega)) a1⟩
  · exact hk2 _ _ (ne (by omega)) a5
  · exact hk2 _ _ (ne (by omega)) (a7 _ _ (ne (by omega)) (ne (by omega)) (ne (by omega)) (ne (by omega)) hTI)
  · exact a3.at fun o e => hk2 _ o (ne (by omega)) e
  · exact a4.at fun o e => hk2 _ o (ne (by omega)) e
  · exact hl1.at fun o e => hk2 _ o (ne (by omega)) (a7 _ o D.l1z D.l1TO D.l1i1 D.l1i2 e)
  · exact hl2.at fun o e => hk2 _ o (ne (by omega)) (a7 _ o D.l2z D.l2TO D.l2i1 D.l2i2 e)
  · refine (Heap.get?_update_self _ hS' rfl).trans ?_
    simp [Obj.mapSeq, refsOf]
  · refine ZPairs.snoc (tl := []) ⟨fun p hp => (nomatch hp), fun j p hj => by simp at hj⟩ (Array.getElem?_eq_getElem hpos) (Array.getElem?_eq_getElem (hsz ▸ hpos)) (hk2 _ _ (ne (by omega)) a5) (by omega)
  · show n0 + 6 ≤ (h'.update S _).objs.size
    rw [(Heap.SameBut.update h' S (Obj.mapSeq (·.push (.ref s.heap.objs.size)))).1]
    omega
  · intro h'' tl' c' x1 x2 x3 x4
    refine hR h'' tl' c' x1 x2 x3 fun c o hc e => x4 c o (ne (Nat.ne_of_lt (Nat.lt_add_right 4 hc))) (ne (Nat.ne_of_lt hc)) (ne (Nat.ne_of_lt (Nat.lt_succ_of_lt hc))) (ne (by rw [hS]; exact Nat.ne_of_lt (Nat.lt_add_right 5 hc))) (hk2 c o (ne (by rw [hS]; exact Nat.ne_of_lt (Nat.lt_add_right 5 hc))) (a7 c o (ne (Nat.ne_of_lt (Nat.lt_add_right 4 hc))) (ne (Nat.ne_of_lt (Nat.lt_add_right 3 hc))) (ne (Nat.ne_of_lt hc)) (ne (Nat.ne_of_lt (Nat.lt_succ_of_lt hc))) e))

theorem zip_list_init {n0 l1 l2 S : Nat} {xs ys : Array Value} {R : Result → Shared → Prop} (hh : A.handled = none) (h1 : l1 < n0) (h2 : l2 < n0) (hS : S = n0 + 5) (hsz : xs.size = ys.size) (hlen : xs.size ≤ 1000) (hpos : 0 < xs.size) {s : Shared}
    (hz : IsZip s.heap (n0 + 4) (n0 + 2) (n0 + 3) .none) (hTI : IsPair s.heap (n0 + 2) (.ref n0) (.ref (n0 + 1))) (hTO : IsPair s.heap (n0 + 3) .none .none) (i1 : s.heap.IsListIter n0 l1 0) (i2 : s.heap.IsListIter (n0 + 1) l2 0)
    (hl1 : s.heap.IsList l1 xs) (hl2 : s.heap.IsList l2 ys) (hSo : s.heap.get? S = some { cls := .type "list", data := .seq #[] }) (hb : s.heap.objs.size = n0 + 6)
    (hR : ∀ h' tl' c', tl'.length = xs.size → h'.get? S = some { cls := .type "list", dict := none, data := .seq (refsOf tl').toArray c', slots := #[] } → ZPairs h' (n0 + 6) xs ys tl' → (∀ c o, c < n0 → s.heap.get? c = some o → h'.get? c = some o) → R (.ok (.ret .none)) { s with heap := h' }) :
    wpAny (model prog w) A.in1 (Builtin.«list.__init__» ⟨[.ref S, .ref (n0 + 4)], []⟩)
      (fun fin s' => match fin with | .done f => R (.ok f) s' | .again c' => c'.quiet = true ∧ codeAny (model prog w) A c' R s') (fun e s' => R (.error e) s') s := by
  have ne : ∀ {a b : Nat}, a ≠ b → @Ne Addr a b := fun x => x
  show wpAny _ A.in1 (do let old ← Builtin.List.listItems (.ref S); Builtin.List.listUpdate (.ref S) (fun _ => #[]); letGo old.toList.reverse; Builtin.List.listExtendWith (.ref S) (.ref (n0 + 4)) .none) _ _ s
  refine wpAny_bind ?_
  unfold Builtin.List.listItems
  refine wpAny_bind (wpAny_seqItems hSo rfl (wpAny_pure ?_))
  show wpAny _ A.in1 (updateSeq S (fun _ => #[]) >>= fun _ => letGo (#[] : Array Value).toList.reverse >>= fun _ => Builtin.List.listExtendWith (.ref S) (.ref (n0 + 4)) .none) _ _ s
  refine wpAny_bind (wpAny_updateSeq hSo rfl ?_)
  have hS₂ := Heap.get?_update_self (Obj.mapSeq (fun _ => (#[] : Array Value))) hSo rfl
  have o1 : ∀ b o, b ≠ S → s.heap.get? b = some o → (s.heap.update S (Obj.mapSeq (fun _ => (#[] : Array Value)))).get? b = some o :=
    fun b o hb e => (Heap.get?_update_other _ _ (Ne.symm hb)).trans e
  have z1 : (s.heap.update S (Obj.mapSeq (fun _ => (#[] : Array Value)))).objs.size = n0 + 6 := ((Heap.SameBut.update s.heap S _).1).trans hb
  refine wpAny_bind (wpAny_letGo ?_)
  generalize s.heap.update S (Obj.mapSeq (fun _ => (#[] : Array Value))) = H1 at hS₂ o1 z1 ⊢
  unfold Builtin.List.listExtendWith
  have hT : (⟨H1, s.gens, s.drawn, s.toks, s.os⟩ : Shared).TypeIs (.ref (n0 + 4)) "zip" := ⟨_, o1 _ _ (ne (by omega)) hz, rfl⟩
  refine wpAny_bind (wpAny_typeOf hT ?_)
  have q1 : Builtin.List.listSameRef (.ref S) (.ref (n0 + 4)) = false := by
    have : ¬ (S = n0 + 4) := by omega
    simp [Builtin.List.listSameRef, this]
  have q2 : (Value.type "zip" == Value.type "list") = false := by decide
  have q3 : (Value.type "zip" == Value.type "tuple") = false := by decide
  simp only [q1, q2, q3, Bool.or_false, Bool.false_eq_true, if_false]
  refine wpAny_bind (wpAny_pyIter_zip (o1 _ _ (ne (by omega)) hz) ?_)
  refine wpAny_bind (wpAny_holding ?_)
  unfold Builtin.List.listLengthHint
  refine wpAny_bind (wpAny_specialOf hT zip_no_len ?_)
  show wpAny _ A.in1 (specialOf (Value.ref (n0 + 4)) (Str.ofString "__length_hint__") >>= _) _ _ _
  refine wpAny_bind (wpAny_specialOf hT zip_no_hint ?_)
  refine wpAny_pure ?_
  show wpAny _ A.in1 (rule "list.extend.makes-room" >>= fun _ => Builtin.List.listTouch (.ref S) >>= fun _ =>
    again (.builtin "list.extend.loop" ⟨[.ref S, .ref (n0 + 4), .none], []⟩)) _ _ _
  refine wpAny_bind (wpAny_rule ?_)
  refine wpAny_bind ?_
  show wpAny _ A.in1 (updateSeq S (·.push .none) >>= fun _ => updateSeq S (·.pop)) _ _ _
  refine wpAny_bind (wpAny_updateSeq hS₂ rfl ?_ (by simp) (by simp))
  have hS₃ := Heap.get?_update_self (Obj.mapSeq (·.push Value.none)) hS₂ rfl
  refine wpAny_updateSeq (hz := by rw [PySem.sizeLine_eq]; simp [Obj.mapSeq]) hS₃ rfl ?_ (by simp)
  have hS₄ := Heap.get?_update_self (Obj.mapSeq (·.pop)) hS₃ rfl
  have o2 : ∀ b o, b ≠ S → s.heap.get? b = some o → ((H1.update S (Obj.mapSeq (·.push Value.none))).update S (Obj.mapSeq (·.pop))).get? b = some o :=
    fun b o hb e => (Heap.get?_update_other _ _ (Ne.symm hb)).trans ((Heap.get?_update_other _ _ (Ne.symm hb)).trans (o1 b o hb e))
  have z2 : ((H1.update S (Obj.mapSeq (·.push Value.none))).update S (Obj.mapSeq (·.pop))).objs.size = n0 + 6 := (Heap.SameBut.update _ S _).1.trans ((Heap.SameBut.update _ S _).1.trans z1)
  refine wpAny_pure ⟨plainId_quiet F.plain_extend_loop _, ?_⟩
  refine zip_first hh h1 h2 hS hsz hlen hpos (o2 _ _ (ne (by omega)) hz) (o2 _ _ (ne (by omega)) hTI) (o2 _ _ (ne (by omega)) hTO) (i1.at fun o e => o2 _ o (ne (by omega)) e) (i2.at fun o e => o2 _ o (ne (by omega)) e) (hl1.at fun o e => o2 _ o (ne (by omega)) e) (hl2.at fun o e => o2 _ o (ne (by omega)) e) hS₄ z2 ?_
  intro h' tl' c' x1 x2 x3 x4
  exact hR h' tl' c' x1 x2 x3 fun c o hc e => x4 c o hc (o2 c o (ne (by omega)) e)
theorem list_zip_N {h₀ : Heap} {L z l1 l2 : Addr} {m : Str → Option Value} {news : List (Addr × Obj)} {xs ys : Array Value} {Q : Value → Shared → Prop} (hh : A.handled = none) (Fh : Fr h₀ L s.heap m) (N : News h₀ L s.heap news) (Z : ZReady h₀ s.heap L z l1 l2 xs ys news)
    (hsz : xs.size = ys.size) (hlen : xs.size ≤ 1000) (hpos : 0 < xs.size)
    (h : ∀ h' D tl c, tl.length = xs.size → (∀ (j : Nat) (p : Addr × Obj), tl[j]? = some p → ∃ x y, xs[j]? = some x ∧ ys[j]? = some y ∧ p.2 = tup2 x y) → Fr h₀ L h' m → News h₀ L h' ((D, W.listOf (refsOf tl).toArray c) :: (news ++ tl)) → LCg.Off1 D news → Q (.ref D) { s with heap := h' }) :
    wpAny (model prog w) A (call (.type "list") [.ref z]) Q E s := by
  obtain ⟨n0, rfl, z1, z2, z3, z4, z5, z6, z7, z8, z9, z10, z11, z12, z13⟩ := Z
  refine callType_codes (Q₁ := fun obj s₁ => obj = .ref s.heap.objs.size ∧ s₁ = { s with heap := s.heap.push { cls := .type "list", data := .seq #[] } }) F.called_list (F.typeCall_list_1 _) F.entry_list_init
    (code_list_new _ ⟨rfl, rfl⟩) fun obj s₁ h₁ => ?_
  obtain ⟨rfl, rfl⟩ := h₁
  have hS : (s.heap.push { cls := .type "list", data := .seq #[] }).get? s.heap.objs.size = some { cls := .type "list", data := .seq #[] } := Heap.get?_push_size _ rfl
  have up : ∀ c o, s.heap.get? c = some o → (s.heap.push { cls := .type "list", data := .seq #[] }).get? c = some o := fun c o e => Heap.get?_push_of_some _ e
  refine ⟨⟨_, hS, rfl⟩, F.args_list_init_2 _ _, ?_⟩
  have hb : (s.heap.push { cls := .type "list", data := .seq #[] }).objs.size = n0 + 6 := by rw [Heap.size_push, z6]
  refine zip_list_init (prog := prog) (w := w) (A := A.in1) (R := wants (fun r s₂ => r = Value.none ∧ Q (Value.ref s.heap.objs.size) s₂) E) (s := { s with heap := s.heap.push { cls := .type "list", data := .seq #[] } }) (n0 := n0) hh z9 z10 (S := s.heap.objs.size) z6 hsz hlen hpos (up _ _ z1) (up _ _ z2) (up _ _ z3) (z4.at fun o e => up _ o e) (z5.at fun o e => up _ o e) (z7.push _) (z8.push _) hS hb ?_
  intro h' tl c x1 x2 x3 x4
  refine ⟨rfl, h h' _ tl c x1 x3.is ⟨Fh.ns.at' fun o e => x4 _ o z11 (up _ o e), fun b o e => x4 b o (z13 b o e) (up _ _ (Fh.keep b o e)), Fh.above⟩ (fun p hp => ?_) ?_⟩
  · have fresh : ∀ a : Nat, n0 ≤ a → h₀.get? a = none := fun a ha => by
      cases e : h₀.get? a with
      | none => rfl
      | some o' => exact absurd (z13 _ _ e) (Nat.not_lt.mpr ha)
    rcases List.mem_cons.mp hp with rfl | hp
    · exact ⟨x2, Ne.symm (Nat.ne_of_lt (by omega)), fresh _ (by omega)⟩
    rcases List.mem_append.mp hp with hp | hp
    · exact ⟨x4 _ _ (z12 p hp) (up _ _ (N p hp).1), (N p hp).2⟩
    · have q := x3.at' p hp
      exact ⟨q.1, Nat.ne_of_gt (Nat.lt_of_lt_of_le z11 (Nat.le_trans (Nat.le_add_right _ 6) q.2)), fresh _ (Nat.le_trans (Nat.le_add_right _ 6) q.2)⟩
  · refine List.rec (motive := fun l => (∀ p ∈ l, @LT.lt Nat _ p.1 n0) → LCg.Off1 s.heap.objs.size l) (fun _ => trivial) (fun p r ih hp => ⟨Nat.ne_of_lt (Nat.lt_of_lt_of_le (hp p (.head _)) (by omega)), ih fun q hq => hp q (.tail _ hq)⟩) news z12
end

/- Zq -/
section
variable {prog : Program} {w : World} {A : Around} {E : Value → Shared → Prop} {s : Shared}
theorem iter_pair {t : Addr} {a b : Value} {Q : Value → Shared → Prop} (ht : s.heap.IsTuple t #[a, b])
    (h : ∀ s₂ : Shared, s₂ = { s with heap := s.heap.push { cls := .type "tuple_iterator", data := .fields #[.ref t, .int 0 0] } } → s₂.heap.IsTupleIter s.heap.objs.size t 0 ∧ s₂.heap.IsTuple t #[a, b] → (∀ x ∈ [s.heap.objs.size, t], x < s₂.heap.objs.size) → t ≠ s.heap.objs.size → Q (.ref s.heap.objs.size) s₂) :
    wpAny (model prog w) A (pyIter (.ref t)) Q E s := by
  have hlt : t < s.heap.objs.size := by obtain ⟨_, e, _⟩ := ht; exact Heap.lt_size e
  refine wpAny_pyIter_tuple ht (h _ rfl ⟨⟨_, Heap.get?_push_size _ rfl, rfl, rfl⟩, ht.push _⟩ (fun x hx => ?_) (Nat.ne_of_lt hlt))
  show x < (s.heap.push _).objs.size
  rw [Heap.size_push]
  rcases List.mem_cons.mp hx with rfl | hx
  · exact Nat.lt_succ_self _
  · rw [List.mem_singleton.mp hx]; exact Nat.lt_succ_of_lt hlt
theorem old_kept' {h' : Heap} {I : Nat} {o : Obj} (hI : I = s.heap.objs.size) (hk : ∀ b o', b ∉ [I] → (s.heap.push o).get? b = some o' → h'.get? b = some o') :
    ∀ b o, s.heap.get? b = some o → h'.get? b = some o := fun b o e => by
  refine hk b o (fun hm => ?_) (Heap.get?_push_of_some _ e)
  rw [List.mem_singleton.mp hm, hI] at e
  exact absurd (Heap.lt_size e) (Nat.lt_irrefl _)
theorem min_pair {t : Addr} {a b : Int} {ta tb : Tok} {Q : Value → Shared → Prop} (hh : A.handled = none) (ht : s.heap.IsTuple t #[.int a ta, .int b tb])
    (h : ∀ v h' tk, (∃ u, v = .int (min a b) u) → (∀ b o, s.heap.get? b = some o → h'.get? b = some o) → Q v { s with heap := h', toks := tk }) :
    wpAny (model prog w) A (call (.builtin "min") [.ref t]) Q E s := by
  refine call_min_walk (iter_pair ht fun s₂ e st hfp hlI => ?_)
  subst e
  refine ⟨_, _, _, _, _, _, _, rfl, Walks.tuple (A := A.in1) hh _ t hlI _, st, hfp, by simp, CmpOf.ints_lt (numAt #[(a, ta), (b, tb)]) (fun i v hv => ?_), fun v h' tk hP hk => ?_⟩
  · have hv' : (intItems #[(a, ta), (b, tb)])[i]? = some v := by
      rw [show intItems #[(a, ta), (b, tb)] = #[Value.int a ta, Value.int b tb] by simp [intItems]]; exact hv
    exact intItems_at hv'
  · refine h v h' tk ?_ (old_kept' rfl hk)
    have hP' : (#[Value.int a ta, Value.int b tb] : Array Value)[argBest (fun i j => decide (numAt #[(a, ta), (b, tb)] i < numAt #[(a, ta), (b, tb)] j)) 1]? = some v := hP
    by_cases hab : b < a
    · have e : argBest (fun i j => decide (numAt #[(a, ta), (b, tb)] i < numAt #[(a, ta), (b, tb)] j)) 1 = 1 := by simp [argBest, numAt, hab]
      rw [e] at hP'
      have q : v = .int b tb := (Option.some.inj hP').symm
      exact ⟨tb, q.trans <| by rw [Int.min_eq_right (Int.le_of_lt hab)]⟩
    · have e : argBest (fun i j => decide (numAt #[(a, ta), (b, tb)] i < numAt #[(a, ta), (b, tb)] j)) 1 = 0 := by simp [argBest, numAt, hab]
      rw [e] at hP'
      have q : v = .int a ta := (Option.some.inj hP').symm
      exact ⟨ta, q.trans <| by rw [Int.min_eq_left (by omega)]⟩
theorem max_pair {t : Addr} {a b : Int} {ta tb : Tok} {Q : Value → Shared → Prop} (hh : A.handled = none) (ht : s.heap.IsTuple t #[.int a ta, .int b tb])
    (h : ∀ v h' tk, (∃ u, v = .int (max a b) u) → (∀ b o, s.heap.get? b = some o → h'.get? b = some o) → Q v { s with heap := h', toks := tk }) :
    wpAny (model prog w) A (call (.builtin "max") [.ref t]) Q E s := by
  refine call_max_walk (iter_pair ht fun s₂ e st hfp hlI => ?_)
  subst e
  refine ⟨_, _, _, _, _, _, _, rfl, Walks.tuple (A := A.in1) hh _ t hlI _, st, hfp, by simp, CmpOf.ints_gt (numAt #[(a, ta), (b, tb)]) (fun i v hv => ?_), fun v h' tk hP hk => ?_⟩
  · have hv' : (intItems #[(a, ta), (b, tb)])[i]? = some v := by
      rw [show intItems #[(a, ta), (b, tb)] = #[Value.int a ta, Value.int b tb] by simp [intItems]]; exact hv
    exact intItems_at hv'
  · refine h v h' tk ?_ (old_kept' rfl hk)
    have hP' : (#[Value.int a ta, Value.int b tb] : Array Value)[argBest (fun i j => decide (numAt #[(a, ta), (b, tb)] i > numAt #[(a, ta), (b, tb)] j)) 1]? = some v := hP
    by_cases hab : a < b
    · have e : argBest (fun i j => decide (numAt #[(a, ta), (b, tb)] i > numAt #[(a, ta), (b, tb)] j)) 1 = 1 := by simp [argBest, numAt, hab]
      rw [e] at hP'
      have q : v = .int b tb := (Option.some.inj hP').symm
      exact ⟨tb, q.trans <| by rw [Int.max_eq_right (Int.le_of_lt hab)]⟩
    · have e : argBest (fun i j => decide (numAt #[(a, ta), (b, tb)] i > numAt #[(a, ta), (b, tb)] j)) 1 = 0 := by simp [argBest, numAt, hab]
      rw [e] at hP'
      have q : v = .int a ta := (Option.some.inj hP').symm
      exact ⟨ta, q.trans <| by rw [Int.max_eq_left (by omega)]⟩
end

section
variable {prog : Program} {w : World} {A : Around} {E : Value → Shared → Prop} {s : Shared} {h₀ : Heap} {L : Addr} {m : Str → Option Value} {news : List (Addr × Obj)}
theorem min_pair_N {t : Addr} {a b : Int} {ta tb : Tok} {Q : Value → Shared → Prop} (hh : A.handled = none) (F : Fr h₀ L s.heap m) (N : News h₀ L s.heap news) (hm : (t, tup2 (.int a ta) (.int b tb)) ∈ news)
    (h : ∀ u h' tk, Fr h₀ L h' m → News h₀ L h' news → Q (.int (min a b) u) { s with heap := h', toks := tk }) : wpAny (model prog w) A (call (.builtin "min") [.ref t]) Q E s :=
  min_pair hh ⟨_, (N _ hm).1, rfl, _, rfl⟩ fun v h' tk hv hk => by obtain ⟨u, rfl⟩ := hv; exact h u h' tk (F.keeps hk) (N.grown hk)
theorem max_pair_N {t : Addr} {a b : Int} {ta tb : Tok} {Q : Value → Shared → Prop} (hh : A.handled = none) (F : Fr h₀ L s.heap m) (N : News h₀ L s.heap news) (hm : (t, tup2 (.int a ta) (.int b tb)) ∈ news)
    (h : ∀ u h' tk, Fr h₀ L h' m → News h₀ L h' news → Q (.int (max a b) u) { s with heap := h', toks := tk }) : wpAny (model prog w) A (call (.builtin "max") [.ref t]) Q E s :=
  max_pair hh ⟨_, (N _ hm).1, rfl, _, rfl⟩ fun v h' tk hv hk => by obtain ⟨u, rfl⟩ := hv; exact h u h' tk (F.keeps hk) (N.grown hk)
end
section
open PyProof.Rows.LCg
variable {prog : Program} {w : World} {A : Around} {E : Value → Shared → Prop} {h₀ : Heap} {L : Addr} {m : Str → Option Value} {env : Env}
theorem pair_end {I C D P : Addr} {oI oC oD : Obj} {e : Addr × Obj} {its : Array Value} {news : List (Addr × Obj)} {h' : Heap} {tk : Nat} {r r' : Int} {t : Tok} {s₁ : Shared} (F : Fr h₀ L h' m) (N : News h₀ L h' ((I, oI) :: (C, oC) :: (D, oD) :: e :: news)) (off : Off3 I C D news) (hS : SrcAt h₀ P its news) (er : r = r') :
    CompEnd h₀ L m s₁ I oI C oC D oD (SrcAt h₀ P its) (fun y news' => KCfEl news r y news') (.int r' t) { s₁ with heap := h', toks := tk } :=
  CompEnd.intro F N news (fun p hp => by
    rcases List.mem_cons.mp hp with rfl | hp
    · exact .head _
    rcases List.mem_cons.mp hp with rfl | hp
    · exact .tail _ (.head _)
    rcases List.mem_cons.mp hp with rfl | hp
    · exact .tail _ (.tail _ (.head _))
    · exact .tail _ (.tail _ (.tail _ (.tail _ hp)))) off hS (kcf_el er rfl rfl)
theorem pairs_src {elt : Expr} {x : Str} {scope : Scope} {cl : List (Str × Addr)} {Fin : Shared → List Value → List (Addr × Obj) → Prop} {P : Addr} {xs ys : List Value} {as bs : List Int} {tl news : List (Addr × Obj)} {c : Nat} {s₁ : Shared} (g : Int → Int → Int)
    (hh : A.handled = none) (F : Fr h₀ L s₁.heap m) (N : News h₀ L s₁.heap news) (hm : (P, W.listOf (refsOf tl).toArray c) ∈ news) (htl : ∀ p ∈ tl, p ∈ news) (h1 : IntsAre xs as) (h2 : IntsAre ys bs) (hl : tl.length = xs.toArray.size) (hle : as.length = bs.length) (h64 : as.length ≤ 64)
    (hp : ∀ (j : Nat) (p : Addr × Obj), tl[j]? = some p → ∃ x y, xs.toArray[j]? = some x ∧ ys.toArray[j]? = some y ∧ p.2 = tup2 x y)
    (turn : ∀ g' a b ta tb t I oI C oC D m₂ zs h tk (E' : Value → Shared → Prop), NsObj oC m₂ → m₂ x = some (.ref t) → Fr h₀ L h m → News h₀ L h ((I, oI) :: (C, oC) :: (D, lst zs) :: (t, tup2 (.int a ta) (.int b tb)) :: news) → Off3 I C D news → ((@Ne Nat I C) ∧ (@Ne Nat I D) ∧ (@Ne Nat C D)) →
      wpAny (model prog w) A (eval elt (compEnvC scope cl C env)) (CompEnd h₀ L m { { s₁ with heap := g' } with heap := h, toks := tk } I oI C oC D (lst zs) (SrcAt h₀ P (refsOf tl).toArray) (fun y news' => KCfEl news (g a b) y news')) E' { { s₁ with heap := g' } with heap := h, toks := tk })
    (fin : ∀ g' zs, IntsAre zs (List.zipWith g as bs) → Fin { s₁ with heap := g' } zs news) : CompSrc prog w A h₀ L m env elt x scope cl Fin (.ref P) s₁ := by
  have e1 := h1.length
  have e2 := h2.length
  rw [List.size_toArray] at hl
  have hsz : (refsOf tl).toArray.size = tl.length := by simp [refsOf]
  refine CompSrc.ledger (its := (refsOf tl).toArray) hh F N hm (by rw [hsz, PySem.sizeLine_eq]; omega) fun g' => ?_
  rw [hsz]
  have key : ∀ (j i : Nat) (zs : List Value), i + j = tl.length → IntsAre zs (List.zipWith g (as.take i) (bs.take i)) →
      CompRest prog w A h₀ L m env elt x scope cl { s₁ with heap := g' } (SrcAt h₀ P (refsOf tl).toArray) (fun i v => (refsOf tl).toArray[i]? = some v) (Fin { s₁ with heap := g' }) j i zs news := by
    intro j
    induction j with
    | zero =>
      intro i zs hi hz
      rw [List.take_of_length_le (by omega), List.take_of_length_le (by omega)] at hz
      exact CompRest.zero (fin _ _ hz)
    | succ j ih =>
      intro i zs hi hz
      refine CompRest.succ ?_
      intro v I oI C oC D m₂ h tk E' hv hC hx F' N' off ne
      have hlt : i < tl.length := by omega
      have hti : tl[i]? = some tl[i] := List.getElem?_eq_getElem hlt
      obtain ⟨x0, y0, hx0, hy0, ep⟩ := hp i _ hti
      obtain ⟨a, ta, rfl, ha⟩ := IntsAre.at h1 i x0 (by simpa using hx0)
      obtain ⟨b, tb, rfl, hb⟩ := IntsAre.at h2 i y0 (by simpa using hy0)
      have ev : v = .ref tl[i].1 := by
        have : (refsOf tl)[i]? = some v := by simpa using hv
        rw [List.getElem?_map, hti] at this
        exact (Option.some.inj this).symm
      subst ev
      have mem : (tl[i].1, tup2 (.int a ta) (.int b tb)) ∈ news := by
        rw [← ep]; exact htl _ (List.getElem_mem hlt)
      refine wpAny_mono (turn g' a b ta tb tl[i].1 I oI C oC D m₂ zs h tk E' hC hx F' (fun q hq => ?_) off ne) (fun y s₂ hq => ?_) fun _ _ e => e
      · rcases List.mem_cons.mp hq with rfl | hq
        · exact N' _ (.head _)
        rcases List.mem_cons.mp hq with rfl | hq
        · exact N' _ (.tail _ (.head _))
        rcases List.mem_cons.mp hq with rfl | hq
        · exact N' _ (.tail _ (.tail _ (.head _)))
        rcases List.mem_cons.mp hq with rfl | hq
        · exact N' _ (.tail _ (.tail _ (.tail _ mem)))
        · exact N' _ (.tail _ (.tail _ (.tail _ hq)))
      · obtain ⟨h', tk', nw, e, F₂, N₂, off', hS, hn, t', hy'⟩ := hq
        rw [hn] at N₂ off' hS
        refine ⟨h', tk', news, e, F₂, N₂, off', hS, ?_⟩
        rw [hy']
        refine ih (i + 1) _ (by omega) ?_
        rw [List.take_add_one, List.take_add_one, ha, hb]
        simp only [Option.toList_some]
        rw [List.zipWith_append (by simp only [List.length_take]; omega)]
        exact IntsAre.append hz (.cons (g a b) t' .nil)
  exact key _ 0 [] (by omega) (by simp only [List.take_zero, List.zipWith_nil_left]; exact .nil)
end

/- Zr -/
open PyProof.Rows.LCg
section
variable {prog : Program} {w : World} {A : Around} {E : Value → Shared → Prop} {s : Shared} {h₀ : Heap} {L : Addr} {m : Str → Option Value} {env : Env}
/-- the end of a test that says no, all else as it was -/
def NoEnd (h₀ : Heap) (L : Addr) (m : Str → Option Value) (s : Shared) (led : List (Addr × Obj)) (ok : Bool) (s₃ : Shared) : Prop :=
  ok = false ∧ ∃ (h' : Heap) (tk : Nat), s₃ = { s with heap := h', toks := tk } ∧ Fr h₀ L h' m ∧ News h₀ L h' led
def NoTurn (prog : Program) (w : World) (A : Around) (h₀ : Heap) (L : Addr) (m : Str → Option Value) (env : Env) (c : Expr) (a b : Str) (scope : Scope) (cl : List (Str × Addr)) (s : Shared) (news : List (Addr × Obj)) (v1 v2 : Value) : Prop :=
  ∀ (I C D : Addr) (oI oC : Obj) (m₂ : Str → Option Value) (h : Heap) (tk : Nat) (E' : Value → Shared → Prop), NsObj oC m₂ → m₂ a = some v1 → m₂ b = some v2 →
    Fr h₀ L h m → News h₀ L h ((I, oI) :: (C, oC) :: (D, lst []) :: news) → Off3 I C D news → ((@Ne Nat I C) ∧ (@Ne Nat I D) ∧ (@Ne Nat C D)) →
    wpAny (model prog w) A (isTrue c (compEnvC scope cl C env) (eval c (compEnvC scope cl C env))) (NoEnd h₀ L m { s with heap := h, toks := tk } ((I, oI) :: (C, oC) :: (D, lst []) :: news)) E' { s with heap := h, toks := tk }
def NoSrc (prog : Program) (w : World) (A : Around) (h₀ : Heap) (L : Addr) (m : Str → Option Value) (env : Env) (c : Expr) (a b : Str) (scope : Scope) (cl : List (Str × Addr)) (Q : Value → Shared → Prop) (xv : Value) (s₁ : Shared) : Prop :=
  ∃ (ax : Addr) (its : Array Value) (k : Nat) (news : List (Addr × Obj)), xv = .ref ax ∧ A.handled = none ∧ Fr h₀ L s₁.heap m ∧ News h₀ L s₁.heap news ∧ (ax, W.listOf its k) ∈ news ∧ its.size ≤ sizeLine ∧
    (∀ (i : Nat) (v : Value), its[i]? = some v → ∃ (t : Addr) (v1 v2 : Value) (n : Nat), v = .ref t ∧ (t, ({ cls := .type "tuple", data := .seq #[v1, v2] n } : Obj)) ∈ news ∧ ∀ g, NoTurn prog w A h₀ L m env c a b scope cl { s₁ with heap := g } news v1 v2) ∧
    ∀ (D : Addr) (h : Heap) (tk : Nat), Fr h₀ L h m → News h₀ L h ((D, lst []) :: news) → Off1 D news → Q (.ref D) { s₁ with heap := h, toks := tk }
theorem no_block {elt iter c : Expr} {a b : Str} {pa pb tp : Pos} {kk : Nat} {scope : Scope} {cl : List (Str × Addr)} {pos : Pos} {s₂ : Shared} {I ax : Addr} {its : Array Value} {k : Nat} {news : List (Addr × Obj)}
    {RR : Value → Addr → Result → Shared → Prop}
    (hh : A.handled = none) (hsz : its.size ≤ sizeLine) (hm : (ax, W.listOf its k) ∈ news) (hI : s₂.heap.IsListIter I ax 0) (hne : ax ≠ I)
    (hcell : ∀ y ∈ scope.names, y.2 ≠ .cell) (hkind : scope.kind = .function) (hxa : scope.names.lookup a = some .local) (hxb : scope.names.lookup b = some .local) (hab : ¬ a = b)
    (F : Fr h₀ L s₂.heap m) (N : News h₀ L s₂.heap news) (hIL : L ≠ I) (hI₀ : h₀.get? I = none) (off : ∀ p ∈ news, p.1 ≠ I)
    (R : ∀ (i : Nat) (v : Value), its[i]? = some v → ∃ (t : Addr) (v1 v2 : Value) (n : Nat), v = .ref t ∧ (t, ({ cls := .type "tuple", data := .seq #[v1, v2] n } : Obj)) ∈ news ∧ NoTurn prog w A h₀ L m env c a b scope cl s₂ news v1 v2)
    (hRR : ∀ D C h tk m', Fr h₀ L h m → News h₀ L h ((D, lst []) :: news) → Off1 D news → h.Ns C m' → h₀.get? C = none → h₀.get? D = none → C ≠ L → D ≠ L → C ≠ D → (∀ p ∈ news, p.1 ≠ C) → RR (.ref D) C (.ok .next) { s₂ with heap := h, toks := tk }) :
    wpAny (model prog w) A (newList []) (fun acc s₃ => wpAny (model prog w) A (newFunctionEnv scope env.globals cl [] env.qual none .none (some env)) (fun cenv s₄ =>
      codeAny (model prog w) A (.compStart (.ListComp elt [⟨.Tuple [.Name a pa, .Name b pb] kk tp, iter, [c], 0⟩] scope pos) 0 (.ref I) acc { cenv with scope := relabel scope env }) (RR acc cenv.locals) s₄) E s₃) E s₂ := by
  refine wpAny_newObj_type (wpAny_newFunctionEnv hcell (by intro y hy; simp at hy) (fun h₁ hns₁ hsb₁ => ?_) hkind)
  dsimp only at hns₁ hsb₁ ⊢
  generalize hH2 : s₂.heap.push { cls := .type "list", dict := none, data := .seq ([] : List Value).toArray } = H2 at hns₁ hsb₁ ⊢
  have hC : H2.objs.size = s₂.heap.objs.size + 1 := by rw [← hH2, Heap.size_push]
  have hDC : s₂.heap.objs.size ≠ H2.objs.size := by rw [hC]; exact Nat.ne_of_lt (Nat.lt_succ_self _)
  have below : ∀ b, b < s₂.heap.objs.size → b ≠ H2.objs.size ∧ b ≠ s₂.heap.objs.size := fun b hb => ⟨by rw [hC]; exact Nat.ne_of_lt (Nat.lt_succ_of_lt hb), Nat.ne_of_lt hb⟩
  have hIlt : I < s₂.heap.objs.size := by obtain ⟨_, x, _⟩ := hI; exact Heap.lt_size x
  have hltD : ∀ p ∈ news, p.1 < s₂.heap.objs.size := fun p hp => Heap.lt_size (N p hp).1
  have old : ∀ b o, s₂.heap.get? b = some o → h₁.get? b = some o := fun b o e => hsb₁.extBut b o (below b (Heap.lt_size e)).1 (Heap.get?_push_of_some _ (hH2 ▸ Heap.get?_push_of_some _ e))
  have hacc : h₁.get? s₂.heap.objs.size = some (lst []) := hsb₁.extBut _ _ hDC (Heap.get?_push_of_some _ (hH2 ▸ Heap.get?_push_size _ rfl))
  have fresh : ∀ a, s₂.heap.objs.size ≤ a → s₂.heap.get? a = none := fun a ha => by
    cases e : s₂.heap.get? a with
    | none => rfl
    | some o' => exact absurd (Heap.lt_size e) (Nat.not_lt.mpr ha)
  have fresh₀ : ∀ a, s₂.heap.objs.size ≤ a → h₀.get? a = none := fun a ha => by
    cases e : h₀.get? a with
    | none => rfl
    | some o' => have := F.keep a o' e; rw [fresh a ha] at this; cases this
  have hD₀ : h₀.get? s₂.heap.objs.size = none := fresh₀ _ (Nat.le_refl _)
  have hC₀ : h₀.get? H2.objs.size = none := fresh₀ _ (by rw [hC]; exact Nat.le_succ _)
  have hLlt : L < s₂.heap.objs.size := F.ns.lt
  have hDL : s₂.heap.objs.size ≠ L := Ne.symm (below L hLlt).2
  have hCL : H2.objs.size ≠ L := Ne.symm (below L hLlt).1
  have hCI : I ≠ H2.objs.size := (below I hIlt).1
  have hDI : I ≠ s₂.heap.objs.size := (below I hIlt).2
  have offC : ∀ p ∈ news, p.1 ≠ H2.objs.size := fun p hp => (below _ (hltD p hp)).1
  have offD : ∀ p ∈ news, p.1 ≠ s₂.heap.objs.size := fun p hp => (below _ (hltD p hp)).2
  have off3 : Off3 I H2.objs.size s₂.heap.objs.size news := Off3.of fun p hp => ⟨off p hp, offC p hp, offD p hp⟩
  have hxC : ax ≠ H2.objs.size := offC _ hm
  have W := Walks.list (prog := prog) (w := w) hh I ax hne its
  have isl : ∀ h, News h₀ L h news → h.IsList ax its := fun h N => ⟨_, (N _ hm).1, rfl, _, rfl⟩
  have loop : ∀ s₃ : Shared, s₃ = { s₂ with heap := h₁, toks := s₂.toks + ([] : List (Str × Value)).length } →
      codeAny (model prog w) A (.compLoop (.ListComp elt [⟨.Tuple [.Name a pa, .Name b pb] kk tp, iter, [c], 0⟩] scope pos) 0 (.ref I) (.ref s₂.heap.objs.size) (compEnvC scope cl H2.objs.size env))
        (RR (.ref s₂.heap.objs.size) H2.objs.size) s₃ := by
    rintro s₃ rfl
    refine kct_loop
      (fun k' s' => ∃ h' tk i m', s' = { s₂ with heap := h', toks := tk } ∧ i ≤ its.size ∧ k' = its.size + 1 - i ∧ h'.IsListIter I ax i ∧ Fr h₀ L h' m ∧ h'.Ns H2.objs.size m' ∧
        News h₀ L h' ((s₂.heap.objs.size, lst []) :: news)) ?_ (its.size + 1)
      ⟨h₁, _, 0, _, rfl, Nat.zero_le _, rfl, hI.at (old _), F.keeps old, hns₁, fun p hp => ?_⟩
    · rintro k' s' ⟨h', tk, i, m', rfl, hi', rfl, hit, F', hn', N'⟩
      have N'' : News h₀ L h' news := fun p hp => N' p (.tail _ hp)
      by_cases hlt : i < its.size
      · refine W.item i _ _ _ hlt ⟨hit, isl _ N''⟩ fun v h₂ tk₂ hPv hst₂ hk₂ => ?_
        obtain ⟨t, v1, v2, n, rfl, hmt, turn⟩ := R i v hPv
        have up₂ : ∀ c o, c ≠ I → h'.get? c = some o → h₂.get? c = some o := fun c o h1 q => hk₂ c o (by simp [h1]) q
        have N₂ : News h₀ L h₂ news := fun p hp => ⟨up₂ _ _ (off p hp) (N'' p hp).1, (N'' p hp).2⟩
        have ht : h₂.IsTuple t #[v1, v2] := ⟨_, (N₂ _ hmt).1, rfl, _, rfl⟩
        refine wpAny_letOwnedTupleGo_listiter hst₂.1 ?_
        refine kcp_assign (env := compEnvC scope cl H2.objs.size env) hh ht (lookup_relabel_local hxa) (lookup_relabel_local hxb) (by simp [compEnvC, relabel, hkind]) (hn'.at' fun o q => up₂ _ o (Ne.symm hCI) q) fun h₄ tk₄ hn₄ hs₄ => ?_
        have up : ∀ c o, c ≠ I → c ≠ H2.objs.size → h'.get? c = some o → h₄.get? c = some o := fun c o h1 h2 q => hs₄ c o h2 (up₂ c o h1 q)
        obtain ⟨oI, hoI, hoI2⟩ := hst₂.1
        have hI₄ := hs₄ I _ hCI hoI
        obtain ⟨oC, heC, hoC⟩ := ns_obj hn₄
        have F₄ : Fr h₀ L h₄ m := ⟨F'.ns.at' fun o q => up _ o hIL (Ne.symm hCL) q, fun c o q => up c o (fun z => by rw [z, hI₀] at q; cases q) (fun z => by rw [z, hC₀] at q; cases q) (F'.keep c o q), F'.above⟩
        have N₄ : News h₀ L h₄ ((I, oI) :: (H2.objs.size, oC) :: (s₂.heap.objs.size, lst []) :: news) := fun q hq => by
          rcases List.mem_cons.mp hq with rfl | hq
          · exact ⟨hI₄, Ne.symm hIL, hI₀⟩
          rcases List.mem_cons.mp hq with rfl | hq
          · exact ⟨heC, hCL, hC₀⟩
          have z := N' q hq
          refine ⟨up _ _ ?_ ?_ z.1, z.2⟩
          · rcases List.mem_cons.mp hq with rfl | hq
            · exact Ne.symm hDI
            · exact off q hq
          · rcases List.mem_cons.mp hq with rfl | hq
            · exact hDC
            · exact offC q hq
        refine wpAny_mono (turn I H2.objs.size s₂.heap.objs.size oI oC _ h₄ _ _ hoC (by simp [hab]) (by simp) F₄ N₄ off3 ⟨hCI, hDI, Ne.symm hDC⟩) (fun y s₅ h₅ => ?_) fun _ _ q => q
        obtain ⟨rfl, h₅, tk₅, rfl, F₅, N₅⟩ := h₅
        rw [if_neg (by decide)]
        exact ⟨its.size + 1 - (i + 1), by omega, h₅, tk₅, i + 1, _, rfl, hlt, rfl, ⟨oI, (N₅ _ (.head _)).1, hoI2⟩, F₅, hoC.ns (N₅ _ (.tail _ (.head _))).1, fun p hp => N₅ p (.tail _ (.tail _ hp))⟩
      · have hin : i = its.size := Nat.le_antisymm hi' (Nat.not_lt.mp hlt)
        subst hin
        refine W.done _ _ _ ⟨hit, isl _ N''⟩ fun h₂ tk₂ hk₂ => ?_
        have up : ∀ c o, c ≠ I → h'.get? c = some o → h₂.get? c = some o := fun c o h1 q => hk₂ c o (by simp [h1]) q
        refine hRR _ _ h₂ tk₂ _ ⟨F'.ns.at' fun o q => up _ o hIL q, fun c o q => up c o (fun z => by rw [z, hI₀] at q; cases q) (F'.keep c o q), F'.above⟩ (fun p hp => ?_) off3.one (hn'.at' fun o q => up _ o (Ne.symm hCI) q) hC₀ hD₀ hCL hDL (Ne.symm hDC) offC
        have z := N' p hp
        refine ⟨up _ _ ?_ z.1, z.2⟩
        rcases List.mem_cons.mp hp with rfl | hp
        · exact Ne.symm hDI
        · exact off p hp
    · rcases List.mem_cons.mp hp with rfl | hp
      · exact ⟨hacc, hDL, hD₀⟩
      · exact ⟨old _ _ (N p hp).1, (N p hp).2⟩
  exact codeAny_compStart_list (loop _ rfl) (W.self 0 _ _ _ ⟨hI.at (old _), isl _ (N.grown old)⟩ (loop _ rfl))
theorem no_ListComp {elt iter c : Expr} {a b : Str} {pa pb tp : Pos} {kk : Nat} {scope : Scope} {cl : List (Str × Addr)} {pos : Pos} {Q : Value → Shared → Prop} (_F₀ : Fr h₀ L s.heap m)
    (hclos : closureFor scope env = pure cl) (hcell : ∀ y ∈ scope.names, y.2 ≠ .cell) (hkind : scope.kind = .function)
    (hnames : ∀ y ∈ scope.names, y.2 = .local → scope.names.lookup y.1 = some .local) (hxa : scope.names.lookup a = some .local) (hxb : scope.names.lookup b = some .local) (hab : ¬ a = b)
    (h : wpAny (model prog w) A (eval iter env) (NoSrc prog w A h₀ L m env c a b scope cl Q) E s)
    (hs : ∀ x, foldedSetIterable iter env x = pure x := by intro _; rfl) :
    wpAny (model prog w) A (eval (.ListComp elt [⟨.Tuple [.Name a pa, .Name b pb] kk tp, iter, [c], 0⟩] scope pos) env) Q E s := by
  rw [eval_ListComp]
  refine wpAny_comprehension_free (use := none) rfl hs hclos hkind hnames (wpAny_mono h (fun xv s₁ h₁ => ?_) fun _ _ e => e)
  obtain ⟨ax, its, k, news, rfl, hh, F, N, hm, hsz, R, fin⟩ := h₁
  have hl : s₁.heap.IsList ax its := ⟨_, (N _ hm).1, rfl, _, rfl⟩
  have hlt : ax < s₁.heap.objs.size := Heap.lt_size (N _ hm).1
  refine wpAny_pyIter_list hl ?_
  have up : ∀ b o, s₁.heap.get? b = some o → (s₁.heap.push { cls := .type "list_iterator", data := .fields #[.ref ax, .int 0 0] }).get? b = some o := fun b o e => Heap.get?_push_of_some _ e
  refine no_block (its := its) hh hsz hm ⟨_, Heap.get?_push_size _ rfl, rfl, rfl⟩ (Nat.ne_of_lt hlt) hcell hkind hxa hxb hab (F.keeps up) (N.grown up) (Nat.ne_of_lt F.ns.lt) (next_is_new F) (fun p hp => Nat.ne_of_lt (Heap.lt_size (N p hp).1))
    (fun i v hv => by obtain ⟨t, v1, v2, n, e, hmt, T⟩ := R i v hv; exact ⟨t, v1, v2, n, e, hmt, T _⟩) ?_
  intro D C h tk m' F' N' o1 hn hC₀ hD₀ hCL hDL hCD offC
  refine ⟨m', hn, fun h'' hs'' => fin D h'' tk (F'.change hs'' hCL hC₀) (fun p hp => ?_) o1⟩
  refine ⟨hs''.extBut _ _ ?_ (N' p hp).1, (N' p hp).2⟩
  rcases List.mem_cons.mp hp with rfl | hp
  · exact Ne.symm hCD
  · exact offC p hp
end

/- M2 -/
/-- f works bit by bit, as b -/
structure Bitwise (f b : Int → Int → Int) : Prop where
  half : ∀ x y, f x y = 2 * f (x / 2) (y / 2) + b (x % 2) (y % 2)
  bit : ∀ x y, 0 ≤ b (x % 2) (y % 2) ∧ b (x % 2) (y % 2) ≤ 1
theorem Bitwise.low {f b : Int → Int → Int} (B : Bitwise f b) : ∀ (W : Nat) (x y : Int), num (List.zipWith b (bl W x) (bl W y)) = f x y % 2 ^ W
  | 0, x, y => by show (0 : Int) = _; rw [Int.pow_zero, Int.emod_one]
  | W + 1, x, y => by
    rw [bl_succ, bl_succ, List.zipWith_cons_cons, num, B.low W (x / 2) (y / 2)]
    have h0 := B.half x y
    have hb := B.bit x y
    have h1 := Int.emod_add_mul_ediv (f (x / 2) (y / 2)) (2 ^ W)
    have h2 := Int.emod_nonneg (f (x / 2) (y / 2)) (two_ne W)
    have h3 := Int.emod_lt_of_pos (f (x / 2) (y / 2)) (two_pos W)
    refine (emod_of (q := f (x / 2) (y / 2) / 2 ^ W) ?_ ?_ ?_).symm
    · rw [Int.pow_succ, Int.mul_right_comm, Int.mul_comm (2 ^ W * _) 2]
      omega
    · omega
    · rw [Int.pow_succ]; omega
theorem Bitwise.high {f b : Int → Int → Int} (B : Bitwise f b) : ∀ (p : Nat) (x y : Int), f x y / 2 ^ p = f (x / 2 ^ p) (y / 2 ^ p)
  | 0, x, y => by simp
  | p + 1, x, y => by
    rw [← div_div, ← div_div, ← div_div, ← B.high p]
    have h0 := B.half x y
    have hb := B.bit x y
    congr 1
    omega
theorem bit_and : Bitwise Builtin.bitAnd (fun a b => min a b) where
  half x y := by
    rw [kbt_halves x y]
    congr 1
    have h1 : x % 2 = 0 ∨ x % 2 = 1 := by omega
    have h2 : y % 2 = 0 ∨ y % 2 = 1 := by omega
    rcases h1 with e1 | e1 <;> rcases h2 with e2 | e2 <;> rw [e1, e2] <;> decide
  bit x y := by
    have h1 : x % 2 = 0 ∨ x % 2 = 1 := by omega
    have h2 : y % 2 = 0 ∨ y % 2 = 1 := by omega
    rcases h1 with e1 | e1 <;> rcases h2 with e2 | e2 <;> rw [e1, e2] <;> decide
theorem bitOr_is (x y : Int) : Builtin.bitOr x y = x + y - Builtin.bitAnd x y := by
  have h := bitXor_and x y
  have : Builtin.bitXor x y = Builtin.bitOr x y - Builtin.bitAnd x y := rfl
  omega
theorem bit_or : Bitwise Builtin.bitOr (fun a b => max a b) where
  half x y := by
    rw [bitOr_is, bitOr_is, kbt_halves x y]
    have h1 : x % 2 = 0 ∨ x % 2 = 1 := by omega
    have h2 : y % 2 = 0 ∨ y % 2 = 1 := by omega
    rcases h1 with e1 | e1 <;> rcases h2 with e2 | e2 <;> rw [e1, e2] <;> simp <;> omega
  bit x y := by
    have h1 : x % 2 = 0 ∨ x % 2 = 1 := by omega
    have h2 : y % 2 = 0 ∨ y % 2 = 1 := by omega
    rcases h1 with e1 | e1 <;> rcases h2 with e2 | e2 <;> rw [e1, e2] <;> decide
theorem bit_xor : Bitwise Builtin.bitXor (fun a b => if (a != b) = true then 1 else 0) where
  half x y := by
    rw [bitXor_and, bitXor_and, kbt_halves x y]
    have h1 : x % 2 = 0 ∨ x % 2 = 1 := by omega
    have h2 : y % 2 = 0 ∨ y % 2 = 1 := by omega
    rcases h1 with e1 | e1 <;> rcases h2 with e2 | e2 <;> rw [e1, e2] <;> simp <;> omega
  bit x y := by
    have h1 : x % 2 = 0 ∨ x % 2 = 1 := by omega
    have h2 : y % 2 = 0 ∨ y % 2 = 1 := by omega
    rcases h1 with e1 | e1 <;> rcases h2 with e2 | e2 <;> rw [e1, e2] <;> decide
theorem in_iff (k : Str) (n : Int) : (lo k ≤ n ∧ n ≤ hi k) ↔ (n / 2 ^ (if ks k = true then kw k - 1 else kw k) = 0 ∨ (ks k = true ∧ n / 2 ^ (kw k - 1) = -1)) := by
  unfold lo hi
  have hp := two_pos (kw k - 1)
  have hq := two_pos (kw k)
  constructor
  · rintro ⟨h1, h2⟩
    cases e : ks k with
    | true =>
      rw [e] at h1 h2
      simp only [if_true] at h1 h2 ⊢
      rcases Int.lt_or_le n 0 with h | h
      · exact .inr ⟨trivial, div_neg h h1⟩
      · exact .inl (div_small h (by omega))
    | false =>
      rw [e] at h1 h2
      simp only [Bool.false_eq_true, if_false] at h1 h2 ⊢
      exact .inl (div_small h1 (by omega))
  · intro h
    cases e : ks k with
    | true =>
      rw [e] at h
      simp only [if_true, true_and] at h ⊢
      have h1 := Int.emod_add_mul_ediv n (2 ^ (kw k - 1))
      have h2 := Int.emod_nonneg n (Int.ne_of_gt hp)
      have h3 := Int.emod_lt_of_pos n hp
      rcases h with h | h
      · rw [h, Int.mul_zero] at h1; omega
      · rw [h] at h1
        have : (2 : Int) ^ (kw k - 1) * -1 = -(2 ^ (kw k - 1)) := by rw [Int.mul_neg, Int.mul_one]
        omega
    | false =>
      rw [e] at h
      simp only [Bool.false_eq_true, if_false, false_and, or_false] at h ⊢
      have h1 := Int.emod_add_mul_ediv n (2 ^ kw k)
      have h2 := Int.emod_nonneg n (Int.ne_of_gt hq)
      have h3 := Int.emod_lt_of_pos n hq
      rw [h, Int.mul_zero] at h1; omega
theorem Bitwise.stays {f b : Int → Int → Int} (B : Bitwise f b) (h00 : f 0 0 = 0) (hn : ∀ x y, (x = 0 ∨ x = -1) → (y = 0 ∨ y = -1) → f x y = 0 ∨ f x y = -1) (k : Str) {x y : Int} (hx : lo k ≤ x ∧ x ≤ hi k) (hy : lo k ≤ y ∧ y ≤ hi k) : lo k ≤ f x y ∧ f x y ≤ hi k := by
  rw [in_iff] at hx hy ⊢
  cases e : ks k with
  | true =>
    rw [e] at hx hy
    simp only [if_true, true_and] at hx hy ⊢
    rw [B.high]
    exact hn _ _ hx hy
  | false =>
    rw [e] at hx hy
    simp only [Bool.false_eq_true, if_false, false_and, or_false] at hx hy ⊢
    rw [B.high, hx, hy, h00]
theorem and_stays (k : Str) {x y : Int} (hx : lo k ≤ x ∧ x ≤ hi k) (hy : lo k ≤ y ∧ y ≤ hi k) : lo k ≤ Builtin.bitAnd x y ∧ Builtin.bitAnd x y ≤ hi k :=
  bit_and.stays (by decide) (fun x y h1 h2 => by rcases h1 with rfl | rfl <;> rcases h2 with rfl | rfl <;> decide) k hx hy
theorem or_stays (k : Str) {x y : Int} (hx : lo k ≤ x ∧ x ≤ hi k) (hy : lo k ≤ y ∧ y ≤ hi k) : lo k ≤ Builtin.bitOr x y ∧ Builtin.bitOr x y ≤ hi k :=
  bit_or.stays (by decide) (fun x y h1 h2 => by rcases h1 with rfl | rfl <;> rcases h2 with rfl | rfl <;> decide) k hx hy
theorem xor_stays (k : Str) {x y : Int} (hx : lo k ≤ x ∧ x ≤ hi k) (hy : lo k ≤ y ∧ y ≤ hi k) : lo k ≤ Builtin.bitXor x y ∧ Builtin.bitXor x y ≤ hi k :=
  bit_xor.stays (by decide) (fun x y h1 h2 => by rcases h1 with rfl | rfl <;> rcases h2 with rfl | rfl <;> decide) k hx hy
theorem bits_law {f b : Int → Int → Int} (B : Bitwise f b) (k : Str) (hk : Kind k) {x y : Int} (h : lo k ≤ f x y ∧ f x y ≤ hi k) : f x y = wr k (num (List.zipWith b (bL k x) (bL k y))) := by
  have e : num (List.zipWith b (bL k x) (bL k y)) = f x y % 2 ^ kw k := B.low (kw k) x y
  rw [e, wr_mod, wr_in hk h]
theorem and_law (k : Str) (hk : Kind k) {x y : Int} (hx : lo k ≤ x ∧ x ≤ hi k) (hy : lo k ≤ y ∧ y ≤ hi k) : bt (Str.ofString "&") x y = wr k (num (List.zipWith (fun a b => min a b) (bL k x) (bL k y))) := by
  unfold bt; rw [if_pos (by decide +kernel)]; exact bits_law bit_and k hk (and_stays k hx hy)
theorem or_law (k : Str) (hk : Kind k) {x y : Int} (hx : lo k ≤ x ∧ x ≤ hi k) (hy : lo k ≤ y ∧ y ≤ hi k) : bt (Str.ofString "|") x y = wr k (num (List.zipWith (fun a b => max a b) (bL k x) (bL k y))) := by
  unfold bt; rw [if_neg (by decide +kernel), if_pos (by decide +kernel)]; exact bits_law bit_or k hk (or_stays k hx hy)
theorem xor_law (k : Str) (hk : Kind k) {x y : Int} (hx : lo k ≤ x ∧ x ≤ hi k) (hy : lo k ≤ y ∧ y ≤ hi k) : bt (Str.ofString "xor") x y = wr k (num (List.zipWith (fun a b => if (a != b) = true then 1 else 0) (bL k x) (bL k y))) := by
  unfold bt; rw [if_neg (by decide +kernel), if_neg (by decide +kernel)]; exact bits_law bit_xor k hk (xor_stays k hx hy)
theorem zip_01 {b : Int → Int → Int} (hb : ∀ x y, 0 ≤ x ∧ x ≤ 1 → 0 ≤ y ∧ y ≤ 1 → 0 ≤ b x y ∧ b x y ≤ 1) : ∀ (xs ys : List Int), (∀ x ∈ xs, 0 ≤ x ∧ x ≤ 1) → (∀ x ∈ ys, 0 ≤ x ∧ x ≤ 1) → ∀ z ∈ List.zipWith b xs ys, 0 ≤ z ∧ z ≤ 1
  | [], _, _, _, z, hz => by simp at hz
  | _ :: _, [], _, _, z, hz => by simp at hz
  | x :: xs, y :: ys, h1, h2, z, hz => by
    rw [List.zipWith_cons_cons] at hz
    rcases List.mem_cons.mp hz with rfl | hz
    · exact hb x y (h1 x (.head _)) (h2 y (.head _))
    · exact zip_01 hb xs ys (fun a ha => h1 a (.tail _ ha)) (fun a ha => h2 a (.tail _ ha)) z hz
/-- the other way about -/
theorem not_low : ∀ (W : Nat) (x : Int), num ((bl W x).map fun b => 1 - b) = (0 - x - 1) % 2 ^ W
  | 0, x => by show (0 : Int) = _; rw [Int.pow_zero, Int.emod_one]
  | W + 1, x => by
    rw [bl_succ, List.map_cons, num, not_low W (x / 2)]
    have h1 := Int.emod_add_mul_ediv (0 - x / 2 - 1) (2 ^ W)
    have h2 := Int.emod_nonneg (0 - x / 2 - 1) (two_ne W)
    have h3 := Int.emod_lt_of_pos (0 - x / 2 - 1) (two_pos W)
    refine (emod_of (q := (0 - x / 2 - 1) / 2 ^ W) ?_ ?_ ?_).symm
    · rw [Int.pow_succ, Int.mul_right_comm, Int.mul_comm (2 ^ W * _) 2]
      omega
    · omega
    · rw [Int.pow_succ]; omega
theorem not_law (k : Str) (n : Int) : wr k (0 - n - 1) = wr k (num ((bL k n).map fun b => 1 - b)) := by
  have e : num ((bL k n).map fun b => 1 - b) = (0 - n - 1) % 2 ^ kw k := not_low (kw k) n
  rw [e, wr_mod]
theorem pop_sum : ∀ (W : Nat) (x : Int), (popN (x % 2 ^ W).toNat : Int) = (bl W x).sum
  | 0, x => by rw [Int.pow_zero, Int.emod_one]; simp [popN, bl]
  | W + 1, x => by
    rw [bl_succ, List.sum_cons, ← pop_sum W (x / 2)]
    have h1 := Int.emod_add_mul_ediv (x / 2) (2 ^ W)
    have h2 := Int.emod_nonneg (x / 2) (two_ne W)
    have h3 := Int.emod_lt_of_pos (x / 2) (two_pos W)
    have e : x % 2 ^ (W + 1) = x % 2 + 2 * (x / 2 % 2 ^ W) := by
      refine emod_of (q := x / 2 / 2 ^ W) ?_ ?_ ?_
      · rw [Int.pow_succ, Int.mul_right_comm, Int.mul_comm (2 ^ W * _) 2]
        omega
      · omega
      · rw [Int.pow_succ]; omega
    rw [e]
    generalize x / 2 % 2 ^ W = r at h2
    by_cases h0 : (x % 2 + 2 * r).toNat = 0
    · have : r = 0 := by omega
      have : x % 2 = 0 := by omega
      subst r
      rw [this]; simp [popN]
    · rw [popN_step _ (by omega), show (x % 2 + 2 * r).toNat / 2 = r.toNat by omega]
      omega
theorem pop_law (k : Str) (n : Int) : (popN (n % 2 ^ kw k).toNat : Int) = (bL k n).sum := pop_sum (kw k) n
/-- the highest bits so far are nought -/
def Ahead (k : Str) (n a : Int) : Prop := 0 ≤ a ∧ a ≤ kw k ∧ n % 2 ^ kw k < 2 ^ (kw k - a.toNat)
theorem ahead_start (k : Str) (n : Int) : Ahead k n 0 := ⟨Int.le_refl _, by omega, by simpa using Int.emod_lt_of_pos n (two_pos (kw k))⟩
theorem bit_of_mod {W i : Nat} (hi : i < W) (x : Int) : x / 2 ^ i % 2 = x % 2 ^ W / 2 ^ i % 2 := by
  have h1 : x % 2 ^ W % 2 ^ W = x % 2 ^ W := Int.emod_emod_of_dvd _ (Int.dvd_refl _)
  have h2 : bl W (x % 2 ^ W) = bl W x := bl_congr h1
  have h3 : (bl W (x % 2 ^ W))[i]? = (bl W x)[i]? := by rw [h2]
  unfold bl at h3
  rw [List.getElem?_map, List.getElem?_map, List.getElem?_range hi] at h3
  exact (Option.some.inj h3).symm
theorem bL_at (k : Str) (n a : Int) (h : 0 ≤ a) (h2 : a < kw k) : (bL k n).getD (((bL k n).length : Int) + (-1 - a)).toNat 0 = n % 2 ^ kw k / 2 ^ (kw k - 1 - a.toNat) % 2 := by
  rw [bL_len, show ((kw k : Int) + (-1 - a)).toNat = kw k - 1 - a.toNat by omega, ← bit_of_mod (by omega)]
  refine getD_at ?_
  unfold bL
  rw [List.getElem?_map, List.getElem?_range (by omega)]; rfl
theorem ahead_step (k : Str) (n a : Int) (h : Ahead k n a) (h2 : a < kw k) (hb : (bL k n).getD (((bL k n).length : Int) + (-1 - a)).toNat 0 = 0) : Ahead k n (a + 1) := by
  rw [bL_at k n a h.1 h2] at hb
  obtain ⟨h0, h1, h3⟩ := h
  refine ⟨by omega, by omega, ?_⟩
  have e : kw k - a.toNat = (kw k - 1 - a.toNat) + 1 := by omega
  rw [e, Int.pow_succ] at h3
  rw [show kw k - (a + 1).toNat = kw k - 1 - a.toNat by omega]
  have hn := Int.emod_nonneg n (two_ne (kw k))
  generalize n % 2 ^ kw k = r at *
  have hp := two_pos (kw k - 1 - a.toNat)
  generalize (2 : Int) ^ (kw k - 1 - a.toNat) = q at *
  have d1 : r / q < 2 := Int.ediv_lt_of_lt_mul hp (by rw [Int.mul_comm]; exact h3)
  have d2 : 0 ≤ r / q := Int.ediv_nonneg hn (Int.le_of_lt hp)
  have d3 : r / q = 0 := by omega
  have := Int.emod_add_mul_ediv r q
  have := Int.emod_lt_of_pos r hp
  rw [d3, Int.mul_zero] at *
  omega
theorem ahead_end (k : Str) (n a : Int) (h : Ahead k n a) (hb : ¬ a < kw k ∨ ¬ (bL k n).getD (((bL k n).length : Int) + (-1 - a)).toNat 0 = 0) : (kw k : Int) - Builtin.Int.intBits (n % 2 ^ kw k) = a := by
  have hn := Int.emod_nonneg n (two_ne (kw k))
  obtain ⟨h0, h1, h3⟩ := h
  have b1 : Builtin.Int.intBits (n % 2 ^ kw k) ≤ kw k - a.toNat := by
    refine intBits_le ?_
    have : ((2 ^ (kw k - a.toNat) : Nat) : Int) = (2 : Int) ^ (kw k - a.toNat) := kbt_cast _
    omega
  by_cases ha : a < kw k
  · have hb' : ¬ (bL k n).getD (((bL k n).length : Int) + (-1 - a)).toNat 0 = 0 := by
      rcases hb with hb | hb
      · exact absurd ha hb
      · exact hb
    rw [bL_at k n a h0 ha] at hb'
    have b2 : ¬ Builtin.Int.intBits (n % 2 ^ kw k) ≤ kw k - 1 - a.toNat := by
      intro hc
      have hc' := intBits_le_iff.mp hc
      have : ((2 ^ (kw k - 1 - a.toNat) : Nat) : Int) = (2 : Int) ^ (kw k - 1 - a.toNat) := kbt_cast _
      rw [div_small hn (by omega)] at hb'
      exact hb' (by decide)
    omega
  · have : Builtin.Int.intBits (n % 2 ^ kw k) = 0 := by omega
    omega
theorem ahead_less {k : Str} {a : Int} (h : a < kw k) (h0 : 0 ≤ a) : ((kw k : Int) - (a + 1)).toNat < ((kw k : Int) - a).toNat := by omega

/- G8 -/

theorem tl_mem {tl : List (Addr × Obj)} {p : Addr × Obj} (h : p ∈ tl) (xs : List (Addr × Obj)) : p ∈ xs ++ tl := List.mem_append_right _ h
local macro_rules | `(tactic| walk_at "my tl") => `(tactic| (intro p hp; repeat (first | exact hp | apply List.mem_cons_of_mem)))
theorem lst_memb {h₀ h : Heap} {L q : Addr} {news : List (Addr × Obj)} {ys : List Value} (N : News h₀ L h news) (hm : (q, LCg.lst ys) ∈ news) : h.IsList q ys.toArray := ⟨_, (N _ hm).1, rfl, _, rfl⟩
local macro_rules | `(tactic| walk_at "my list") => `(tactic| ((with_reducible rename News _ _ _ _ => lN8); exact lst_memb lN8 (by k_mem)))

section
open PyProof.Rows.LCg
variable {prog : Program} {w : World} {A : Around} {E : Value → Shared → Prop} {s : Shared} {h₀ : Heap} {L : Addr} {m : Str → Option Value} {env : Env}
theorem list_src {elt : Expr} {x : Str} {scope : Scope} {cl : List (Str × Addr)} {Fin : Shared → List Value → List (Addr × Obj) → Prop} {ax : Addr} {vs : List Value} {ns : List Int} {news : List (Addr × Obj)} {s₁ : Shared} (g : Int → Int)
    (hh : A.handled = none) (F : Fr h₀ L s₁.heap m) (N : News h₀ L s₁.heap news) (hm : (ax, lst vs) ∈ news) (hI : IntsAre vs ns) (hL : ns.length ≤ 64)
    (turn : ∀ g' k' t I oI C oC D m₂ ys h tk (E' : Value → Shared → Prop), k' ∈ ns → NsObj oC m₂ → m₂ x = some (.int k' t) → Fr h₀ L h m → News h₀ L h ((I, oI) :: (C, oC) :: (D, lst ys) :: news) → Off3 I C D news → ((@Ne Nat I C) ∧ (@Ne Nat I D) ∧ (@Ne Nat C D)) →
      wpAny (model prog w) A (eval elt (compEnvC scope cl C env)) (CompEnd h₀ L m { { s₁ with heap := g' } with heap := h, toks := tk } I oI C oC D (lst ys) (SrcAt h₀ ax vs.toArray) (fun y news' => KCfEl news (g k') y news')) E' { { s₁ with heap := g' } with heap := h, toks := tk })
    (fin : ∀ g' ys, IntsAre ys (ns.map g) → Fin { s₁ with heap := g' } ys news) : CompSrc prog w A h₀ L m env elt x scope cl Fin (.ref ax) s₁ :=
  CompSrc.ledger hh F N hm (by rw [List.size_toArray, hI.length, PySem.sizeLine_eq]; omega) fun g' =>
    kcf_list g hI (fun k' t I oI C oC D m₂ ys h tk E' hk hC hx F N off ne _ => turn g' k' t I oI C oC D m₂ ys h tk E' hk hC hx F N off ne) (fin g')
theorem list_end {I C D P : Addr} {oI oC oD : Obj} {its : Array Value} {news : List (Addr × Obj)} {h' : Heap} {tk : Nat} {r r' : Int} {t : Tok} {s₁ : Shared} (F : Fr h₀ L h' m) (N : News h₀ L h' ((I, oI) :: (C, oC) :: (D, oD) :: news)) (off : Off3 I C D news) (hS : SrcAt h₀ P its news) (er : r = r') :
    CompEnd h₀ L m s₁ I oI C oC D oD (SrcAt h₀ P its) (fun y news' => KCfEl news r y news') (.int r' t) { s₁ with heap := h', toks := tk } :=
  CompEnd.intro F N news (fun _ hp => hp) off hS (kcf_el er rfl rfl)
theorem NoSrc.three {c : Expr} {a b : Str} {scope : Scope} {cl : List (Str × Addr)} {Q : Value → Shared → Prop} {s₁ : Shared} {ax D1 D2 D3 : Addr} {k n1 n2 n3 : Nat} {a1 b1 a2 b2 a3 b3 : Value} {news : List (Addr × Obj)}
    (hh : A.handled = none) (F : Fr h₀ L s₁.heap m) (N : News h₀ L s₁.heap news) (hm : (ax, W.listOf #[.ref D1, .ref D2, .ref D3] k) ∈ news)
    (m1 : (D1, ({ cls := .type "tuple", data := .seq #[a1, b1] n1 } : Obj)) ∈ news) (m2 : (D2, ({ cls := .type "tuple", data := .seq #[a2, b2] n2 } : Obj)) ∈ news) (m3 : (D3, ({ cls := .type "tuple", data := .seq #[a3, b3] n3 } : Obj)) ∈ news)
    (T1 : ∀ g, NoTurn prog w A h₀ L m env c a b scope cl { s₁ with heap := g } news a1 b1) (T2 : ∀ g, NoTurn prog w A h₀ L m env c a b scope cl { s₁ with heap := g } news a2 b2) (T3 : ∀ g, NoTurn prog w A h₀ L m env c a b scope cl { s₁ with heap := g } news a3 b3)
    (fin : ∀ (D : Addr) (h : Heap) (tk : Nat), Fr h₀ L h m → News h₀ L h ((D, lst []) :: news) → Off1 D news → Q (.ref D) { s₁ with heap := h, toks := tk }) :
    NoSrc prog w A h₀ L m env c a b scope cl Q (.ref ax) s₁ := by
  refine ⟨ax, _, k, news, rfl, hh, F, N, hm, by rw [PySem.sizeLine_eq]; show 3 ≤ 16777216; decide, fun i v hv => ?_, fin⟩
  match i, hv with
  | 0, hv => exact ⟨D1, a1, b1, n1, (Option.some.inj hv).symm, m1, T1⟩
  | 1, hv => exact ⟨D2, a2, b2, n2, (Option.some.inj hv).symm, m2, T2⟩
  | 2, hv => exact ⟨D3, a3, b3, n3, (Option.some.inj hv).symm, m3, T3⟩
  | n + 3, hv => simp at hv
def AhEnd (h₀ : Heap) (L : Addr) (s : Shared) (m₀ : Str → Option Value) (led : List (Addr × Obj)) (k : Str) (n a : Int) (f : Flow) (s₃ : Shared) : Prop :=
  f = .next ∧ ∃ (h' : Heap) (tk : Nat) (m' : Str → Option Value) (a' : Int) (t : Tok), s₃ = { s with heap := h', toks := tk } ∧ Fr h₀ L h' m' ∧ News h₀ L h' led ∧ m' (Str.ofString "ahead") = some (.int a' t) ∧ (∀ z, z ≠ Str.ofString "ahead" → m' z = m₀ z) ∧ Ahead k n a' ∧ ((kw k : Int) - a').toNat < ((kw k : Int) - a).toNat
theorem led_one {h : Heap} {q : Addr} {ys : List Value} {news : List (Addr × Obj)} (N : News h₀ L h news) (hm : (q, lst ys) ∈ news) : News h₀ L h [(q, lst ys)] := fun p hp => by rw [List.mem_singleton.mp hp]; exact N _ hm
theorem ahead_while {test : Expr} {body : List Stmt} {pos : Pos} {Q : Flow → Shared → Prop} {k : Str} {n : Int} {q : Addr} {ys : List Value} {news : List (Addr × Obj)} {t0 : Tok} (hA₀ : Ahead k n 0) (F : Fr h₀ L s.heap m) (N : News h₀ L s.heap news) (_hq : m (Str.ofString "left") = some (.ref q)) (_hm : (q, lst ys) ∈ news) (ha : m (Str.ofString "ahead") = some (.int 0 t0))
    (turn : ∀ (a : Int) (t : Tok) (h : Heap) (tk : Nat), Ahead k n a → Fr h₀ L h (fun z => if z = Str.ofString "ahead" then some (.int a t) else m z) → News h₀ L h news →
      wpAny (model prog w) A (isTrue test env (eval test env)) (fun bb s₂ => if bb = true then wpAny (model prog w) A (execs body env) (AhEnd h₀ L s m news k n a) E s₂ else Q .next s₂) E { s with heap := h, toks := tk })
    (hE : PassesOwn (model prog w) A env E := by passes_own) : wpAny (model prog w) A (exec (.While test body [] pos) env) Q E s := by
  refine While_inv2 (fun j m' nx => nx = news ∧ ∃ (a : Int) (t : Tok), ((kw k : Int) - a).toNat = j ∧ Ahead k n a ∧ m' (Str.ofString "ahead") = some (.int a t) ∧ ∀ z, z ≠ Str.ofString "ahead" → m' z = m z) F N ⟨rfl, 0, t0, rfl, hA₀, ha, fun _ _ => rfl⟩ ?_ hE
  rintro j m₁ nx h tk F₁ N₁ ⟨rfl, a, t, rfl, hA, h1, h2⟩
  have em : m₁ = (fun z => if z = Str.ofString "ahead" then some (.int a t) else m z) := by
    funext z
    by_cases z1 : z = Str.ofString "ahead"
    · subst z1; simp only [if_true]; exact h1
    · simp only [if_neg z1]; exact h2 z z1
  rw [em] at F₁
  refine wpAny_mono (turn a t h tk hA F₁ N₁) (fun bb s₂ p => ?_) fun _ _ x => x
  cases bb with
  | false => simpa using p
  | true =>
    simp only [if_true] at p ⊢
    refine wpAny_mono p (fun f s₃ q => ?_) fun _ _ x => x
    obtain ⟨rfl, h', tk', m', a', u, rfl, F', N', e1, e2, hA', hm⟩ := q
    exact ⟨h', tk', m', _, _, rfl, F', N', hm, rfl, a', u, rfl, hA', e1, e2⟩
end
theorem bits_end {k : Str} {n a : Int} (hA : Ahead k n a) (hb : ¬ a < ((bL k n).length : Int) ∨ (bL k n).getD (((bL k n).length : Int) + (-1 - a)).toNat 0 ≠ 0) :
    decide ([wr k (0 - n - 1), (popN (n % 2 ^ kw k).toNat : Int), (kw k : Int) - (Builtin.Int.intBits (n % 2 ^ kw k) : Int)] = [wr k (num (List.map (fun b => 1 - b) (bL k n))), (bL k n).sum, a]) = true := by
  rw [decide_eq_true_eq, not_law, pop_law, ahead_end k n a hA (by rw [bL_len] at hb; rw [bL_len]; exact hb)]
theorem no_of {a b : Int} (h : a = b) : (a != b) = false := by rw [h]; exact bne_self_eq_false b
theorem no_of' {a b : Int} (h : a = b) : (!decide (a = b)) = false := by rw [h]; simp
theorem law_bits_right_c {w : World} (k : Str) (t : Tok) (hk : Kind k) (one : Int) (t1 : Tok) (h1 : lo k ≤ one ∧ one ≤ hi k) (other : Int) (t2 : Tok) (h2 : lo k ≤ other ∧ other ≤ hi k) : Clo w 294 16 [] (fun _ => True) [.str k t, .int one t1, .int other t2] (RetA fun _ => .bool true) := by
  unfold Clo RetA
  k_fill
  intro dp un gd cn cs a ccd cl outer A₀ base h₀ L m s Q E p loose mean mg mb B F X N hP T hcs hdp hun hret
  have hl := klen k hk
  have hb := kbig k hk
  have hw := kw_le k hk
  refine wpAny_call ?_
  k_dflt (refine' own_cells ?k1 ?k2 ?k3 ?k4 ?k5 ?kA ?kF ?kK ?k6 ?k7 ?k8 ?k9 ?kB ?kD ?_ ?c2 ?c3 ?c4; (case kA => exact rfl); (case kF => exact rfl); (case kK => assumption); (case k1 => k_asm); (case k2 => k_asm); (case k3 => k_asm); (case k4 => exact N); (case k5 => k_asm); (case k6 => k_is); (case k7 => k_is); (case k8 => ktr_room); (case k9 => exact BindsTo.of_eq rfl); (case kB => exact rfl); (case kD => decide +kernel); (case c2 => exact rfl); (case c3 => exact rfl); (case c4 => exact rfl); k_whole)
  intro g' L' h' tk' cells' hg' FG' F' N' Y' B' X' T' l1
  (try k_lt l1)
  k_cells Y'
  (try simp only [List.cons_append, List.nil_append] at N')
  (try dsimp only)
  (try k_lift B')
  (try k_fold)
  have b1 := bL_len k one
  have b2 := bL_len k other
  have zA := and_law k hk h1 h2
  have zO := or_law k hk h1 h2
  have zX := xor_law k hk h1 h2
  have lA : (List.zipWith (fun a b => min a b) (bL k one) (bL k other)).length ≤ 64 := by rw [List.length_zipWith, bL_len, bL_len]; omega
  have lO : (List.zipWith (fun a b => max a b) (bL k one) (bL k other)).length ≤ 64 := by rw [List.length_zipWith, bL_len, bL_len]; omega
  have lX : (List.zipWith (fun a b => if (a != b) = true then (1 : Int) else 0) (bL k one) (bL k other)).length ≤ 64 := by rw [List.length_zipWith, bL_len, bL_len]; omega
  have oA := zip_01 (b := (fun a b => min a b)) (fun x y hx hy => by omega) _ _ (bL_01 k one) (bL_01 k other)
  have oO := zip_01 (b := (fun a b => max a b)) (fun x y hx hy => by omega) _ _ (bL_01 k one) (bL_01 k other)
  have oX := zip_01 (b := (fun a b => if (a != b) = true then (1 : Int) else 0)) (fun x y hx hy => by split <;> omega) _ _ (bL_01 k one) (bL_01 k other)
  have lN : ((bL k one).map fun b => 1 - b).length ≤ 64 := by rw [List.length_map, bL_len]; omega
  have oN : ∀ z ∈ (bL k one).map (fun b => 1 - b), 0 ≤ z ∧ z ≤ 1 := by
    intro z hz
    obtain ⟨b, hb, rfl⟩ := List.mem_map.mp hz
    have := bL_01 k one b hb
    omega
  have hA0 := ahead_start k one
  repeat' (first
      | (k_unfold; (try dsimp only))
      | (k_end; kc_close)
      | ((with_reducible show wpAny _ _ (call (Value.ref _) _) _ _ _); first
        | (with_reducible ((with_reducible show wpAny _ _ (call (Value.ref 209) _) _ _ _); k_here; (with_reducible rename News _ _ _ _ => lN9z); k_dflt (refine' clo_useI (by k_asm) (by k_asm) (by k_asm) (by exact no_news) (by trivial) (ones_in_c _ _ (by assumption) _ _) (by k_asm) (by first | exact rfl | assumption) (by ktr_room) (by ktr_units) ?_; k_whole); intro u'z h'z tk'z F'z kN9z; (have N'z := kN9z _ lN9z); clear kN9z; (try dsimp only); (try k_fold); (try k_sweep)))
        | (with_reducible ((with_reducible show wpAny _ _ (call (Value.ref 282) _) _ _ _); k_here; (with_reducible rename News _ _ _ _ => lN9z); k_dflt (refine' clo_useI (by k_asm) (by k_asm) (by k_asm) (by exact no_news) (by (dsimp only; walk_at "my list")) (law_number_c _ _ (by assumption) _ _ _ (by first | assumption | l_ints) (by assumption) (by assumption)) (by k_asm) (by first | exact rfl | assumption) (by ktr_room) (by ktr_units) ?_; k_whole); intro u'z h'z tk'z F'z kN9z; (have N'z := kN9z _ lN9z); clear kN9z; (try dsimp only); (try k_fold); (try k_sweep)))
        | (with_reducible ((with_reducible show wpAny _ _ (call (Value.ref 270) _) _ _ _); k_here; k_dflt (refine' clm_use (law_bits_c _ _ (by assumption) _ _) (by k_asm) (by k_asm) (by k_asm) (by k_asm) (by k_asm) (by first | exact rfl | assumption) (by ktr_room) (by ktr_units) ?_; k_whole); intro q'z ys'z h'z tk'z hI8z hL8z F'z N'z o1'z; (try simp only [LCg.Off1, and_true] at o1'z); (try dsimp only); (try k_fold); (try k_sweep)))
        | (with_reducible ((with_reducible show wpAny _ _ (call (Value.ref 216) _) _ _ _); k_here; k_dflt (refine' clm_use (zeros_ahead_c _ _ (by assumption) _ _) (by k_asm) (by k_asm) (by k_asm) (by k_asm) (by k_asm) (by first | exact rfl | assumption) (by ktr_room) (by ktr_units) ?_; k_whole); intro u'z h'z tk'z F'z N'z; (try dsimp only); (try k_fold); (try k_sweep)))
        | (with_reducible ((with_reducible show wpAny _ _ (call (Value.ref 195) _) _ _ _); k_here; k_dflt (refine' clm_use (bits_together_c _ _ _ _ _ _) (by k_asm) (by k_asm) (by k_asm) (by k_asm) (by k_asm) (by first | exact rfl | assumption) (by ktr_room) (by ktr_units) ?_; k_whole); intro u'z h'z tk'z F'z N'z; (try dsimp only); (try k_fold); (try k_sweep)))
        | (with_reducible ((with_reducible show wpAny _ _ (call (Value.ref 202) _) _ _ _); k_here; k_dflt (refine' clm_use (inverted_c _ _ (by assumption) _ _) (by k_asm) (by k_asm) (by k_asm) (by k_asm) (by k_asm) (by first | exact rfl | assumption) (by ktr_room) (by ktr_units) ?_; k_whole); intro u'z h'z tk'z F'z N'z; (try dsimp only); (try k_fold); (try k_sweep)))
        | fail)
      | ((with_reducible show wpAny _ _ (subscriptTail (Expr.Name (Str.ofString "left") _) _ (Value.ref _) (Value.int _ _)) _ _ _); k_here; (with_reducible rename Ahead _ _ _ => hA7z); (have hA8z := hA7z.1); k_dflt (refine' item_back (ns := bL _ _) (by walk_at "my list") (by assumption) (by omega) (by omega) (by (rw [bL_len]; omega)) ?_ (by with_unfolding_all rfl); k_whole); clear hA8z; intro u'z)
      | (with_reducible ((with_reducible show wpAny _ _ (exec (Stmt.While _ _ [] _) _) _ _ _); k_here; (with_reducible rename Ahead _ _ 0 => hA9z); (with_reducible rename News _ _ _ _ => lN9z); k_dflt (refine' ahead_while hA9z (by k_asm) lN9z (by exact rfl) (by k_mem) (by exact rfl) (fun a'z t'z h'z tk'z hA'z F'z N'z => ?_) (by passes_own); k_whole); (try dsimp only); (try k_fold)))
      | ((with_reducible show NoEnd _ _ _ _ _ _ _); refine ⟨?_, _, _, rfl, by k_asm, by k_asm⟩; first | exact no_of (by assumption) | exact no_of' (by assumption))
      | (with_reducible ((with_reducible show NoSrc _ _ _ _ _ _ _ _ _ _ _ _ _ _ _); k_dflt (refine' NoSrc.three (by rfl) (by k_asm) (by k_asm) (by k_mem) (by k_mem) (by k_mem) (by k_mem) (fun g'z I'z C'z D'z oI'z oC'z m'z h'z tk'z E'z hC'z ha'z hb'z F'z N'z off'z ne'z => ?_) (fun g'z I'z C'z D'z oI'z oC'z m'z h'z tk'z E'z hC'z ha'z hb'z F'z N'z off'z ne'z => ?_) (fun g'z I'z C'z D'z oI'z oC'z m'z h'z tk'z E'z hC'z ha'z hb'z F'z N'z off'z ne'z => ?_) (fun D'z h'z tk'z F'z N'z o1'z => ?_); k_whole); (all_goals (try dsimp only))))
      | (with_reducible ((with_reducible show wpAny _ _ (eval (Expr.ListComp _ [⟨Expr.Tuple [Expr.Name _ _, Expr.Name _ _] _ _, Expr.Name (Str.ofString "dues") _, [_], 0⟩] _ _) _) _ _ _); k_here; k_dflt (refine no_ListComp (by k_asm) (by with_unfolding_all rfl) (by decide) (by rfl) (by decide) (by rfl) (by rfl) (by decide) ?_)))
      | (with_reducible ((with_reducible show LCg.CompSrc _ _ _ _ _ _ _ (Expr.BinOp (Expr.Constant _ _ _) _ _ _) _ _ _ _ _ _); k_here; k_dflt (refine' list_src (ns := bL _ _) (fun b => 1 - b) (by rfl) (by k_asm) (by k_asm) (by k_mem) (by assumption) (by (rw [bL_len]; omega)) (fun g'z k'z t'z I'z oI'z C'z oC'z D'z m'z ys'z h'z tk'z E'z hk'z hC'z hx'z F'z N'z off'z ne'z => ?_) (fun g'z ys'z hI'z => ?_); k_whole); (all_goals (try dsimp only))))
      | ((with_reducible show LCg.CompEnd _ _ _ _ _ _ _ _ _ _ _ _ _ _); (with_reducible rename LCg.Off3 _ _ _ _ => off9z); (with_reducible rename Fr _ _ _ _ => lF9z); (with_reducible rename News _ _ _ _ => lN9z); (refine list_end lF9z lN9z off9z (.inr ⟨_, by k_mem, rfl, _, rfl⟩) ?_); first | with_reducible rfl | rfl)
      | (with_reducible ((with_reducible show LCg.CompSrc _ _ _ _ _ _ _ (Expr.Call (Expr.Name (Str.ofString "int") _) _ _ _) _ _ _ _ _ _); k_here; (with_reducible rename List.length _ = Array.size _ => hl9z); (with_reducible rename ∀ (j : Nat) (p : Addr × Obj), _ => hp9z); k_dflt (refine' pairs_src (fun a b => if (a != b) = true then (1 : Int) else 0) (by rfl) (by k_asm) (by k_asm) (by k_mem) (by walk_at "my tl") (by assumption) (by assumption) hl9z (by (simp only [bL_len])) (by (rw [bL_len]; omega)) hp9z (fun g'z a'z b'z ta'z tb'z t'z I'z oI'z C'z oC'z D'z m'z ys'z h'z tk'z E'z hC'z hx'z F'z N'z off'z ne'z => ?_) (fun g'z ys'z hI'z => ?_); k_whole); (all_goals (try dsimp only))))
      | (with_reducible ((with_reducible show LCg.CompSrc _ _ _ _ _ _ _ (Expr.Call (Expr.Name (Str.ofString "max") _) _ _ _) _ _ _ _ _ _); k_here; (with_reducible rename List.length _ = Array.size _ => hl9z); (with_reducible rename ∀ (j : Nat) (p : Addr × Obj), _ => hp9z); k_dflt (refine' pairs_src (fun a b => max a b) (by rfl) (by k_asm) (by k_asm) (by k_mem) (by walk_at "my tl") (by assumption) (by assumption) hl9z (by (simp only [bL_len])) (by (rw [bL_len]; omega)) hp9z (fun g'z a'z b'z ta'z tb'z t'z I'z oI'z C'z oC'z D'z m'z ys'z h'z tk'z E'z hC'z hx'z F'z N'z off'z ne'z => ?_) (fun g'z ys'z hI'z => ?_); k_whole); (all_goals (try dsimp only))))
      | (with_reducible ((with_reducible show LCg.CompSrc _ _ _ _ _ _ _ (Expr.Call (Expr.Name (Str.ofString "min") _) _ _ _) _ _ _ _ _ _); k_here; (with_reducible rename List.length _ = Array.size _ => hl9z); (with_reducible rename ∀ (j : Nat) (p : Addr × Obj), _ => hp9z); k_dflt (refine' pairs_src (fun a b => min a b) (by rfl) (by k_asm) (by k_asm) (by k_mem) (by walk_at "my tl") (by assumption) (by assumption) hl9z (by (simp only [bL_len])) (by (rw [bL_len]; omega)) hp9z (fun g'z a'z b'z ta'z tb'z t'z I'z oI'z C'z oC'z D'z m'z ys'z h'z tk'z E'z hC'z hx'z F'z N'z off'z ne'z => ?_) (fun g'z ys'z hI'z => ?_); k_whole); (all_goals (try dsimp only))))
      | ((with_reducible show LCg.CompEnd _ _ _ _ _ _ _ _ _ _ _ _ _ _); (with_reducible rename LCg.Off3 _ _ _ _ => off9z); (with_reducible rename Fr _ _ _ _ => lF9z); (with_reducible rename News _ _ _ _ => lN9z); (refine pair_end lF9z lN9z off9z (.inr ⟨_, by k_mem, rfl, _, rfl⟩) ?_); first | with_reducible rfl | rfl)
      | ((with_reducible show wpAny _ _ (eval (Expr.ListComp _ [⟨Expr.Name (Str.ofString "bit") _, Expr.Name (Str.ofString "left") _, [], 0⟩] _ _) _) _ _ _); k_here; k_dflt (refine LCg.ListComp_U (by k_asm) (by with_unfolding_all rfl) (by decide) (by rfl) (by decide) (by rfl) ?_))
      | (with_reducible ((with_reducible show wpAny _ _ (call (Value.builtin "max") [Value.ref _]) _ _ _); k_here; k_dflt (refine' max_pair_N (by exact rfl) (by k_asm) (by k_asm) (by k_mem) ?_; k_whole); intro u'z h'z tk'z F'z N'z))
      | (with_reducible ((with_reducible show wpAny _ _ (call (Value.builtin "min") [Value.ref _]) _ _ _); k_here; k_dflt (refine' min_pair_N (by exact rfl) (by k_asm) (by k_asm) (by k_mem) ?_; k_whole); intro u'z h'z tk'z F'z N'z))
      | (with_reducible ((with_reducible show wpAny _ _ (eval (Expr.ListComp _ [⟨Expr.Name (Str.ofString "pair") _, Expr.Name (Str.ofString "pairs") _, [], 0⟩] _ _) _) _ _ _); k_here; k_dflt (refine LCg.ListComp_U (by k_asm) (by with_unfolding_all rfl) (by decide) (by rfl) (by decide) (by rfl) ?_)))
      | (with_reducible ((with_reducible show wpAny _ _ (call (Value.type "list") [Value.ref _]) _ _ _); k_here; (with_reducible rename ZReady _ _ _ _ _ _ _ _ _ => lZ9z); k_dflt (refine' list_zip_N (by exact rfl) (by k_asm) (by k_asm) lZ9z (by (simp only [List.size_toArray]; omega)) (by (simp only [List.size_toArray]; omega)) (by (simp only [List.size_toArray]; omega)) ?_; k_whole); clear lZ9z; intro h'z q'z tl'z c'z hl'z hp'z F'z N'z o1'z; (simp only [List.cons_append, List.nil_append] at N'z); (simp only [LCg.Off1, and_true] at o1'z)))
      | (with_reducible ((with_reducible show wpAny _ _ (call (Value.type "zip") [Value.ref _, Value.ref _]) _ _ _); k_here; k_dflt (refine' call_zip_N (by k_asm) (by k_asm) (by walk_at "my list") (by walk_at "my list") ?_; k_whole); intro h'z z'z F'z N'z Z'z))
      | walk1
      | (dsimp only; walk1)
      | (leave1; walk_say "STEP leave1"; (try dsimp only))
      | fail "no step")
  · rename Ahead k one _ => hAx
    rename List.getD _ _ _ = 0 => hg0
    rename _ < ((List.length (bL k one) : Nat) : Int) => hl0
    have hl1 := hl0
    rw [bL_len] at hl1
    refine ⟨rfl, _, _, _, _, _, rfl, by k_asm, by k_asm, by k_dflt exact rfl, fun z hz => ?_, ahead_step k one _ hAx hl1 hg0, ahead_less hl1 hAx.1⟩
    simp only [if_neg hz]
  · rename Ahead k one _ => hAx
    refine retA_b hret (bits_end hAx (by first | exact .inl (by assumption) | exact .inr (by assumption))) (by k_asm) (keeps_all hg' (by k_asm))
  · rename Ahead k one _ => hAx
    refine retA_b hret (bits_end hAx (by first | exact .inl (by assumption) | exact .inr (by assumption))) (by k_asm) (keeps_all hg' (by k_asm))

/- Lw -/

theorem tupSrc_wr {prog : Program} {w : World} {A : Around} {h₀ : Heap} {L : Addr} {m : Str → Option Value} {env : Env} (k : Str) {elt : Expr} {x : Str} {scope : Scope} {cl : List (Str × Addr)} {Fin : Shared → List Value → List (Addr × Obj) → Prop} {ax : Addr} {vs : List Value} {ns : List Int} {c' : Nat} {news : List (Addr × Obj)} {s₁ : Shared}
    (hh : A.handled = none) (F : Fr h₀ L s₁.heap m) (N : News h₀ L s₁.heap news) (hm : (ax, ({ cls := .type "tuple", data := .seq vs.toArray c' } : Obj)) ∈ news) (hI : IntsAre vs ns) (hL : ns.length ≤ 64)
    (turn : ∀ g' k' t I oI C oC D m₂ ys h tk (E' : Value → Shared → Prop), k' ∈ ns → LCg.NsObj oC m₂ → m₂ x = some (.int k' t) → Fr h₀ L h m → News h₀ L h ((I, oI) :: (C, oC) :: (D, LCg.lst ys) :: news) → LCg.Off3 I C D news → ((@Ne Nat I C) ∧ (@Ne Nat I D) ∧ (@Ne Nat C D)) →
      wpAny (model prog w) A (eval elt (compEnvC scope cl C env)) (LCg.CompEnd h₀ L m { { s₁ with heap := g' } with heap := h, toks := tk } I oI C oC D (LCg.lst ys) (fun nw => (ax, ({ cls := .type "tuple", data := .seq vs.toArray c' } : Obj)) ∈ nw) (fun y news' => KCfEl news (wr k k') y news')) E' { { s₁ with heap := g' } with heap := h, toks := tk })
    (fin : ∀ g' ys, IntsAre ys (ns.map fun n => wr k n) → Fin { s₁ with heap := g' } ys news) : TupSrc prog w A h₀ L m env elt x scope cl Fin (.ref ax) s₁ :=
  TupSrc.ints (wr k) hh F N hm hI hL turn fin
theorem tupSrc_wrK {prog : Program} {w : World} {A : Around} {h₀ : Heap} {L : Addr} {m : Str → Option Value} {env : Env} {k : Str} (_hk : Kind k) {elt : Expr} {x : Str} {scope : Scope} {cl : List (Str × Addr)} {Fin : Shared → List Value → List (Addr × Obj) → Prop} {ax : Addr} {vs : List Value} {ns : List Int} {c' : Nat} {news : List (Addr × Obj)} {s₁ : Shared}
    (hh : A.handled = none) (F : Fr h₀ L s₁.heap m) (N : News h₀ L s₁.heap news) (hm : (ax, ({ cls := .type "tuple", data := .seq vs.toArray c' } : Obj)) ∈ news) (hI : IntsAre vs ns) (hL : ns.length ≤ 64)
    (turn : ∀ g' k' t I oI C oC D m₂ ys h tk (E' : Value → Shared → Prop), k' ∈ ns → LCg.NsObj oC m₂ → m₂ x = some (.int k' t) → Fr h₀ L h m → News h₀ L h ((I, oI) :: (C, oC) :: (D, LCg.lst ys) :: news) → LCg.Off3 I C D news → ((@Ne Nat I C) ∧ (@Ne Nat I D) ∧ (@Ne Nat C D)) →
      wpAny (model prog w) A (eval elt (compEnvC scope cl C env)) (LCg.CompEnd h₀ L m { { s₁ with heap := g' } with heap := h, toks := tk } I oI C oC D (LCg.lst ys) (fun nw => (ax, ({ cls := .type "tuple", data := .seq vs.toArray c' } : Obj)) ∈ nw) (fun y news' => KCfEl news (wr k k') y news')) E' { { s₁ with heap := g' } with heap := h, toks := tk })
    (fin : ∀ g' ys, IntsAre ys (ns.map fun n => wr k n) → Fin { s₁ with heap := g' } ys news) : TupSrc prog w A h₀ L m env elt x scope cl Fin (.ref ax) s₁ :=
  TupSrc.ints (wr k) hh F N hm hI hL turn fin
theorem News.erase {h₀ h : Heap} {L : Addr} {news : List (Addr × Obj)} (i : Nat) (N : News h₀ L h news) : News h₀ L h (news.eraseIdx i) := fun p hp => N p (List.mem_of_mem_eraseIdx hp)
/-- a count for the row below -/
structure BackIx (n : Nat) : Prop where
  le : n ≤ 15
abbrev backOf {n : Nat} (_ : BackIx n) : Nat := n
local macro_rules | `(tactic| walk_at "my back1") => `(tactic| ((with_reducible rename BackIx _ => ix8); (with_reducible rename (∀ nw : List (Addr × Obj), News _ _ _ nw → (∀ p, p ∈ nw → p.1 ≠ _) → News _ _ _ (_ :: nw)) => kN8); (with_reducible rename News _ _ _ _ => lN7); first | (refine' my_have (kN8 _ (News.erase (backOf ix8) lN7) ?off) ?_; (case off => ((try dsimp only [List.eraseIdx, backOf]); walk_at "my off")); intro N'; (try dsimp only [List.eraseIdx, backOf] at N'); (clear kN8 ix8)) | ((replace ix8 := BackIx.mk (n := Nat.succ _) (Nat.succ_le_of_lt (Nat.lt_of_le_of_ne ix8.le (by decide)))); walk_at "my back1")))
local macro_rules | `(tactic| walk_at "my back") => `(tactic| ((have ix8 : BackIx 0 := ⟨Nat.zero_le _⟩); walk_at "my back1"))
theorem own_at {h₀ h : Heap} {L : Addr} {p : Addr × Obj} {news : List (Addr × Obj)} (N : News h₀ L h news) (hm : p ∈ news) : News h₀ L h [p] := fun q hq => by rw [List.mem_singleton.mp hq]; exact N _ hm
local macro_rules | `(tactic| walk_at "my own") => `(tactic| ((with_reducible rename News _ _ _ _ => lN8); (try dsimp only); exact own_at lN8 (by k_mem)))
theorem comp_endS {h₀ : Heap} {L : Addr} {m : Str → Option Value} {I C D : Addr} {oI oC oD : Obj} {S : List (Addr × Obj) → Prop} {news : List (Addr × Obj)} {h' : Heap} {tk : Nat} {r r' : Int} {t : Tok} {s₁ : Shared} (F : Fr h₀ L h' m) (N : News h₀ L h' ((I, oI) :: (C, oC) :: (D, oD) :: news)) (off : LCg.Off3 I C D news) (hS : S news) (er : r = r') :
    LCg.CompEnd h₀ L m s₁ I oI C oC D oD S (fun y news' => KCfEl news r y news') (.int r' t) { s₁ with heap := h', toks := tk } :=
  LCg.CompEnd.intro F N news (fun _ hp => hp) off hS (kcf_el er rfl rfl)

theorem item_kind {prog : Program} {w : World} {A : Around} {s : Shared} {Q E : Value → Shared → Prop} {value slice : Expr} {l : Addr} {i : Int} {u : Tok} {t0 t1 t2 t3 t4 t5 t6 t7 : Tok}
    (hl : s.heap.IsList l #[.str (Str.ofString "Int8") t0, .str (Str.ofString "UInt8") t1, .str (Str.ofString "Int16") t2, .str (Str.ofString "UInt16") t3, .str (Str.ofString "Int32") t4, .str (Str.ofString "UInt32") t5, .str (Str.ofString "Int64") t6, .str (Str.ofString "UInt64") t7])
    (hi : 0 ≤ i ∧ i < 8) (h : ∀ k t, Kind k → Q (.str k t) s)
    (hs : subscripted slice false (.ref l) (.int i u) = operate [.ref l, .int i u] (getItem (.ref l) (.int i u)) := by with_unfolding_all rfl) (hg : ∀ r, letTemporaryGo value (.ref l) r = pure () := by intro _; with_unfolding_all rfl) :
    wpAny (model prog w) A (subscriptTail value slice (.ref l) (.int i u)) Q E s := by
  have K : ∀ x ∈ kindsL, Kind x := fun x hx => hx
  have : ∃ k t, ([.str (Str.ofString "Int8") t0, .str (Str.ofString "UInt8") t1, .str (Str.ofString "Int16") t2, .str (Str.ofString "UInt16") t3, .str (Str.ofString "Int32") t4, .str (Str.ofString "UInt32") t5, .str (Str.ofString "Int64") t6, .str (Str.ofString "UInt64") t7] : List Value)[i.toNat]? = some (.str k t) ∧ Kind k := by
    have : i = 0 ∨ i = 1 ∨ i = 2 ∨ i = 3 ∨ i = 4 ∨ i = 5 ∨ i = 6 ∨ i = 7 := by omega
    unfold Kind kindsL
    rcases this with rfl | rfl | rfl | rfl | rfl | rfl | rfl | rfl
    · exact ⟨_, _, rfl, .head _⟩
    · exact ⟨_, _, rfl, .tail _ (.head _)⟩
    · exact ⟨_, _, rfl, .tail _ (.tail _ (.head _))⟩
    · exact ⟨_, _, rfl, .tail _ (.tail _ (.tail _ (.head _)))⟩
    · exact ⟨_, _, rfl, .tail _ (.tail _ (.tail _ (.tail _ (.head _))))⟩
    · exact ⟨_, _, rfl, .tail _ (.tail _ (.tail _ (.tail _ (.tail _ (.head _)))))⟩
    · exact ⟨_, _, rfl, .tail _ (.tail _ (.tail _ (.tail _ (.tail _ (.tail _ (.head _))))))⟩
    · exact ⟨_, _, rfl, .tail _ (.tail _ (.tail _ (.tail _ (.tail _ (.tail _ (.tail _ (.head _)))))))⟩
  obtain ⟨k, t, hx, hk⟩ := this
  exact item_listL hl hi.1 (by omega) hx (h k t hk) hs hg
theorem turn_facts (k : Str) (hk : Kind k) : Builtin.Int.intBits (lo k) ≤ 1000 ∧ Builtin.Int.intBits (hi k) ≤ 1000 ∧ Builtin.Int.intBits (hi k + 1) ≤ 1000 ∧ ks k = decide (lo k < 0) ∧ wr k (lo k) = lo k ∧ wr k (hi k) = hi k ∧ wr k (lo k - 1) = hi k ∧ wr k (hi k + 1) = lo k := by
  unfold Kind kindsL at hk
  simp only [List.mem_cons, List.not_mem_nil, or_false] at hk
  rcases hk with rfl | rfl | rfl | rfl | rfl | rfl | rfl | rfl <;> decide +kernel
/-- the table of a def's lambdas: empty, or with the one lambda's code -/
def LamOk (T : Obj) (d : Addr) (od : Obj) : Prop :=
  (T = tabObj #[] ∧ d = 317 ∧ od = tabObj #[]) ∨ (T = tabObj #[rawInt 175, rawInt 22, .ref d] ∧ ∃ vs t, od.data = .fields vs ∧ vs[1]? = some (.str (Str.ofString "_law_converted_right" ++ Str.ofString ".<locals>." ++ Str.ofString "<lambda>") t))
theorem lamOk_none : LamOk (tabObj #[]) 317 (tabObj #[]) := .inl ⟨rfl, rfl, rfl⟩
theorem lamOk_some {d : Addr} {od : Obj} {vs : Array Value} {t : Tok} (hd : od.data = .fields vs) (hv : vs[1]? = some (.str (Str.ofString "_law_converted_right" ++ Str.ofString ".<locals>." ++ Str.ofString "<lambda>") t)) : LamOk (tabObj #[rawInt 175, rawInt 22, .ref d]) d od := .inr ⟨rfl, vs, t, hd, hv⟩
theorem lamOk_tab {T : Obj} {d : Addr} {od : Obj} (h : LamOk T d od) : ∃ ps, T = tabObj ps := by
  rcases h with ⟨rfl, _⟩ | ⟨rfl, _⟩
  · exact ⟨_, rfl⟩
  · exact ⟨_, rfl⟩
abbrev Clo0 (w : World) (f : Addr) (k : Nat) (own : List (Addr × Obj)) (Pre : Heap → Prop) (vs : List Value) (Ret : Heap → Addr → (Str → Option Value) → Shared → (Value → Shared → Prop) → (Value → Shared → Prop) → Prop) : Prop :=
  ∀ (dp un : Nat) (gd : Option (List Code)) (cn : Str) (cs : Scope) (a : Addr) (ccd : Value) (cl : List (Str × Addr)) (A₀ : Around) (base h₀ : Heap) (L : Addr) (m : Str → Option Value) (s : Shared) (Q E : Value → Shared → Prop)
    (p : Program) (loose : List Str) (mean : ExcName → Option Value) (mg mb : Str → Option Value),
    Below A₀ base [] h₀ → Fr h₀ L s.heap m → (KF w.params).In h₀ → News h₀ L s.heap own → Pre h₀ → Top p loose mean mg mb h₀ → cs.kind = .function → dp + k < recursionLimit → un + 8 * k < cLine →
      Ret h₀ L m s Q E → wpAny (model PySem.Challenge.rw_pc0193_01.row.prog w) (ktrTop dp un gd cn cs L a ccd cl []) (call (.ref f) vs) Q E s
section
variable {w : World} {f : Addr} {k : Nat} {own : List (Addr × Obj)} {Pre : Heap → Prop} {vs : List Value} {Ret : Heap → Addr → (Str → Option Value) → Shared → (Value → Shared → Prop) → (Value → Shared → Prop) → Prop}
  {dp un : Nat} {gd : Option (List Code)} {cn : Str} {cs : Scope} {a : Addr} {ccd : Value} {cl : List (Str × Addr)} {A₀ : Around} {base h₀ : Heap} {L : Addr} {m : Str → Option Value} {s : Shared} {Q E : Value → Shared → Prop}
    {p : Program} {loose : List Str} {mean : ExcName → Option Value} {mg mb : Str → Option Value}
theorem clo0_use (C : Clo0 w f k own Pre vs Ret) (B : Below A₀ base [] h₀) (F : Fr h₀ L s.heap m) (X : (KF w.params).In h₀) (N : News h₀ L s.heap own) (hP : Pre h₀) (T : Top p loose mean mg mb h₀) (hcs : cs.kind = .function) (hdp : dp + k < recursionLimit) (hun : un + 8 * k < cLine)
    (r : Ret h₀ L m s Q E) : wpAny (model PySem.Challenge.rw_pc0193_01.row.prog w) (ktrTop dp un gd cn cs L a ccd cl []) (call (.ref f) vs) Q E s :=
  C _ _ _ _ _ _ _ _ _ _ _ _ _ _ _ _ _ _ _ _ _ B F X N hP T hcs hdp hun r
end
abbrev RetLam (d₀ : Addr) : Heap → Addr → (Str → Option Value) → Shared → (Value → Shared → Prop) → (Value → Shared → Prop) → Prop :=
  fun h₀ L m s Q _ => ∀ (T : Obj) (d : Addr) (od : Obj) (h' : Heap) (tk' : Nat), LamOk T d od → Fr h₀ L h' m → (∀ nw, News h₀ L s.heap nw → (∀ p ∈ nw, p.1 ≠ 317) → News h₀ L h' ((317, T) :: (d, od) :: nw)) → (∀ nw, News h₀ L s.heap nw → (∀ p ∈ nw, p.1 ≠ d₀) → ∀ p ∈ nw, p.1 ≠ d) → Q (.bool true) { s with heap := h', toks := tk' }
abbrev RetLast : Heap → Addr → (Str → Option Value) → Shared → (Value → Shared → Prop) → (Value → Shared → Prop) → Prop :=
  fun h₀ L m s Q _ => ∀ (ps : Array Value) (h' : Heap) (tk' : Nat), Fr h₀ L h' m → (∀ nw, News h₀ L s.heap nw → (∀ p ∈ nw, p.1 ≠ 324) → News h₀ L h' ((324, tabObj ps) :: nw)) → Q (.bool true) { s with heap := h', toks := tk' }
section
variable {prog : Program} {w : World} {A : Around} {E : Value → Shared → Prop} {s : Shared} {env : Env} {h₀ : Heap} {x : Str} {body : List Stmt} {Q : Flow → Shared → Prop}
theorem UnrPost.mono {L I : Addr} {it : Obj} {s₁ s₂ : Shared} {f : Flow} {R R' : (Str → Option Value) → List (Addr × Obj) → Prop} (h : ∀ m nw, R m nw → R' m nw) (p : UnrPost h₀ L s₁ I it R Q f s₂) : UnrPost h₀ L s₁ I it R' Q f s₂ := by
  have k : UnrEnd h₀ L s₁ I it R s₂ → UnrEnd h₀ L s₁ I it R' s₂ := fun ⟨h', tk, m', nw, e, F, N, o, r⟩ => ⟨h', tk, m', nw, e, F, N, o, h _ _ r⟩
  cases f with
  | ret v => exact p
  | brk => exact p
  | next => exact k p
  | cont => exact k p
theorem range_inv {I : Addr} {a : Int} {n : Nat} (Inv : (Str → Option Value) → List (Addr × Obj) → Prop)
    (turn : ∀ i t m news it h tk, Inv m news → Fr h₀ env.locals h (fun y => if y = x then some (.int (a + (i : Nat)) t) else m y) → News h₀ env.locals h ((I, it) :: news) →
      wpAny (model prog w) A (execs body env) (UnrPost h₀ env.locals { s with heap := h, toks := tk } I it Inv Q) E { s with heap := h, toks := tk })
    (done : ∀ m news h tk, Inv m news → Fr h₀ env.locals h m → News h₀ env.locals h news → Q .next { s with heap := h, toks := tk }) :
    ∀ k i m news, Inv m news → RangeRest prog w A E h₀ env x body Q s I a n k i m news := by
  intro k
  induction k with
  | zero => intro i m news hi; exact RangeRest.zero fun h tk F N => done m news h tk hi F N
  | succ k ih =>
    intro i m news hi
    exact RangeRest.succ fun t h tk F N => wpAny_mono (turn i t m news _ h tk hi F N) (fun f s₂ p => UnrPost.mono (fun m nw r => ih (i + 1) m nw r) p) fun _ _ e => e
theorem iter_two {r : Addr} {a₀ b₀ : Int} {t₀ u₀ v₀ : Tok} {n : Nat} {m₀ : Str → Option Value} {news : List (Addr × Obj)} (Inv : Addr → (Str → Option Value) → List (Addr × Obj) → Prop)
    (hh : A.handled = none) (hr : IsRange s.heap r a₀ b₀ 1 t₀ u₀ v₀) (hsmall : Builtin.Range.small a₀ b₀ 1 = true) (hn : Builtin.Range.rangeSize a₀ b₀ 1 = (n : Int)) (F : Fr h₀ env.locals s.heap m₀) (N : News h₀ env.locals s.heap news)
    (hi : ∀ I, (∀ p ∈ news, p.1 < I) → Inv I m₀ news)
    (turn : ∀ I i t m news₁ it h tk, (∀ p ∈ news, p.1 < I) → Inv I m news₁ → Fr h₀ env.locals h (fun y => if y = x then some (.int (a₀ + (i : Nat)) t) else m y) → News h₀ env.locals h ((I, it) :: news₁) →
      wpAny (model prog w) A (execs body env) (UnrPost h₀ env.locals { s with heap := h, toks := tk } I it (Inv I) Q) E { s with heap := h, toks := tk })
    (done : ∀ I m news₁ h tk, Inv I m news₁ → Fr h₀ env.locals h m → News h₀ env.locals h news₁ → Q .next { s with heap := h, toks := tk }) :
    wpAny (model prog w) A (pyIter (.ref r)) (fun it s₂ => LoopAtV prog w A h₀ env x body Q E it s₂) E s :=
  iter_rangeUnr hh hr hsmall hn F N fun I hI => range_inv (Inv I) (fun i t m nw it h tk => turn I i t m nw it h tk hI) (done I) _ _ _ _ (hi I hI)
end
/-- a goal kept for later -/
def Hold (P : Prop) : Prop := P
theorem unhold {P : Prop} (h : Hold P) : P := h
/-- the law's own things lie apart -/
structure Offs (kc q l I : Addr) : Prop where
  o1 : @LT.lt Nat _ 317 I
  o2 : @Ne Nat 317 kc
  o3 : @Ne Nat 317 q
  o4 : @Ne Nat 317 l
structure DOff (d l kc I : Addr) : Prop where
  l : @Ne Nat d l
  k : @Ne Nat d kc
  i : @Ne Nat d I
/-- the state between the turns -/
def LawInv (kc q l : Addr) (kinds : Obj) (I : Addr) (m : Str → Option Value) (news : List (Addr × Obj)) : Prop :=
  ∃ (a b : Int) (t1 t2 : Tok) (c : Nat) (T : Obj) (d : Addr) (od ko : Obj) (kv : Option Value) (m₁ : Str → Option Value), 0 ≤ a ∧ 0 ≤ b ∧ b < 4294967296 ∧ LamOk T d od ∧ DOff d l kc I ∧ ko.data = .cell kv ∧ news = [(317, T), (d, od), (kc, ko), (q, kinds), (l, W.listOf #[.int a t1, .int b t2] c), (324, tabObj #[])] ∧
    m = fun y => if y = Str.ofString "pot" then some (.ref l) else if y = Str.ofString "kinds" then some (.ref q) else m₁ y
theorem law_turn {prog : Program} {w : World} {A : Around} {E : Value → Shared → Prop} {s : Shared} {env : Env} {h₀ : Heap} {L : Addr} {x : Str} {body : List Stmt} {Q : Flow → Shared → Prop} {r kc q l : Addr} {ko kinds : Obj} {kv : Option Value} {t₀ u₀ v₀ : Tok} {a b : Int} {t1 t2 : Tok} {c : Nat} {m : Str → Option Value} {news : List (Addr × Obj)}
    (hL : env.locals = L) (hh : A.handled = none) (hr : IsRange s.heap r 0 2 1 t₀ u₀ v₀) (F : Fr h₀ L s.heap m) (N : News h₀ L s.heap news) (hko : ko.data = .cell kv)
    (ha : 0 ≤ a) (hb : 0 ≤ b) (hb2 : b < 4294967296) (h0 : (kc, ko) ∈ news) (h1 : (q, kinds) ∈ news) (h2 : (l, W.listOf #[.int a t1, .int b t2] c) ∈ news) (h3 : (317, tabObj #[]) ∈ news) (h4 : (324, tabObj #[]) ∈ news) (hne : @Ne Nat 317 l) (hp : m (Str.ofString "pot") = some (.ref l)) (hk : m (Str.ofString "kinds") = some (.ref q))
    (hn2 : @Ne Nat 317 q) (hn3 : @Ne Nat 324 l) (hn4 : @Ne Nat q l) (hn5 : @Ne Nat kc l) (hn6 : @Ne Nat 317 kc) (hn7 : @Ne Nat 324 kc) (hn8 : @Ne Nat kc q)
    (turn : Hold (∀ (q l I : Addr) (a b : Int) (t1 t2 : Tok) (c : Nat) (T : Obj) (d : Addr) (od ko : Obj) (kv : Option Value) (m₁ : Str → Option Value) t n it h tk, (@LT.lt Nat _ 317 I) → (@LT.lt Nat _ kc I) → (@LT.lt Nat _ q I) → (@LT.lt Nat _ l I) → (@LT.lt Nat _ 324 I) → (@Ne Nat 317 q) → (@Ne Nat 317 l) → (@Ne Nat 324 l) → (@Ne Nat q l) → (@Ne Nat kc l) → (@Ne Nat 317 kc) → (@Ne Nat 324 kc) → (@Ne Nat kc q) → (@Ne Nat I l) → (@Ne Nat 317 I) → 0 ≤ a → 0 ≤ b → b < 4294967296 → LamOk T d od → Offs kc q l I → DOff d l kc I → (@Ne Nat d l) → (@Ne Nat d kc) → ko.data = .cell kv →
      Fr h₀ L h (fun y => if y = x then some (.int n t) else if y = Str.ofString "pot" then some (.ref l) else if y = Str.ofString "kinds" then some (.ref q) else m₁ y) →
      News h₀ L h [(I, it), (317, T), (d, od), (kc, ko), (q, kinds), (l, W.listOf #[.int a t1, .int b t2] c), (324, tabObj #[])] →
      wpAny (model prog w) A (execs body env) (UnrPost h₀ L { s with heap := h, toks := tk } I it (LawInv kc q l kinds I) Q) E { s with heap := h, toks := tk }))
    (done : Hold (∀ (q l : Addr) (a b : Int) (t1 t2 : Tok) (c : Nat) (ps : Array Value) (m₁ : Str → Option Value) h tk, (@Ne Nat 317 l) → (@Ne Nat 324 l) → (@Ne Nat q l) → 0 ≤ a → 0 ≤ b → b < 4294967296 →
      Fr h₀ L h (fun y => if y = Str.ofString "pot" then some (.ref l) else if y = Str.ofString "kinds" then some (.ref q) else m₁ y) →
      News h₀ L h [(317, tabObj ps), (q, kinds), (l, W.listOf #[.int a t1, .int b t2] c), (324, tabObj #[])] → Q .next { s with heap := h, toks := tk })) :
    wpAny (model prog w) A (pyIter (.ref r)) (fun it s₂ => LoopAtV prog w A h₀ env x body Q E it s₂) E s := by
  subst hL
  unfold Hold at turn done
  have em : m = fun y => if y = Str.ofString "pot" then some (.ref l) else if y = Str.ofString "kinds" then some (.ref q) else m y := by
    funext y
    by_cases h1 : y = Str.ofString "pot"
    · subst h1; simp only [if_pos rfl]; exact hp
    · by_cases h2 : y = Str.ofString "kinds"
      · subst h2; simp only [if_neg h1, if_pos rfl]; exact hk
      · simp [h1, h2]
  refine iter_two (n := 2) (news := [(317, tabObj #[]), (317, tabObj #[]), (kc, ko), (q, kinds), (l, W.listOf #[.int a t1, .int b t2] c), (324, tabObj #[])]) (LawInv kc q l kinds) hh hr (by decide) (by decide) F (fun p hp => ?_) (fun I hI => ⟨a, b, t1, t2, c, _, _, _, ko, kv, m, ha, hb, hb2, lamOk_none, ⟨hne, hn6, Nat.ne_of_lt (hI _ (.head _))⟩, hko, rfl, em⟩) ?_ ?_
  · simp only [List.mem_cons, List.not_mem_nil, or_false] at hp
    rcases hp with rfl | rfl | rfl | rfl | rfl | rfl
    · exact N _ h3
    · exact N _ h3
    · exact N _ h0
    · exact N _ h1
    · exact N _ h2
    · exact N _ h4
  · rintro I i t m' nw it h tk hI ⟨a, b, t1, t2, c, T, d, od, ko, kv, m₁, ha, hb, hb2, hT, hD, hko, rfl, rfl⟩ F N
    have i1 := hI _ (.head _)
    have i2 := hI _ (.tail _ (.tail _ (.head _)))
    have i3 := hI _ (.tail _ (.tail _ (.tail _ (.head _))))
    have i4 := hI _ (.tail _ (.tail _ (.tail _ (.tail _ (.head _)))))
    have i5 := hI _ (.tail _ (.tail _ (.tail _ (.tail _ (.tail _ (.head _))))))
    exact turn q l I a b t1 t2 c T d od ko kv m₁ t _ it h tk i1 i2 i3 i4 i5 hn2 hne hn3 hn4 hn5 hn6 hn7 hn8 (Ne.symm (Nat.ne_of_lt i4)) (Nat.ne_of_lt i1) ha hb hb2 hT ⟨i1, hn6, hn2, hne⟩ hD hD.l hD.k hko F N
  · rintro I m' nw h tk ⟨a, b, t1, t2, c, T, d, od, ko, kv, m₁, ha, hb, hb2, hT, hD, hko, rfl, rfl⟩ F N
    obtain ⟨ps, rfl⟩ := lamOk_tab hT
    exact done q l a b t1 t2 c ps m₁ h tk hne hn3 hn4 ha hb hb2 F fun p hp => by
      rcases List.mem_cons.mp hp with rfl | hp
      · exact N _ (.head _)
      · exact N p (.tail _ (.tail _ (.tail _ hp)))
theorem lam_back {h₀ h h' : Heap} {L I kc q l d : Addr} {T od it ko kinds pot tb : Obj} {news : List (Addr × Obj)} (hO : Offs kc q l I) (N : News h₀ L h news) (k : ∀ nw, News h₀ L h nw → (∀ p ∈ nw, p.1 ≠ 317) → News h₀ L h' ((317, T) :: (d, od) :: nw))
    (m1 : (I, it) ∈ news) (m0 : (kc, ko) ∈ news) (m2 : (q, kinds) ∈ news) (m3 : (l, pot) ∈ news) (m4 : (324, tb) ∈ news) : News h₀ L h' [(317, T), (d, od), (I, it), (kc, ko), (q, kinds), (l, pot), (324, tb)] := by
  refine k _ (fun p hp => ?_) fun p hp => ?_
  · simp only [List.mem_cons, List.not_mem_nil, or_false] at hp
    rcases hp with rfl | rfl | rfl | rfl | rfl
    · exact N _ m1
    · exact N _ m0
    · exact N _ m2
    · exact N _ m3
    · exact N _ m4
  · simp only [List.mem_cons, List.not_mem_nil, or_false] at hp
    rcases hp with rfl | rfl | rfl | rfl | rfl
    · exact Ne.symm (Nat.ne_of_lt hO.o1)
    · exact Ne.symm hO.o2
    · exact Ne.symm hO.o3
    · exact Ne.symm hO.o4
    · exact (by decide : (324 : Nat) ≠ 317)
theorem lam_off {h₀ h : Heap} {L l d d' : Addr} {pot : Obj} {news : List (Addr × Obj)} (N : News h₀ L h news) (k : ∀ nw, News h₀ L h nw → (∀ p ∈ nw, p.1 ≠ d) → ∀ p ∈ nw, p.1 ≠ d') (m3 : (l, pot) ∈ news) (o : @Ne Nat d l) : @Ne Nat d' l :=
  Ne.symm (k [(l, pot)] (fun p hp => by rw [List.mem_singleton.mp hp]; exact N _ m3) (fun p hp => by rw [List.mem_singleton.mp hp]; exact Ne.symm o) _ (.head _))
theorem lam_own {h₀ h : Heap} {L d : Addr} {T od : Obj} {news : List (Addr × Obj)} (N : News h₀ L h news) (m1 : (317, T) ∈ news) (m2 : (d, od) ∈ news) : News h₀ L h [(317, T), (d, od)] := fun p hp => by
  simp only [List.mem_cons, List.not_mem_nil, or_false] at hp
  rcases hp with rfl | rfl
  · exact N _ m1
  · exact N _ m2
theorem lam_offs {h₀ h : Heap} {L l kc I d d' : Addr} {pot ko it : Obj} {news : List (Addr × Obj)} (hD : DOff d l kc I) (N : News h₀ L h news) (k : ∀ nw, News h₀ L h nw → (∀ p ∈ nw, p.1 ≠ d) → ∀ p ∈ nw, p.1 ≠ d') (m3 : (l, pot) ∈ news) (m0 : (kc, ko) ∈ news) (m1 : (I, it) ∈ news) : DOff d' l kc I := ⟨lam_off N k m3 hD.l, lam_off N k m0 hD.k, lam_off N k m1 hD.i⟩
theorem turn_end {h₀ h : Heap} {L I kc q l d : Addr} {T od it ko kinds : Obj} {kv : Option Value} {m : Str → Option Value} {s₁ : Shared} {a b : Int} {t1 t2 : Tok} {c tk : Nat} (hT : LamOk T d od) (hO : Offs kc q l I) (hD : DOff d l kc I) (hko : ko.data = .cell kv) (F : Fr h₀ L h m) (N : News h₀ L h [(317, T), (d, od), (I, it), (kc, ko), (q, kinds), (l, W.listOf #[.int a t1, .int b t2] c), (324, tabObj #[])])
    (ha : 0 ≤ a) (hb : 0 ≤ b) (hb2 : b < 4294967296) (hp : m (Str.ofString "pot") = some (.ref l)) (hk : m (Str.ofString "kinds") = some (.ref q)) (o1 : @LT.lt Nat _ kc I) (o2 : @LT.lt Nat _ q I) (o3 : @LT.lt Nat _ l I) (o4 : @LT.lt Nat _ 324 I) :
    UnrEnd h₀ L s₁ I it (LawInv kc q l kinds I) { s₁ with heap := h, toks := tk } := by
  have em : m = fun y => if y = Str.ofString "pot" then some (.ref l) else if y = Str.ofString "kinds" then some (.ref q) else m y := by
    funext y
    by_cases h1 : y = Str.ofString "pot"
    · subst h1; simp only [if_pos rfl]; exact hp
    · by_cases h2 : y = Str.ofString "kinds"
      · subst h2; simp only [if_neg h1, if_pos rfl]; exact hk
      · simp [h1, h2]
  refine ⟨h, tk, m, [(317, T), (d, od), (kc, ko), (q, kinds), (l, W.listOf #[.int a t1, .int b t2] c), (324, tabObj #[])], rfl, F, fun p hp => ?_, fun p hp => ?_, ⟨a, b, t1, t2, c, T, d, od, ko, kv, m, ha, hb, hb2, hT, hD, hko, rfl, em⟩⟩
  · simp only [List.mem_cons, List.not_mem_nil, or_false] at hp
    rcases hp with rfl | rfl | rfl | rfl | rfl | rfl | rfl
    · exact N _ (.tail _ (.tail _ (.head _)))
    · exact N _ (.head _)
    · exact N _ (.tail _ (.head _))
    · exact N _ (.tail _ (.tail _ (.tail _ (.head _))))
    · exact N _ (.tail _ (.tail _ (.tail _ (.tail _ (.head _)))))
    · exact N _ (.tail _ (.tail _ (.tail _ (.tail _ (.tail _ (.head _))))))
    · exact N _ (.tail _ (.tail _ (.tail _ (.tail _ (.tail _ (.tail _ (.head _)))))))
  · simp only [List.mem_cons, List.not_mem_nil, or_false] at hp
    rcases hp with rfl | rfl | rfl | rfl | rfl | rfl
    · exact Nat.ne_of_lt hO.o1
    · exact hD.i
    · exact Nat.ne_of_lt o1
    · exact Nat.ne_of_lt o2
    · exact Nat.ne_of_lt o3
    · exact Nat.ne_of_lt o4
theorem last_own {h₀ h : Heap} {L : Addr} {T : Obj} {news : List (Addr × Obj)} (N : News h₀ L h news) (m1 : (324, T) ∈ news) : News h₀ L h [(324, T)] := fun p hp => by
  rw [List.mem_singleton.mp hp]; exact N _ m1
theorem bits_small {n : Int} (h1 : -(10 : Int) ^ 40 ≤ n) (h2 : n ≤ (10 : Int) ^ 40) : Builtin.Int.intBits n ≤ 1000 := by
  refine Nat.le_trans (intBits_le (k := 140) ?_) (by decide)
  have : (2 : Nat) ^ 140 = 1393796574908163946345982392040522594123776 := by decide
  have : (10 : Int) ^ 40 = 10000000000000000000000000000000000000000 := by decide
  omega
theorem num_bits {d : Int} (h : 0 ≤ d ∧ d < 10 ^ Int.toNat 30) : Builtin.Int.intBits (d - 5 * 10 ^ Int.toNat 29) ≤ 1000 := by
  have e1 : (10 : Int) ^ Int.toNat 30 = 1000000000000000000000000000000 := by decide +kernel
  have e2 : (10 : Int) ^ Int.toNat 29 = 100000000000000000000000000000 := by decide +kernel
  have e3 : (10 : Int) ^ 40 = 10000000000000000000000000000000000000000 := by decide +kernel
  rw [e1] at h
  rw [e2]
  refine bits_small ?_ ?_ <;> rw [e3] <;> omega
theorem kin_bits {k : Str} (hk : Kind k) {n : Int} (h : lo k ≤ n ∧ n ≤ hi k) : Builtin.Int.intBits n ≤ 1000 := by
  have e3 : (10 : Int) ^ 40 = 10000000000000000000000000000000000000000 := by decide +kernel
  have b : -(10 : Int) ^ 40 ≤ lo k ∧ hi k ≤ (10 : Int) ^ 40 := by
    unfold Kind kindsL at hk
    simp only [List.mem_cons, List.not_mem_nil, or_false] at hk
    rcases hk with rfl | rfl | rfl | rfl | rfl | rfl | rfl | rfl <;> decide +kernel
  exact bits_small (by omega) (by omega)
local macro_rules | `(tactic| walk_at "my bits") => `(tactic| first | assumption | exact num_bits (by assumption) | exact kin_bits (by assumption) (by assumption) | exact (turn_facts _ (by assumption)).2.2.1 | exact (turn_facts _ (by assumption)).1 | exact (turn_facts _ (by assumption)).2.1 | (refine bits_small ?_ ?_ <;> omega))
theorem last_back {h₀ h h' : Heap} {L : Addr} {T : Obj} {ps : Array Value} {news : List (Addr × Obj)} (N : News h₀ L h news) (k : ∀ nw, News h₀ L h nw → (∀ p ∈ nw, p.1 ≠ 324) → News h₀ L h' ((324, tabObj ps) :: nw)) (m : (317, T) ∈ news) : News h₀ L h' [(324, tabObj ps), (317, T)] :=
  k [(317, T)] (fun p hp => by rw [List.mem_singleton.mp hp]; exact N _ m) (fun p hp => by rw [List.mem_singleton.mp hp]; exact (by decide : (317 : Nat) ≠ 324))
theorem last_fact {d : Int} (h : 0 ≤ d ∧ d < 10 ^ Int.toNat 20) : 0 ≤ d ∧ d < 100000000000000000000 := by
  have e : (10 : Int) ^ Int.toNat 20 = 100000000000000000000 := by decide +kernel
  rw [e] at h
  exact h

section
variable {w : World} {f : Addr} {k : Nat} {own : List (Addr × Obj)} {Pre : Heap → Prop} {vs : List Value} {Ret : Heap → Addr → (Str → Option Value) → Shared → (Value → Shared → Prop) → (Value → Shared → Prop) → Prop}
  {dp un : Nat} {gd : Option (List Code)} {cn : Str} {cs : Scope} {a : Addr} {ccd : Value} {cl : List (Str × Addr)} {outer : List Env} {A₀ : Around} {base h₀ : Heap} {L : Addr} {m : Str → Option Value} {s : Shared} {Q E : Value → Shared → Prop}
    {p : Program} {loose : List Str} {mean : ExcName → Option Value} {mg mb : Str → Option Value}
theorem clo0_useI (F : Fr h₀ L s.heap m) (X : (KF w.params).In h₀) (B : Below A₀ base [] h₀) (N : News h₀ L s.heap own) (hP : Pre h₀) (C : Clo0 w f k own Pre vs Ret) (T : Top p loose mean mg mb h₀) (hcs : cs.kind = .function) (hdp : dp + k < recursionLimit) (hun : un + 8 * k < cLine)
    (r : Ret h₀ L m s Q E) : wpAny (model PySem.Challenge.rw_pc0193_01.row.prog w) (ktrTop dp un gd cn cs L a ccd cl []) (call (.ref f) vs) Q E s := clo0_use C B F X N hP T hcs hdp hun r
end
/- X1 -/
section
variable {prog : Program} {w : World} {A : Around} {E : Value → Shared → Prop} {R : Result → Shared → Prop} {h : Heap} {g : Array GenState} {d : Drawn} {t : Nat} {os : OsState}
variable {nm q : Str} {C N : Addr} {bs bm bmX : List Value} {hdct : Bool} {sn : List Str} {sub : List Value} {ab : Bool} {col : Option Bool} {dd : Option Addr} {k0 k1 k2 k3 k5 : Option Value} {B newId initId : String}
/-- what of an own class's line is asked: its built-in base is in it, and two others are not -/
structure OwnLine (C : Addr) (bm : List Value) (B : String) : Prop where
  base : (Value.ref C :: bm).contains (.type B) = true
  attr : (Value.ref C :: bm).contains (.type "AttributeError") = false
  name : (Value.ref C :: bm).contains (.type "NameError") = false
theorem own_check_new (F : ExcBaseFacts B newId initId bmX) (O : OwnLine C bm B) {rest : List Value} {Q : Unit → Shared → Prop} (hC : h.get? C = some (excClassObj nm q C N bs bm hdct sn sub ab col dd k0 k1 k2 k3 k5 newId))
    (hq : Q () ⟨h, g, d, t, os⟩) : wpAny (model prog w) A (checkBuiltinCall newId ⟨.ref C :: rest, []⟩) Q E ⟨h, g, d, t, os⟩ := by
  have hc := O.base
  have hstar := F.noStar
  simp only [checkBuiltinCall, F.newKind, F.newSplit, F.newRow]
  repeat (first | refine wpAny_loadPart_at hC ?_ | (refine wpAny_isSubtype_exc hC ?_; rw [hc]) | refine wpAny_staticBase_exc hC ?_ | refine wpAny_madeBy_exc hC ?_ | simp only [bne_self_eq_false, Bool.false_eq_true, if_false] | wp_step)
  exact hq
theorem own_new (F : ExcBaseFacts B newId initId bmX) (O : OwnLine C bm B) {rest : List Value} (hC : h.get? C = some (excClassObj nm q C N bs bm hdct sn sub ab col dd k0 k1 k2 k3 k5 newId))
    (hq : R (.ok (.ret (.ref (h.objs.size + 1)))) ⟨(h.push { cls := .type "tuple", data := .seq rest.toArray }).push { cls := .ref C, data := .fields #[.ref h.objs.size, .none, .none, .none, .bool false, .none] }, g, d, t, os⟩) (hrest : rest.length ≤ sizeLine) :
    codeAny (model prog w) A (.builtin newId ⟨.ref C :: rest, []⟩) R ⟨h, g, d, t, os⟩ := by
  have hends := F.ends
  have h1 := O.base
  have h2 := O.attr
  have h3 := O.name
  refine codeAny_builtinAt F.entry ?_
  unfold Builtin.«BaseException.__new__»
  refine PySem.wpAt_bind ?_
  show PySem.wpAt _ _ _ (stack >>= _) _ _ _
  refine PySem.wpAt_bind (PySem.wpAt_stack fun p below => PySem.wpAt_of_wpAny ?_)
  wp_walk
  refine PySem.wpAt_of_wpAny ?_
  rw [F.owner]
  repeat (first | with_reducible refine wpAny_madeHere_exc F.canon hC ?_ | with_reducible refine wpAny_loadPart_at hC ?_ | (with_reducible refine wpAny_isSubtype_exc hC ?_; first | rw [h1] | rw [h2] | rw [h3]) | wp_step)
  show R _ _
  rw [Heap.size_push]
  exact hq
/-- an own exception class with an __init__ of its own is called -/
theorem own_call (F : ExcBaseFacts B newId initId bmX) (O : OwnLine C bm B) {mN : Str → Option Value} {rest : List Value} {fI : Addr} {oI : Obj} {Q : Value → Shared → Prop}
    (hC : h.get? C = some (excClassObj nm q C N bs bm hdct sn sub ab col dd k0 k1 k2 k3 k5 newId)) (hn : h.Ns N mN) (hi : mN "__init__" = some (.ref fI))
    (hfI : h.get? fI = some oI) (hfc : oI.cls = .type "function") (hrest : rest.length ≤ sizeLine)
    (hq : wpAny (model prog w) (A.under (.builtin "type.__call__" ⟨.ref C :: rest, []⟩)) (call (.ref fI) (.ref (h.objs.size + 1) :: rest)) (fun r s' => r = .none ∧ Q (.ref (h.objs.size + 1)) s') E
      ⟨(h.push { cls := .type "tuple", data := .seq rest.toArray }).push { cls := .ref C, data := .fields #[.ref h.objs.size, .none, .none, .none, .bool false, .none] }, g, d, t, os⟩) :
    wpAny (model prog w) A (call (.ref C) rest) Q E ⟨h, g, d, t, os⟩ := by
  have f1 := tc_lookup
  have f2 := tc_bind (.ref C)
  have hT : (⟨h, g, d, t, os⟩ : Shared).TypeIs (.ref C) "type" := ⟨_, hC, rfl⟩
  refine wpAny_call (codeAny_of_tree ?_)
  show wpAny _ _ (callAny (.ref C) _) _ _ _
  repeat (any_goals (first | assumption | with_reducible refine wpAny_loadPart_at hC ?_ | wp_step))
  refine ⟨rfl, ?_⟩
  refine codeAny_call_builtin_at (Code.quiet_builtin _ (by decide +kernel)) entry_typeCall (wpAny_check_type_call_sub hC ?_)
  repeat (first | with_reducible refine wpAny_loadPart_at hC ?_ | with_reducible refine wpAny_madeBy_exc hC ?_ | wp_step)
  refine codeAny_call_builtin_code (Code.quiet_builtin _ F.quiet) (own_check_new F O hC ?_)
  refine own_new F O hC ?_ hrest
  show wpAny _ _ _ _ _ _
  have up : ∀ b o, h.get? b = some o → ((h.push { cls := .type "tuple", data := .seq rest.toArray }).push { cls := .ref C, data := .fields #[.ref h.objs.size, .none, .none, .none, .bool false, .none] }).get? b = some o := fun b o e => Heap.get?_push_of_some _ (Heap.get?_push_of_some _ e)
  have hget : ((h.push { cls := .type "tuple", data := .seq rest.toArray }).push { cls := .ref C, data := .fields #[.ref h.objs.size, .none, .none, .none, .bool false, .none] }).get? (h.objs.size + 1) = some { cls := .ref C, data := .fields #[.ref h.objs.size, .none, .none, .none, .bool false, .none] } := by heap_get
  have hcC : (Value.ref C :: bm).contains (.ref C) = true := by simp
  unfold isInstance
  repeat (first | with_reducible refine wpAny_loadPart_at hget ?_ | wp_step)
  show wpAny _ _ (isSubtype (.ref C) (.ref C)) _ _ _
  refine wpAny_isSubtype_exc (up _ _ hC) ?_
  rw [hcC]
  repeat (first | with_reducible refine wpAny_loadPart_at hget ?_ | wp_step)
  show wpAny _ _ (typeLookup (.ref C) _) _ _ _
  rw [typeLookup_eq]
  refine wpAny_bind (wpAny_mroOf_exc (up _ _ hC) ?_)
  rw [lookupAlong_cons]
  refine wpAny_bind (wpAny_classOwn_exc (up _ _ hC) (hn.keeps up) ?_)
  show wpAny _ _ (match mN (Str.ofString "__init__") with | some v => pure (some v) | none => _) _ _ _
  rw [show mN (Str.ofString "__init__") = some (.ref fI) from hi]
  refine wpAny_pure ?_
  refine wpAny_holding (wpAny_bind ?_)
  unfold bindSpecial
  refine wpAny_bind (wpAny_typeOf (T := "function") ⟨_, up _ _ hfI, hfc⟩ ?_)
  rw [if_pos (by decide)]
  refine wpAny_pure (wpAny_bind (wpAny_mono hq (fun r s' hr => ?_) fun _ _ x => x))
  obtain ⟨rfl, hQ⟩ := hr
  wp_walk
  exact hQ
end

/- Xl -/
section
open PySem.Builtin PySem.Builtin.ObjectAttr
/-- an exception of class 52 with its args and its dict -/
abbrev excD (a : Addr) (d : Option Addr) : Obj := { cls := .ref 52, dict := d, data := .fields #[.ref a, .none, .none, .none, .bool false, .none] }
abbrev thrownC : Obj := excClassObj (Str.ofString "Thrown") (Str.ofString "Thrown") 52 51 [.ref 32] [.ref 32, .type "Exception", .type "BaseException", .type "object"] true [] [] false none none (some (.ref 36)) none (some (.str (Str.ofString "Thrown") 220)) (some (.str (Str.ofString "Thrown") 228)) (some (.bool true)) "Exception.__new__"
def NsO (o : Obj) (m : Str → Option Value) : Prop := ∃ es ep, o.data = .dict es ep ∧ StrKeys es ∧ UniqKeys es ∧ ∀ name, nsFind es name = m name
theorem NsO.at {h : Heap} {d : Addr} {o : Obj} {m : Str → Option Value} (x : NsO o m) (e : h.get? d = some o) : h.Ns1 d m := let ⟨es, ep, r⟩ := x; ⟨o, es, ep, e, r⟩
theorem NsO.of {h : Heap} {d : Addr} {m : Str → Option Value} (x : h.Ns1 d m) : ∃ o, h.get? d = some o ∧ NsO o m := let ⟨o, es, ep, e, r⟩ := x; ⟨o, e, es, ep, r⟩
theorem own_line : OwnLine 52 [.ref 32, .type "Exception", .type "BaseException", .type "object"] "Exception" := ⟨by decide +kernel, by decide +kernel, by decide +kernel⟩
section
variable {prog : Program} {w : World} {A : Around} {E : Value → Shared → Prop} {h : Heap} {g : Array GenState} {d : Drawn} {t : Nat} {os : OsState}
theorem exc_check {e : Addr} {oe : Obj} {v : Value} {Q : Unit → Shared → Prop} (F : ExcBaseFacts "Exception" "Exception.__new__" "Exception.__init__" [.type "Exception", .type "BaseException", .type "object"]) (hC : h.get? 52 = some thrownC) (he : h.get? e = some oe) (hcls : oe.cls = .ref 52) (hq : Q () ⟨h, g, d, t, os⟩) :
    wpAny (model prog w) A (checkBuiltinCall "Exception.__init__" ⟨[.ref e, v], []⟩) Q E ⟨h, g, d, t, os⟩ := by
  have hcB := own_line.base
  have hshort := F.noStar
  simp only [checkBuiltinCall, F.initKind, F.initSplit, F.initRow]
  repeat (first | (with_reducible refine wpAny_loadPart_at he ?_; rw [hcls]) | with_reducible refine wpAny_loadPart_at hC ?_ | (with_reducible refine wpAny_isSubtype_exc hC ?_; rw [hcB]) | wp_step)
  exact hq
theorem exc_init {e a : Addr} {dd : Option Addr} {v : Value} {Q : Value → Shared → Prop} (hC : h.get? 52 = some thrownC) (he : h.get? e = some (excD a dd))
    (hq : Q .none ⟨(h.push { cls := .type "tuple", data := .seq #[v] }).update e (Obj.mapFields (·.setIfInBounds 0 (.ref h.objs.size))), g, d, t, os⟩) :
    wpAny (model prog w) A (call (.builtin "Exception.__init__") [.ref e, v]) Q E ⟨h, g, d, t, os⟩ := by
  have F := PySem.F.excBase_Exception
  refine wpAny_call (codeAny_call_builtin F.init.plain F.initEntry (exc_check F hC he rfl ?_))
  have hp : (h.push { cls := .type "tuple", data := .seq #[v] }).get? e = some (excD a dd) := Heap.get?_push_of_some _ he
  unfold Builtin.«BaseException.__init__»
  show wpAny _ _ (newTuple [v] >>= _) _ _ _
  refine wpAny_bind (wpAny_newTuple ?_)
  refine wpAny_bind ?_
  show wpAny _ _ (field (.ref e) 0 >>= _) _ _ _
  refine wpAny_bind (wpAny_field hp rfl (x := .ref a) rfl ?_)
  refine wpAny_bind (wpAny_setField hp rfl (by simp) ?_)
  refine wpAny_letGo ?_
  refine wpAny_pure ?_
  exact hq

theorem exc_sa_check {e : Addr} {oe : Obj} {nameV v : Value} {Q : Unit → Shared → Prop} (hC : h.get? 52 = some thrownC) (hx : h.get? e = some oe) (hc : oe.cls = .ref 52) (hq : Q () ⟨h, g, d, t, os⟩) :
    wpAny (model prog w) A (checkBuiltinCall "object.__setattr__" ⟨[.ref e, nameV, v], []⟩) Q E ⟨h, g, d, t, os⟩ := by
  have SF := PySem.F.store_Exception
  have hcB : (Value.ref 52 :: [.ref 32, .type "Exception", .type "BaseException", .type "object"]).contains (.type "object") = true := by decide +kernel
  simp only [checkBuiltinCall, SF.kind, SF.split]
  refine wpAny_bind ?_
  unfold isInstance
  repeat (first | (with_reducible refine wpAny_loadPart_at hx ?_; rw [hc]) | (with_reducible refine wpAny_isSubtype_exc hC ?_; rw [hcB]) | wp_step)
  exact hq
theorem exc_sa_entry {K : Frag} {e : Addr} {oe : Obj} {name : Str} {tk : Tok} {v : Value} {vs : Array Value} {mA : Str → Option Value} {ns : List Str} {Q : Fin → Shared → Prop} (X : K.In h) (hn : findIn K (.ref 52) name = some none) (hC : h.get? 52 = some thrownC) (hx : h.get? e = some oe) (hc : oe.cls = .ref 52) (hdat : oe.data = .fields vs)
    (hd : (oe.dict = none ∧ ∀ n, mA n = none) ∨ ∃ dx, oe.dict = some dx ∧ dx ≠ e ∧ h.Ns1 dx mA) (hw : Within mA ns) (hsz : ns.length ≤ 100)
    (hq : ∀ h' tk' dx, h'.get? e = some { oe with dict := some dx } → dx ≠ e → (oe.dict = none ∧ h.objs.size ≤ dx ∨ oe.dict = some dx) → h'.Ns1 dx (fun y => if y = name then some v else mA y) →
      (∀ b o, b ≠ e → b ≠ dx → h.get? b = some o → h'.get? b = some o) → Q (.done (.ret .none)) ⟨h', g, d, tk', os⟩) :
    wpAny (model prog w) A (Builtin.«object.__setattr__» ⟨[.ref e, .str name tk, v], []⟩) Q E ⟨h, g, d, t, os⟩ := by
  have SF := PySem.F.store_Exception
  have hpass : refuseLoop (.ref e) "__setattr__" [.ref 32, .type "Exception", .type "BaseException", .type "object"] = pure () := by rw [refuseLoop_ref]; exact SF.passes _
  have hnc : ∀ c, oe.data ≠ .cls c := fun c q => by rw [hdat] at q; cases q
  unfold Builtin.«object.__setattr__»
  repeat (first | rw [refuse_eq] | (rw [refuseLoop_ref, hpass]) | (with_reducible refine wpAny_loadPart_at hx ?_; rw [hc]) | with_reducible refine wpAny_mroOf_exc hC ?_ | (with_reducible refine Looks.here (looks_findIn X hn) ?_) | wp_step)
  rcases hd with ⟨hdn, hmA⟩ | ⟨dx, hdx, hne, hns⟩
  · rw [hdn, if_neg (by simp [typeHasDict])]
    split
    · rename_i hcd
      cases hcd
    split
    · rename_i c hcd
      exact absurd hcd (hnc c)
    have hx₁ : (h.push { cls := .type "dict", data := .dict #[] }).get? e = some oe := Heap.get?_push_of_some _ hx
    have hxs : e ≠ h.objs.size := Nat.ne_of_lt (Heap.lt_size hx)
    refine wpAny_bind (wpAny_alloc' ?_)
    refine wpAny_bind (wpAny_update' hx₁ ?_)
    refine wpAny_pure ?_
    have hgd : ((h.push { cls := .type "dict", data := .dict #[] }).update e fun o => { cls := o.cls, dict := some h.objs.size, data := o.data, slots := o.slots }).get? h.objs.size = some { cls := .type "dict", data := .dict #[] } :=
      (Heap.get?_update_ne _ _ _ _ hxs.symm).trans (Heap.get?_push_at rfl rfl)
    have hnd : ((h.push { cls := .type "dict", data := .dict #[] }).update e fun o => { cls := o.cls, dict := some h.objs.size, data := o.data, slots := o.slots }).Ns h.objs.size (fun _ => none) :=
      ⟨_, #[], _, hgd, rfl, fun e he => absurd he (by simp), fun _ => rfl⟩
    have hfr := (Heap.get?_some_iff.mp hx).2
    have hxu : ((h.push { cls := .type "dict", data := .dict #[] }).update e fun o => { cls := o.cls, dict := some h.objs.size, data := o.data, slots := o.slots }).get? e = some { oe with dict := some h.objs.size } := by
      refine Heap.get?_update_self _ hx₁ ?_
      obtain ⟨oc, od, odt, osl⟩ := oe
      cases odt <;> first | rfl | exact hfr
    show wpAny _ _ (storeInDict h.objs.size (.str name tk) name v) _ _ _
    unfold storeInDict newKeyGuard
    refine wpAny_bind (wpAny_pure (wpAny_bind (wpAny_nsSet1 (Heap.Ns1.of_empty hnd) fun h' hn' hs => ?_)))
    obtain ⟨oD, esD, epD, hoD, hdD, hcD⟩ := hn'.count (Within.cons name v Within.nil)
    refine wpAny_bind (wpAny_lookBehind hoD (by rw [hdD]; exact pastItsLine_dict (Nat.le_trans hcD (by rw [List.length_cons, List.length_nil, sizeLine_eq]; omega))) ?_)
    wp_walk
    refine hq h' _ h.objs.size ((hs.2 e hxs).trans hxu) hxs.symm (.inl ⟨hdn, Nat.le_refl _⟩) ?_ fun b ob hbx hbd hb => (hs.2 b hbd).trans ((Heap.get?_update_ne _ _ _ _ hbx).trans (Heap.get?_push_of_some _ hb))
    obtain ⟨o', es, ep, e1, e2, e3, eu, e4⟩ := hn'
    exact ⟨o', es, ep, e1, e2, e3, eu, fun y => by rw [e4 y]; by_cases hy : y = name <;> simp [hy, hmA]⟩
  · rw [hdx]
    refine wpAny_pure ?_
    show wpAny _ _ (storeInDict dx (.str name tk) name v) _ _ _
    unfold storeInDict newKeyGuard
    refine wpAny_bind (wpAny_pure (wpAny_bind (wpAny_nsSet1 hns fun h' hn' hs => ?_)))
    obtain ⟨oD, esD, epD, hoD, hdD, hcD⟩ := hn'.count (Within.cons name v hw)
    refine wpAny_bind (wpAny_lookBehind hoD (by rw [hdD]; exact pastItsLine_dict (Nat.le_trans hcD (by rw [List.length_cons, sizeLine_eq]; omega))) ?_)
    wp_walk
    refine hq h' _ dx (((hs.2 e hne.symm).trans hx).trans ?_) hne (.inr hdx) hn' fun b ob _ hbd hb => (hs.2 b hbd).trans hb
    obtain ⟨oc, od, odt, osl⟩ := oe
    dsimp only at hdx
    rw [hdx]
theorem exc_setAttr {K : Frag} {e : Addr} {oe : Obj} {name : Str} {v : Value} {vs : Array Value} {mA : Str → Option Value} {ns : List Str} {Q : Unit → Shared → Prop} (X : K.In h) (hs : findIn K (.ref 52) (Str.ofString "__setattr__") = some (some (.builtin "object.__setattr__"))) (hn : findIn K (.ref 52) name = some none) (hC : h.get? 52 = some thrownC) (hx : h.get? e = some oe) (hc : oe.cls = .ref 52) (hdat : oe.data = .fields vs)
    (hd : (oe.dict = none ∧ ∀ n, mA n = none) ∨ ∃ dx, oe.dict = some dx ∧ dx ≠ e ∧ h.Ns1 dx mA) (hw : Within mA ns) (hsz : ns.length ≤ 100)
    (hq : ∀ h' tk' dx, h'.get? e = some { oe with dict := some dx } → dx ≠ e → (oe.dict = none ∧ h.objs.size ≤ dx ∨ oe.dict = some dx) → h'.Ns1 dx (fun y => if y = name then some v else mA y) →
      (∀ b o, b ≠ e → b ≠ dx → h.get? b = some o → h'.get? b = some o) → Q () ⟨h', g, d, tk', os⟩) :
    wpAny (model prog w) A (setAttr (.ref e) name v) Q E ⟨h, g, d, t, os⟩ := by
  have SF := PySem.F.store_Exception
  have f3 := SF.slot.bind (.ref e)
  unfold setAttr callSpecial? specialOf
  repeat (any_goals (first | assumption | (with_reducible refine wpAny_loadPart_at hx ?_; rw [hc]) | (with_reducible refine Looks.here (looks_findIn X hs) ?_) | wp_step))
  refine codeAny_call_builtin SF.slot.plain SF.entry (exc_sa_check hC hx hc (exc_sa_entry X hn hC hx hc hdat hd hw hsz fun h' tk' dx a1 a2 a3 a4 a5 => ?_))
  repeat (any_goals (first | assumption | wp_step))
  exact hq h' tk' dx a1 a2 a3 a4 a5

theorem exc_ga_check {e : Addr} {oe : Obj} {nameV : Value} {Q : Unit → Shared → Prop} (hC : h.get? 52 = some thrownC) (hx : h.get? e = some oe) (hc : oe.cls = .ref 52) (hq : Q () ⟨h, g, d, t, os⟩) :
    wpAny (model prog w) A (checkBuiltinCall "BaseException.__getattribute__" ⟨[.ref e, nameV], []⟩) Q E ⟨h, g, d, t, os⟩ := by
  have hk : builtinKind "BaseException.__getattribute__" = some .slot := by decide +kernel
  have hsplit : splitId "BaseException.__getattribute__" = some ("BaseException", "__getattribute__") := by decide +kernel
  have hcB : (Value.ref 52 :: [.ref 32, .type "Exception", .type "BaseException", .type "object"]).contains (.type "BaseException") = true := by decide +kernel
  have ha := PySem.F.args_bexc_ga (.ref e) nameV
  simp only [checkBuiltinCall, hk, hsplit]
  refine wpAny_bind ?_
  unfold isInstance
  repeat (first | (with_reducible refine wpAny_loadPart_at hx ?_; rw [hc]) | (with_reducible refine wpAny_isSubtype_exc hC ?_; rw [hcB]) | wp_step)
  exact hq
theorem exc_ga_entry {K : Frag} {e dx : Addr} {oe : Obj} {name : Str} {tk : Tok} {v : Value} {vs : Array Value} {mA : Str → Option Value} {Q : Fin → Shared → Prop} (X : K.In h) (hn : findIn K (.ref 52) name = some none) (hC : h.get? 52 = some thrownC) (hx : h.get? e = some oe) (hc : oe.cls = .ref 52) (hdat : oe.data = .fields vs)
    (hd : oe.dict = some dx) (hns : h.Ns dx mA) (hv : mA name = some v) (hq : Q (.done (.ret v)) ⟨h, g, d, t, os⟩) :
    wpAny (model prog w) A (Builtin.«object.__getattribute__» ⟨[.ref e, .str name tk], []⟩) Q E ⟨h, g, d, t, os⟩ := by
  repeat (any_goals (first | assumption | (with_reducible refine wpAny_loadPart_at hx ?_; rw [hc]) | (with_reducible refine Looks.here (looks_findIn X hn) ?_) | wp_step))
  rw [hdat]
  unfold instanceDict
  repeat (first | (with_reducible refine wpAny_loadPart_at hx ?_; rw [hc]) | with_reducible refine wpAny_loadPart_at hC ?_ | wp_step)
  rw [hd]
  unfold inDict
  repeat (first | (with_reducible refine wpAny_nsGet hns ?_; rw [hv]) | wp_step)
  exact hq
theorem exc_getAttr {K : Frag} {e dx : Addr} {oe : Obj} {name : Str} {v : Value} {vs : Array Value} {mA : Str → Option Value} {expr : Bool} {Q : Value → Shared → Prop} (X : K.In h) (hg : findIn K (.ref 52) (Str.ofString "__getattribute__") = some (some (.builtin "BaseException.__getattribute__"))) (hga : findIn K (.ref 52) (Str.ofString "__getattr__") = some none) (hn : findIn K (.ref 52) name = some none) (hC : h.get? 52 = some thrownC) (hx : h.get? e = some oe) (hc : oe.cls = .ref 52) (hdat : oe.data = .fields vs)
    (hd : oe.dict = some dx) (hns : h.Ns dx mA) (hv : mA name = some v) (hh : handedOut v = pure v) (hq : Q v ⟨h, g, d, t + 1, os⟩) :
    wpAny (model prog w) A (getAttr (.ref e) name expr) Q E ⟨h, g, d, t, os⟩ := by
  have FA := PySem.F.attr_Exception
  have f3 := FA.ga.bind (.ref e)
  have hx0 : (expr && onTheHeap (Value.builtin "BaseException.__getattribute__")) = false := by cases expr <;> rfl
  have hx2 : (Value.builtin "BaseException.__getattribute__" == Value.builtin "object.__getattribute__") = false := by decide +kernel
  have hx1 : (onTheHeap (Value.ref 52) && Value.builtin "BaseException.__getattribute__" == Value.builtin "object.__getattribute__") = false := by rw [hx2]; rfl
  unfold getAttr
  repeat (any_goals (first | assumption | (with_reducible refine wpAny_loadPart_at hx ?_; rw [hc]) | (with_reducible refine Looks.here (looks_findIn X hg) ?_) | (with_reducible refine Looks.here (looks_findIn X hga) ?_) | wp_step))
  refine codeAny_call_builtin FA.ga.plain PySem.F.entry_bexc_ga (exc_ga_check hC hx hc (exc_ga_entry X hn hC hx hc hdat hd hns hv ?_))
  show wpAny _ A (handedOut v) _ _ _
  rw [hh]
  exact wpAny_pure hq
end
section
variable {prog : Program} {w : World} {A : Around} {E : Value → Shared → Prop} {s : Shared} {h₀ : Heap} {L : Addr} {m : Str → Option Value} {rest : List (Addr × Obj)} {K : Frag}
theorem lt_of_ledger {h : Heap} {news : List (Addr × Obj)} (N : News h₀ L h news) : ∀ p ∈ news, @LT.lt Nat _ p.1 h.objs.size := fun p hp => Heap.lt_size (N p hp).1
theorem fresh_of {h : Heap} (F : Fr h₀ L h m) {a : Nat} (ha : h.objs.size ≤ a) : h₀.get? a = none := by
  cases e : h₀.get? a with
  | none => rfl
  | some o => exact absurd (Heap.lt_size (F.keep a o e)) (Nat.not_lt.mpr ha)
theorem exc_init_N {e a : Addr} {dd : Option Addr} {v : Value} {Q : Value → Shared → Prop} (F : Fr h₀ L s.heap m) (N : News h₀ L s.heap ((e, excD a dd) :: rest)) (hC : h₀.get? 52 = some thrownC) (off : LCg.Off1 e rest)
    (h : ∀ a' h', Fr h₀ L h' m → News h₀ L h' ((e, excD a' dd) :: (a', ({ cls := .type "tuple", data := .seq #[v] } : Obj)) :: rest) → (∀ p ∈ (e, excD a dd) :: rest, p.1 < a') → Q .none { s with heap := h' }) :
    wpAny (model prog w) A (call (.builtin "Exception.__init__") [.ref e, v]) Q E s := by
  have he := N _ (.head _)
  refine exc_init (h := s.heap) (F.keep _ _ hC) he.1 ?_
  have up : ∀ b o, b ≠ e → s.heap.get? b = some o → ((s.heap.push { cls := .type "tuple", data := .seq #[v] }).update e (Obj.mapFields (·.setIfInBounds 0 (.ref s.heap.objs.size)))).get? b = some o :=
    fun b o hb q => (Heap.get?_update_other _ _ (Ne.symm hb)).trans (Heap.get?_push_of_some _ q)
  have hlt := Heap.lt_size he.1
  have F' : Fr h₀ L ((s.heap.push { cls := .type "tuple", data := .seq #[v] }).update e (Obj.mapFields (·.setIfInBounds 0 (.ref s.heap.objs.size)))) m :=
    ⟨F.ns.at' fun o q => up _ o (Ne.symm he.2.1) q, fun b o q => up b o (fun z => by rw [z, he.2.2] at q; cases q) (F.keep b o q), F.above⟩
  refine h s.heap.objs.size _ F' (fun p hp => ?_) (lt_of_ledger N)
  rcases List.mem_cons.mp hp with rfl | hp
  · exact ⟨(Heap.get?_update_self _ (Heap.get?_push_of_some _ he.1) rfl).trans (by simp [Obj.mapFields, excD]), he.2⟩
  rcases List.mem_cons.mp hp with rfl | hp
  · exact ⟨(Heap.get?_update_other _ _ (Nat.ne_of_lt hlt)).trans (Heap.get?_push_size _ rfl), Ne.symm (Nat.ne_of_lt F.ns.lt), fresh_of F (Nat.le_refl _)⟩
  · have off' : ∀ (l : List (Addr × Obj)), LCg.Off1 e l → ∀ p ∈ l, p.1 ≠ e := fun l => by
      induction l with
      | nil => intro _ p hp; cases hp
      | cons q r ih => intro x p hp; rcases List.mem_cons.mp hp with rfl | hp; exact x.1; exact ih x.2 p hp
    exact ⟨up _ _ (off' rest off p hp) (N p (.tail _ hp)).1, (N p (.tail _ hp)).2⟩
theorem off1_mem {e : Addr} : ∀ {l : List (Addr × Obj)}, LCg.Off1 e l → ∀ p ∈ l, p.1 ≠ e
  | [], _, _, hp => nomatch hp
  | _ :: _, x, p, hp => by
    rcases List.mem_cons.mp hp with rfl | hp
    · exact x.1
    · exact off1_mem x.2 p hp
/-- the first field stored: the dict is made -/
theorem exc_store1_N {e a : Addr} {name : Str} {v : Value} {Q : Unit → Shared → Prop} (F : Fr h₀ L s.heap m) (N : News h₀ L s.heap ((e, excD a none) :: rest)) (X : K.In h₀) (hC : h₀.get? 52 = some thrownC) (off : LCg.Off1 e rest)
    (hs : findIn K (.ref 52) (Str.ofString "__setattr__") = some (some (.builtin "object.__setattr__"))) (hn : findIn K (.ref 52) name = some none)
    (h : ∀ dx od h' tk', NsO od (fun y => if y = name then some v else none) → Fr h₀ L h' m → News h₀ L h' ((e, excD a (some dx)) :: (dx, od) :: rest) → (∀ p ∈ (e, excD a none) :: rest, p.1 < dx) → Q () { s with heap := h', toks := tk' }) :
    wpAny (model prog w) A (setAttr (.ref e) name v) Q E s := by
  have he := N _ (.head _)
  refine exc_setAttr (h := s.heap) (mA := fun _ => none) (ns := []) (X.keeps F.keep) hs hn (F.keep _ _ hC) he.1 rfl rfl (.inl ⟨rfl, fun _ => rfl⟩) Within.nil (by decide) fun h' tk' dx a1 a2 a3 a4 a5 => ?_
  have hdx : s.heap.objs.size ≤ dx := by
    rcases a3 with a3 | a3
    · exact a3.2
    · cases a3
  obtain ⟨od, hod, hO⟩ := NsO.of a4
  have up : ∀ b o, b ≠ e → s.heap.get? b = some o → h'.get? b = some o := fun b o hb q => a5 b o hb (fun z => absurd (Heap.lt_size q) (Nat.not_lt.mpr (z ▸ hdx))) q
  refine h dx od h' tk' hO ⟨F.ns.at' fun o q => up _ o (Ne.symm he.2.1) q, fun b o q => up b o (fun z => by rw [z, he.2.2] at q; cases q) (F.keep b o q), F.above⟩ (fun p hp => ?_) (fun p hp => Nat.lt_of_lt_of_le (lt_of_ledger N p hp) hdx)
  rcases List.mem_cons.mp hp with rfl | hp
  · exact ⟨a1, he.2⟩
  rcases List.mem_cons.mp hp with rfl | hp
  · exact ⟨hod, Ne.symm (Nat.ne_of_lt (Nat.lt_of_lt_of_le F.ns.lt hdx)), fresh_of F hdx⟩
  · exact ⟨up _ _ (off1_mem off p hp) (N p (.tail _ hp)).1, (N p (.tail _ hp)).2⟩
theorem exc_store2_N {e a dx : Addr} {od : Obj} {mA : Str → Option Value} {ns : List Str} {name : Str} {v : Value} {Q : Unit → Shared → Prop} (F : Fr h₀ L s.heap m) (N : News h₀ L s.heap ((e, excD a (some dx)) :: (dx, od) :: rest)) (X : K.In h₀) (hC : h₀.get? 52 = some thrownC) (off : LCg.Off1 e rest) (offd : LCg.Off1 dx rest) (hne : dx ≠ e)
    (hO : NsO od mA) (hw : Within mA ns) (hsz : ns.length ≤ 100)
    (hs : findIn K (.ref 52) (Str.ofString "__setattr__") = some (some (.builtin "object.__setattr__"))) (hn : findIn K (.ref 52) name = some none)
    (h : ∀ od' h' tk', NsO od' (fun y => if y = name then some v else mA y) → Fr h₀ L h' m → News h₀ L h' ((e, excD a (some dx)) :: (dx, od') :: rest) → Q () { s with heap := h', toks := tk' }) :
    wpAny (model prog w) A (setAttr (.ref e) name v) Q E s := by
  have he := N _ (.head _)
  have hd := N _ (.tail _ (.head _))
  refine exc_setAttr (h := s.heap) (mA := mA) (ns := ns) (X.keeps F.keep) hs hn (F.keep _ _ hC) he.1 rfl rfl (.inr ⟨dx, rfl, hne, hO.at hd.1⟩) hw hsz fun h' tk' dx' a1 a2 a3 a4 a5 => ?_
  have hdx : dx' = dx := by
    rcases a3 with a3 | a3
    · cases a3.1
    · exact (Option.some.inj a3).symm
  subst hdx
  obtain ⟨od', hod, hO'⟩ := NsO.of a4
  refine h od' h' tk' hO' ⟨F.ns.at' fun o q => a5 _ o (Ne.symm he.2.1) (Ne.symm hd.2.1) q, fun b o q => a5 b o (fun z => by rw [z, he.2.2] at q; cases q) (fun z => by rw [z, hd.2.2] at q; cases q) (F.keep b o q), F.above⟩ fun p hp => ?_
  rcases List.mem_cons.mp hp with rfl | hp
  · exact ⟨a1, he.2⟩
  rcases List.mem_cons.mp hp with rfl | hp
  · exact ⟨hod, hd.2⟩
  · exact ⟨a5 _ _ (off1_mem off p hp) (off1_mem offd p hp) (N p (.tail _ (.tail _ hp))).1, (N p (.tail _ (.tail _ hp))).2⟩
end

end
/- X2 -/

local macro_rules | `(tactic| walk_at "my o1") => `(tactic| first | exact True.intro | ((simp only [LCg.Off1, and_true]) <;> (repeat' with_reducible refine And.intro ?_ ?_) <;> first | with_reducible assumption | (with_reducible refine Ne.symm ?_; with_reducible assumption) | k_ne))
theorem KF_cls {P : Params} {h : Heap} (X : (KF P).In h) : h.get? 52 = some thrownC := X _ _ (by with_unfolding_all rfl)
theorem KF_sa {P : Params} : findIn (KF P) (.ref 52) (Str.ofString "__setattr__") = some (some (.builtin "object.__setattr__")) := by with_unfolding_all rfl
theorem KF_msg {P : Params} : findIn (KF P) (.ref 52) (Str.ofString "message") = some none := by with_unfolding_all rfl
theorem KF_spot {P : Params} : findIn (KF P) (.ref 52) (Str.ofString "spot") = some none := by with_unfolding_all rfl
theorem KF_value {P : Params} : findIn (KF P) (.ref 52) (Str.ofString "value") = some none := by with_unfolding_all rfl
theorem KF_ga {P : Params} : findIn (KF P) (.ref 52) (Str.ofString "__getattribute__") = some (some (.builtin "BaseException.__getattribute__")) := by with_unfolding_all rfl
theorem KF_gattr {P : Params} : findIn (KF P) (.ref 52) (Str.ofString "__getattr__") = some none := by with_unfolding_all rfl
theorem exc_method {prog : Program} {w : World} {A : Around} {E : Value → Shared → Prop} {s : Shared} {h₀ : Heap} {L : Addr} {m : Str → Option Value} {pl : Sem Bool} {P : Params} {Q : Value × List Value → Shared → Prop} (F : Fr h₀ L s.heap m) (X : (KF P).In h₀) (h : Q (.builtin "Exception.__init__", []) { s with toks := s.toks + 1 }) :
    wpAny (model prog w) A (getMethod (.type "Exception") (Str.ofString "__init__") pl) Q E s :=
  method_type F X (by kernel_rfl) (by decide +kernel) (by with_unfolding_all rfl) rfl h
local macro_rules | `(tactic| walk_at "getMethod") => `(tactic| (k_here; (with_reducible show wpAny _ _ (getMethod (Value.type "Exception") _ _) _ _ _); k_dflt (refine exc_method (by k_asm) (by k_asm) ?_); (try dsimp only)))

abbrev RetThr (e : Addr) (P : (Str → Option Value) → Prop) : Heap → Addr → (Str → Option Value) → Shared → (Value → Shared → Prop) → (Value → Shared → Prop) → Prop :=
  fun h₀ L m s Q _ => ∀ (a d : Addr) (od : Obj) (mA : Str → Option Value) (h' : Heap) (tk' : Nat), NsO od mA → Within mA [Str.ofString "value", Str.ofString "spot", Str.ofString "message"] → P mA → Fr h₀ L h' m → (∀ nw, News h₀ L s.heap nw → (∀ p ∈ nw, p.1 ≠ e) → News h₀ L h' ((e, excD a (some d)) :: (d, od) :: nw)) → (@Ne Nat d e) → (∀ nw, News h₀ L s.heap nw → LCg.Off1 d nw) → Q .none { s with heap := h', toks := tk' }
theorem retThr {e a0 a d : Addr} {od : Obj} {mA : Str → Option Value} {P : (Str → Option Value) → Prop} {h₀ h' g : Heap} {L L' : Addr} {m m' : Str → Option Value} {s : Shared} {Q : Value → Shared → Prop} {tk' : Nat} {rest : List (Addr × Obj)}
    (hret : ∀ (a d : Addr) (od : Obj) (mA : Str → Option Value) (h' : Heap) (tk' : Nat), NsO od mA → Within mA [Str.ofString "value", Str.ofString "spot", Str.ofString "message"] → P mA → Fr h₀ L h' m → (∀ nw, News h₀ L s.heap nw → (∀ p ∈ nw, p.1 ≠ e) → News h₀ L h' ((e, excD a (some d)) :: (d, od) :: nw)) → (@Ne Nat d e) → (∀ nw, News h₀ L s.heap nw → LCg.Off1 d nw) → Q .none { s with heap := h', toks := tk' })
    (hO : NsO od mA) (hw : Within mA [Str.ofString "value", Str.ofString "spot", Str.ofString "message"]) (hP : P mA) (F : Fr h₀ L h' m) (hg : ∀ b o, s.heap.get? b = some o → b ∉ ([(e, excD a0 none)] : List (Addr × Obj)).map (·.1) → g.get? b = some o) (FG : Fr g L' h' m') (N : News h₀ L s.heap [(e, excD a0 none)]) (N' : News g L' h' ((e, excD a (some d)) :: (d, od) :: rest)) (kN : News h₀ L h' ((e, excD a (some d)) :: (d, od) :: rest)) (hne : @Ne Nat d e) : Q .none { s with heap := h', toks := tk' } := by
  refine hret a d od mA h' tk' hO hw hP F (fun nw hn off p hp => ?_) hne (fun nw hn => off1_of fun p hp z => ?_)
  · rcases List.mem_cons.mp hp with rfl | hp
    · exact kN _ (.head _)
    rcases List.mem_cons.mp hp with rfl | hp
    · exact kN _ (.tail _ (.head _))
    · exact keeps_but hg FG nw hn (fun p hp => by simp only [List.map_cons, List.map_nil, List.mem_singleton]; exact off p hp) p hp
  · have h1 := hg _ _ (hn p hp).1 (by simp only [List.map_cons, List.map_nil, List.mem_singleton]; rw [z]; exact hne)
    have h2 := (N' _ (.tail _ (.head _))).2.2
    rw [z] at h1
    rw [h1] at h2; cases h2
theorem rows_init_c {w : World} (e a0 : Addr) (msg : Str) (t : Tok) : Clo w 29 2 [(e, excD a0 none)] (fun _ => True) [.ref e, .str msg t] (RetThr e fun _ => True) := by
  unfold Clo RetThr
  k_fill
  intro dp un gd cn cs a ccd cl outer A₀ base h₀ L m s Q E p loose mean mg mb B F X N hP T hcs hdp hun hret
  refine wpAny_call ?_
  k_dflt (refine' own_plain ?k1 ?k2 ?k3 ?k4 ?k5 ?kA ?kF ?kK ?k6 ?k7 ?k8 ?k9 ?kB ?_ ?c2 ?c3 ?c4 ?c5; (case kA => exact rfl); (case kF => exact rfl); (case kK => assumption); (case k1 => k_asm); (case k2 => k_asm); (case k3 => k_asm); (case k4 => exact N); (case k5 => k_asm); (case k6 => k_is); (case k7 => k_is); (case k8 => ktr_room); (case k9 => exact BindsTo.of_defaults (o := ({ cls := .type "tuple", data := .seq #[.none] } : Obj)) (items := #[.none]) (T := 22) rfl ((X.keeps F.keep) _ _ (by k_is)) rfl rfl rfl); (case c5 => decide); (case kB => exact locs rfl); (case c2 => exact rfl); (case c3 => exact rfl); (case c4 => exact rfl); k_whole)
  intro g' L' h' hg' FG' F' N' B' X' T' l1
  (try k_lt l1)
  (try dsimp only)
  (try k_lift B')
  (try k_fold)
  repeat' (first
      | (k_unfold; (try dsimp only))
      | (k_end; kc_close)
      | (with_reducible ((with_reducible show wpAny _ _ (setAttr (Value.ref _) _ _) _ _ _); k_here; (with_reducible rename NsO _ _ => hO9z); k_dflt (refine' exc_store2_N (by k_asm) (by k_asm) (by k_asm) (by exact KF_cls (by k_asm)) (by walk_at "my o1") (by walk_at "my o1") (by k_ne) hO9z (by within_ways) (by decide) (by exact KF_sa) (by first | exact KF_msg | exact KF_spot | exact KF_value) ?_; k_whole); clear hO9z; intro od'z h'z tk'z hO'z F'z N'z))
      | (with_reducible ((with_reducible show wpAny _ _ (setAttr (Value.ref _) _ _) _ _ _); k_here; k_dflt (refine' exc_store1_N (by k_asm) (by k_asm) (by k_asm) (by exact KF_cls (by k_asm)) (by walk_at "my o1") (by exact KF_sa) (by first | exact KF_msg | exact KF_spot | exact KF_value) ?_; k_whole); intro d'z od'z h'z tk'z hO'z F'z N'z l1'z; (try k_lt l1'z)))
      | (with_reducible ((with_reducible show wpAny _ _ (call (Value.builtin "Exception.__init__") _) _ _ _); k_here; k_dflt (refine' exc_init_N (by k_asm) (by k_asm) (by exact KF_cls (by k_asm)) (by walk_at "my o1") ?_; k_whole); intro a'z h'z F'z N'z l1'z; (try k_lt l1'z)))
      | walk1
      | (dsimp only; walk1)
      | (leave1; walk_say "STEP leave1"; (try dsimp only))
      | fail "no step")
  rename NsO _ _ => hO9
  rename News h₀ L _ _ => kN9
  rename News g' _ _ _ => nN9
  refine retThr hret hO9 (fun y hy => ?_) trivial (by k_asm) hg' (by k_asm) N nN9 kN9 (by k_ne)
  by_cases h1 : y = Str.ofString "spot"
  · subst h1; exact .tail _ (.head _)
  · by_cases h2 : y = Str.ofString "message"
    · subst h2; exact .tail _ (.tail _ (.head _))
    · simp only [if_neg h1, if_neg h2] at hy; exact absurd rfl hy
theorem thrown_init_c {w : World} (e a0 v : Addr) : Clo w 49 4 [(e, excD a0 none)] (fun _ => True) [.ref e, .ref v] (RetThr e fun mA => mA (Str.ofString "value") = some (.ref v)) := by
  unfold Clo RetThr
  k_fill
  intro dp un gd cn cs a ccd cl outer A₀ base h₀ L m s Q E p loose mean mg mb B F X N hP T hcs hdp hun hret
  refine wpAny_call ?_
  k_dflt (refine' own_plain ?k1 ?k2 ?k3 ?k4 ?k5 ?kA ?kF ?kK ?k6 ?k7 ?k8 ?k9 ?kB ?_ ?c2 ?c3 ?c4 ?c5; (case kA => exact rfl); (case kF => exact rfl); (case kK => assumption); (case k1 => k_asm); (case k2 => k_asm); (case k3 => k_asm); (case k4 => exact N); (case k5 => k_asm); (case k6 => k_is); (case k7 => k_is); (case k8 => ktr_room); (case k9 => exact BindsTo.of_eq rfl); (case c5 => decide); (case kB => exact locs rfl); (case c2 => exact rfl); (case c3 => exact rfl); (case c4 => exact rfl); k_whole)
  intro g' L' h' hg' FG' F' N' B' X' T' l1
  (try k_lt l1)
  (try dsimp only)
  (try k_lift B')
  (try k_fold)
  repeat' (first
      | (k_unfold; (try dsimp only))
      | (k_end; kc_close)
      | ((with_reducible show wpAny _ _ (call (Value.ref _) _) _ _ _); first
        | ((with_reducible show wpAny _ _ (call (Value.ref 29) _) _ _ _); k_here; (with_reducible rename News _ _ _ _ => lN9z); k_dflt (refine' clo_useI (by k_asm) (by k_asm) (by k_asm) (by exact own_at lN9z (by k_mem)) (by trivial) (rows_init_c _ _ _ _) (by k_asm) (by first | exact rfl | assumption) (by ktr_room) (by ktr_units) ?_; k_whole); intro a'z d'z od'z mA'z h'z tk'z hO'z hw'z hP'z F'z kN9z hde'z o9z; (have N'z := kN9z [] no_news (fun _ hp => nomatch hp)); clear kN9z o9z hP'z; (try dsimp only); (try k_fold); (try k_sweep))
        | fail)
      | (with_reducible ((with_reducible show wpAny _ _ (setAttr (Value.ref _) _ _) _ _ _); k_here; (with_reducible rename NsO _ _ => hO9z); k_dflt (refine' exc_store2_N (by k_asm) (by k_asm) (by k_asm) (by exact KF_cls (by k_asm)) (by walk_at "my o1") (by walk_at "my o1") (by k_ne) hO9z (by within_ways) (by decide) (by exact KF_sa) (by first | exact KF_msg | exact KF_spot | exact KF_value) ?_; k_whole); clear hO9z; intro od'z h'z tk'z hO'z F'z N'z))
      | walk1
      | (dsimp only; walk1)
      | (leave1; walk_say "STEP leave1"; (try dsimp only))
      | fail "no step")
  rename NsO _ _ => hO9
  rename PySem.Within _ _ => hw9
  rename News h₀ L _ _ => kN9
  rename News g' _ _ _ => nN9
  refine retThr hret hO9 (fun y hy => ?_) (if_pos rfl) (by k_asm) hg' (by k_asm) N nN9 kN9 (by assumption)
  by_cases h1 : y = Str.ofString "value"
  · subst h1; exact .head _
  · simp only [if_neg h1] at hy; exact hw9 y hy

theorem ns_some_of {K : Frag} {h : Heap} {N : Addr} {mg : Str → Option Value} {n : Str} {v : Value} (X : K.In h) (G : h.Ns N mg) (e : nsIn K N n = some (some v)) : mg n = some v := by
  obtain ⟨o, es, ep, ho, hd, _, hf⟩ := G
  rw [← hf]
  unfold nsIn at e
  split at e
  · rename_i c d es' n' sl q
    have z := X _ _ q
    rw [ho] at z
    cases z
    cases hd
    split at e
    · rename_i en he
      cases e
      unfold nsFind findBy
      rw [← Array.find?_toList, he]
      rfl
    · split at e <;> cases e
  · cases e
/-- a made exception is handed back -/
abbrev RetExc (v : Addr) : Heap → Addr → (Str → Option Value) → Shared → (Value → Shared → Prop) → (Value → Shared → Prop) → Prop :=
  fun h₀ L m s Q _ => ∀ (e a d : Addr) (od : Obj) (mA : Str → Option Value) (h' : Heap) (tk' : Nat), NsO od mA → mA (Str.ofString "value") = some (.ref v) → Fr h₀ L h' m → (∀ nw, News h₀ L s.heap nw → News h₀ L h' ((e, excD a (some d)) :: (d, od) :: nw)) → (@Ne Nat d e) → (∀ nw, News h₀ L s.heap nw → LCg.Off1 d nw ∧ LCg.Off1 e nw) → Q (.ref e) { s with heap := h', toks := tk' }
theorem Thrown_c {w : World} (v : Addr) : Clo w 52 8 [] (fun _ => True) [.ref v] (RetExc v) := by
  unfold Clo RetExc
  k_fill
  intro dp un gd cn cs a ccd cl outer A₀ base h₀ L m s Q E p loose mean mg mb B F X N hP T hcs hdp hun hret
  have X' := X.keeps F.keep
  obtain ⟨mN, hn, hi⟩ : ∃ mN, s.heap.Ns 51 mN ∧ mN (Str.ofString "__init__") = some (.ref 49) := by
    have G : s.heap.Ns 51 (s.heap.nsMap 51) := .of_isNs (isNs_of_in X' (by with_unfolding_all rfl))
    exact ⟨_, G, ns_some_of X' G (by with_unfolding_all rfl)⟩
  refine own_call (h := s.heap) PySem.F.excBase_Exception own_line (KF_cls X') hn hi (X' 49 _ (by k_is)) (by rfl) (by rw [PySem.sizeLine_eq]; simp) ?_
  have up : ∀ b o, s.heap.get? b = some o → ((s.heap.push { cls := .type "tuple", data := .seq [Value.ref v].toArray }).push { cls := .ref 52, data := .fields #[.ref s.heap.objs.size, .none, .none, .none, .bool false, .none] }).get? b = some o := fun b o e => Heap.get?_push_of_some _ (Heap.get?_push_of_some _ e)
  have hsz : ((s.heap.push { cls := .type "tuple", data := .seq [Value.ref v].toArray })).objs.size = s.heap.objs.size + 1 := Heap.size_push ..
  have he : ((s.heap.push { cls := .type "tuple", data := .seq [Value.ref v].toArray }).push { cls := .ref 52, data := .fields #[.ref s.heap.objs.size, .none, .none, .none, .bool false, .none] }).get? (s.heap.objs.size + 1) = some (excD s.heap.objs.size none) := by
    have := Heap.get?_push_size (s.heap.push { cls := .type "tuple", data := .seq [Value.ref v].toArray }) (o := excD s.heap.objs.size none) rfl
    rw [hsz] at this; exact this
  generalize hH : ((s.heap.push { cls := .type "tuple", data := .seq [Value.ref v].toArray }).push { cls := .ref 52, data := .fields #[.ref s.heap.objs.size, .none, .none, .none, .bool false, .none] }) = H at up he ⊢
  have F' : Fr h₀ L H m := F.keeps up
  have hL : L < s.heap.objs.size := F.ns.lt
  have N1 : News h₀ L H [(s.heap.objs.size + 1, excD s.heap.objs.size none)] := fun p hp => by
    rw [List.mem_singleton.mp hp]
    exact ⟨he, Ne.symm (Nat.ne_of_lt (Nat.lt_succ_of_lt hL)), fresh_of F (Nat.le_succ _)⟩
  have C := thrown_init_c (w := w) (s.heap.objs.size + 1) s.heap.objs.size v
  refine clo_use C (s := { s with heap := H }) B F' X N1 trivial T hcs ?_ ?_ ?_
  · show dp + 1 + 4 < recursionLimit
    omega
  · show un + 1 + 8 * 4 < cLine
    omega
  intro a' d' od' mA' h' tk' hO hw hP' F2 kN hde o9
  have hlt : ∀ nw, News h₀ L s.heap nw → ∀ p ∈ nw, p.1 < s.heap.objs.size := fun nw hn p hp => Heap.lt_size (hn p hp).1
  refine ⟨rfl, hret _ a' d' od' mA' h' tk' hO hP' F2 (fun nw hn => kN nw (hn.grown up) fun p hp => Nat.ne_of_lt (Nat.lt_succ_of_lt (hlt nw hn p hp))) hde fun nw hn => ⟨o9 nw (hn.grown up), off1_of fun p hp => Nat.ne_of_lt (Nat.lt_succ_of_lt (hlt nw hn p hp))⟩⟩

/- X3 -/

noncomputable def Rim (tx : Str) : Prop := tx = Str.ofString "a whole number beyond all room" ∨ tx = Str.ofString "a product beyond all room" ∨ tx = Str.ofString "a shift beyond all room"
theorem enc0 (t u : Tok) : Builtin.«str.encode» ⟨[.str (Str.ofString "a whole number beyond all room") t, .str (Str.ofString "utf-8") u], []⟩ = (do ret (← mkBytes #[97, 32, 119, 104, 111, 108, 101, 32, 110, 117, 109, 98, 101, 114, 32, 98, 101, 121, 111, 110, 100, 32, 97, 108, 108, 32, 114, 111, 111, 109])) := by kernel_rfl
theorem enc1 (t u : Tok) : Builtin.«str.encode» ⟨[.str (Str.ofString "a product beyond all room") t, .str (Str.ofString "utf-8") u], []⟩ = (do ret (← mkBytes #[97, 32, 112, 114, 111, 100, 117, 99, 116, 32, 98, 101, 121, 111, 110, 100, 32, 97, 108, 108, 32, 114, 111, 111, 109])) := by kernel_rfl
theorem enc2 (t u : Tok) : Builtin.«str.encode» ⟨[.str (Str.ofString "a shift beyond all room") t, .str (Str.ofString "utf-8") u], []⟩ = (do ret (← mkBytes #[97, 32, 115, 104, 105, 102, 116, 32, 98, 101, 121, 111, 110, 100, 32, 97, 108, 108, 32, 114, 111, 111, 109])) := by kernel_rfl
theorem rim_encode {prog : Program} {w : World} {A : Around} {E : Value → Shared → Prop} {s : Shared} {Q : Value → Shared → Prop} {tx : Str} {t u : Tok} (hr : Rim tx) (h : ∀ b, Q (.bytes b s.toks) { s with toks := s.toks + 1 }) :
    wpAny (model prog w) A (call (.builtin "str.encode") [.str tx t, .str (Str.ofString "utf-8") u]) Q E s := by
  refine wpAny_call_entry PySem.F.slot_str_encode (typeIs_str _ _ _) PySem.F.entry_str_encode ?_ (PySem.F.args_str_encode_2 _ _)
  rcases hr with rfl | rfl | rfl
  · rw [enc0]; exact wpAny_bind (wpAny_mkBytes (wpAny_pure ⟨_, rfl, h _⟩))
  · rw [enc1]; exact wpAny_bind (wpAny_mkBytes (wpAny_pure ⟨_, rfl, h _⟩))
  · rw [enc2]; exact wpAny_bind (wpAny_mkBytes (wpAny_pure ⟨_, rfl, h _⟩))
local macro_rules | `(tactic| walk_at "call builtin:str.encode") => `(tactic| (k_here; k_dflt (refine' rim_encode ?k1 ?_; (case k1 => assumption); k_whole); intro b'))
theorem encode_method {M : Model} {A : Around} {E : Value → Shared → Prop} {s : Shared} {x : Str} {t : Tok} {pl : Sem Bool} {Q : Value × List Value → Shared → Prop} (h : Q (.builtin "str.encode", [.str x t]) s) : wpAny M A (getMethod (.str x t) (Str.ofString "encode") pl) Q E s :=
  PySem.GM.of (.str x t) (typeIs_str _ _ _) PySem.F.slot_str_encode PySem.F.type_str_encode PySem.GM.noRef h
local macro_rules | `(tactic| walk_at "getMethod") => `(tactic| (k_here; (with_reducible show wpAny _ _ (getMethod (Value.str _ _) _ _) _ _ _); (refine encode_method ?_)))
/-- a fresh tuple is handed back -/
abbrev RetTup (P : Array Value → List (Addr × Obj) → Prop) : Heap → Addr → (Str → Option Value) → Shared → (Value → Shared → Prop) → (Value → Shared → Prop) → Prop :=
  fun h₀ L m s Q _ => ∀ (q : Addr) (xs : Array Value) (h' : Heap) (tk' : Nat), P xs [] → Fr h₀ L h' m → (∀ nw, News h₀ L s.heap nw → News h₀ L h' ((q, ({ cls := .type "tuple", data := .seq xs } : Obj)) :: nw)) → (∀ nw, News h₀ L s.heap nw → LCg.Off1 q nw) → Q (.ref q) { s with heap := h', toks := tk' }
theorem retTup {P : Array Value → List (Addr × Obj) → Prop} {q : Addr} {xs : Array Value} {h₀ h' g : Heap} {L L' : Addr} {m m' : Str → Option Value} {s : Shared} {Q : Value → Shared → Prop} {tk' : Nat} {rest rest' : List (Addr × Obj)}
    (hret : ∀ (q : Addr) (xs : Array Value) (h' : Heap) (tk' : Nat), P xs [] → Fr h₀ L h' m → (∀ nw, News h₀ L s.heap nw → News h₀ L h' ((q, ({ cls := .type "tuple", data := .seq xs } : Obj)) :: nw)) → (∀ nw, News h₀ L s.heap nw → LCg.Off1 q nw) → Q (.ref q) { s with heap := h', toks := tk' })
    (hP : P xs []) (F : Fr h₀ L h' m) (hg : ∀ b o, s.heap.get? b = some o → b ∉ ([] : List (Addr × Obj)).map (·.1) → g.get? b = some o) (FG : Fr g L' h' m') (N' : News h₀ L h' ((q, ({ cls := .type "tuple", data := .seq xs } : Obj)) :: rest)) (N2 : News g L' h' ((q, ({ cls := .type "tuple", data := .seq xs } : Obj)) :: rest')) : Q (.ref q) { s with heap := h', toks := tk' } := by
  refine hret q xs h' tk' hP F (fun nw hn p hp => ?_) (off_of hg N2)
  rcases List.mem_cons.mp hp with rfl | hp
  · exact N' _ (.head _)
  · exact keeps_all hg FG nw hn p hp
theorem text_value_c {w : World} (tx : Str) (t : Tok) (hr : Rim tx) (hl : tx.length ≤ 100) : Clo w 61 2 [] (fun _ => True) [.str tx t] (RetTup fun _ _ => True) := by
  unfold Clo RetTup
  k_fill
  intro dp un gd cn cs a ccd cl outer A₀ base h₀ L m s Q E p loose mean mg mb B F X N hP T hcs hdp hun hret
  refine wpAny_call ?_
  k_dflt (refine' own_plain ?k1 ?k2 ?k3 ?k4 ?k5 ?kA ?kF ?kK ?k6 ?k7 ?k8 ?k9 ?kB ?_ ?c2 ?c3 ?c4 ?c5; (case kA => exact rfl); (case kF => exact rfl); (case kK => assumption); (case k1 => k_asm); (case k2 => k_asm); (case k3 => k_asm); (case k4 => exact N); (case k5 => k_asm); (case k6 => k_is); (case k7 => k_is); (case k8 => ktr_room); (case k9 => exact BindsTo.of_eq rfl); (case c5 => decide); (case kB => exact locs rfl); (case c2 => exact rfl); (case c3 => exact rfl); (case c4 => exact rfl); k_whole)
  intro g' L' h' hg' FG' F' N' B' X' T' l1
  (try k_lt l1)
  (try dsimp only)
  (try k_lift B')
  (try k_fold)
  k_steps
  rename News h₀ L _ _ => kN9
  rename News g' _ _ _ => nN9
  refine retTup (P := fun _ _ => True) hret trivial (by k_asm) hg' (by k_asm) kN9 nN9
theorem error_kind_c {w : World} (nm : Str) (t : Tok) (hl : nm.length ≤ 100) : Clo w 68 2 [] (fun _ => True) [.str nm t] (RetTup fun xs _ => ∃ a b, xs = #[a, .str nm t, b]) := by
  unfold Clo RetTup
  k_fill
  intro dp un gd cn cs a ccd cl outer A₀ base h₀ L m s Q E p loose mean mg mb B F X N hP T hcs hdp hun hret
  refine wpAny_call ?_
  k_dflt (refine' own_plain ?k1 ?k2 ?k3 ?k4 ?k5 ?kA ?kF ?kK ?k6 ?k7 ?k8 ?k9 ?kB ?_ ?c2 ?c3 ?c4 ?c5; (case kA => exact rfl); (case kF => exact rfl); (case kK => assumption); (case k1 => k_asm); (case k2 => k_asm); (case k3 => k_asm); (case k4 => exact N); (case k5 => k_asm); (case k6 => k_is); (case k7 => k_is); (case k8 => ktr_room); (case k9 => exact BindsTo.of_eq rfl); (case c5 => decide); (case kB => exact locs rfl); (case c2 => exact rfl); (case c3 => exact rfl); (case c4 => exact rfl); k_whole)
  intro g' L' h' hg' FG' F' N' B' X' T' l1
  (try k_lt l1)
  (try dsimp only)
  (try k_lift B')
  (try k_fold)
  k_steps
  rename News h₀ L _ _ => kN9
  rename News g' _ _ _ => nN9
  refine retTup (P := fun xs _ => ∃ a b, xs = #[a, .str nm t, b]) hret ⟨_, _, rfl⟩ (by k_asm) hg' (by k_asm) kN9 nN9

abbrev tupO (xs : Array Value) : Obj := { cls := .type "tuple", data := .seq xs }
theorem keeps_same {own all : List (Addr × Obj)} {s : Shared} {h₀ g h' : Heap} {L L' : Addr} {m' : Str → Option Value} (hg : ∀ b o, s.heap.get? b = some o → b ∉ own.map (·.1) → g.get? b = some o) (F : Fr g L' h' m') (N : News h₀ L s.heap own) (kN : News h₀ L h' all) (hsub : ∀ p ∈ own, p ∈ all) :
    ∀ nw, News h₀ L s.heap nw → News h₀ L h' nw := fun nw hn p hp => by
  by_cases hm : p.1 ∈ own.map (·.1)
  · obtain ⟨q, hq, e⟩ := List.mem_map.mp hm
    have h1 := (N q hq).1
    have h2 := (hn p hp).1
    rw [e, h2] at h1
    have h3 := (kN q (hsub q hq)).1
    rw [e, ← Option.some.inj h1] at h3
    exact ⟨h3, (hn p hp).2⟩
  · exact ⟨F.keep _ _ (hg _ _ (hn p hp).1 hm), (hn p hp).2⟩
theorem off_new {own all : List (Addr × Obj)} {s : Shared} {h₀ g h' : Heap} {L L' d : Addr} {o : Obj} (hg : ∀ b o, s.heap.get? b = some o → b ∉ own.map (·.1) → g.get? b = some o) (N' : News g L' h' all) (hm : (d, o) ∈ all) (hno : d ∉ own.map (·.1)) :
    ∀ nw, News h₀ L s.heap nw → LCg.Off1 d nw := fun nw hn => off1_of fun p hp z => by
  have h1 := hg _ _ (hn p hp).1 (by rw [z]; exact hno)
  have h2 := (N' _ hm).2.2
  rw [z] at h1
  rw [h1] at h2; cases h2
abbrev RetErrV (nm : Str) (t : Tok) : Heap → Addr → (Str → Option Value) → Shared → (Value → Shared → Prop) → (Value → Shared → Prop) → Prop :=
  fun h₀ L m s Q _ => ∀ (q kt : Addr) (x0 x2 a b : Value) (h' : Heap) (tk' : Nat), Fr h₀ L h' m → (∀ nw, News h₀ L s.heap nw → News h₀ L h' ((q, tupO #[x0, .ref kt, x2]) :: (kt, tupO #[a, .str nm t, b]) :: nw)) → (∀ nw, News h₀ L s.heap nw → LCg.Off1 q nw ∧ LCg.Off1 kt nw) → Q (.ref q) { s with heap := h', toks := tk' }
theorem retErrV {nm : Str} {t : Tok} {q kt : Addr} {x0 x2 a b : Value} {own rest rest' : List (Addr × Obj)} {h₀ h' g : Heap} {L L' : Addr} {m m' : Str → Option Value} {s : Shared} {Q : Value → Shared → Prop} {tk' : Nat}
    (hret : ∀ (q kt : Addr) (x0 x2 a b : Value) (h' : Heap) (tk' : Nat), Fr h₀ L h' m → (∀ nw, News h₀ L s.heap nw → News h₀ L h' ((q, tupO #[x0, .ref kt, x2]) :: (kt, tupO #[a, .str nm t, b]) :: nw)) → (∀ nw, News h₀ L s.heap nw → LCg.Off1 q nw ∧ LCg.Off1 kt nw) → Q (.ref q) { s with heap := h', toks := tk' })
    (F : Fr h₀ L h' m) (hg : ∀ b o, s.heap.get? b = some o → b ∉ own.map (·.1) → g.get? b = some o) (FG : Fr g L' h' m') (N : News h₀ L s.heap own) (kN : News h₀ L h' ((q, tupO #[x0, .ref kt, x2]) :: (kt, tupO #[a, .str nm t, b]) :: rest)) (nN : News g L' h' ((q, tupO #[x0, .ref kt, x2]) :: (kt, tupO #[a, .str nm t, b]) :: rest')) (hsub : ∀ p ∈ own, p ∈ rest) (o1 : q ∉ own.map (·.1)) (o2 : kt ∉ own.map (·.1)) : Q (.ref q) { s with heap := h', toks := tk' } :=
  hret q kt x0 x2 a b h' tk' F (fun nw hn p hp => by
    rcases List.mem_cons.mp hp with rfl | hp
    · exact kN _ (.head _)
    rcases List.mem_cons.mp hp with rfl | hp
    · exact kN _ (.tail _ (.head _))
    · exact keeps_same hg FG N kN (fun p hp => .tail _ (.tail _ (hsub p hp))) nw hn p hp) fun nw hn => ⟨off_new hg nN (.head _) o1 nw hn, off_new hg nN (.tail _ (.head _)) o2 nw hn⟩
theorem not_own {q p : Addr} {o : Obj} (h : @Ne Nat p q) : q ∉ ([(p, o)] : List (Addr × Obj)).map (·.1) := by simp only [List.map_cons, List.map_nil, List.mem_singleton]; exact Ne.symm h
theorem error_value_c {w : World} (nm : Str) (t : Tok) (hl : nm.length ≤ 100) (ps : Addr) (xs : Array Value) (hxs : xs.size ≤ 100) : Clo w 75 6 [(ps, tupO xs)] (fun _ => True) [.str nm t, .ref ps] (RetErrV nm t) := by
  unfold Clo RetErrV
  k_fill
  intro dp un gd cn cs a ccd cl outer A₀ base h₀ L m s Q E p loose mean mg mb B F X N hP T hcs hdp hun hret
  refine wpAny_call ?_
  k_dflt (refine' own_plain ?k1 ?k2 ?k3 ?k4 ?k5 ?kA ?kF ?kK ?k6 ?k7 ?k8 ?k9 ?kB ?_ ?c2 ?c3 ?c4 ?c5; (case kA => exact rfl); (case kF => exact rfl); (case kK => assumption); (case k1 => k_asm); (case k2 => k_asm); (case k3 => k_asm); (case k4 => exact N); (case k5 => k_asm); (case k6 => k_is); (case k7 => k_is); (case k8 => ktr_room); (case k9 => exact BindsTo.of_eq rfl); (case c5 => decide); (case kB => exact locs rfl); (case c2 => exact rfl); (case c3 => exact rfl); (case c4 => exact rfl); k_whole)
  intro g' L' h' hg' FG' F' N' B' X' T' l1
  (try k_lt l1)
  (try dsimp only)
  (try k_lift B')
  (try k_fold)
  repeat' (first
      | (k_unfold; (try dsimp only))
      | (k_end; kc_close)
      | ((with_reducible show wpAny _ _ (call (Value.ref _) _) _ _ _); first
        | (with_reducible ((with_reducible show wpAny _ _ (call (Value.ref 68) _) _ _ _); k_here; (with_reducible rename News _ _ _ _ => lN9z); k_dflt (refine' clo_useI (by k_asm) (by k_asm) (by k_asm) (by exact no_news) (by trivial) (error_kind_c _ _ (by assumption)) (by k_asm) (by first | exact rfl | assumption) (by ktr_room) (by ktr_units) ?_; k_whole); intro q'z xs'z h'z tk'z hP9z F'z kN9z o9z; (have N'z := kN9z _ lN9z); (have o1'z := o9z _ lN9z); (obtain ⟨x'z, y'z, hx'z⟩ := hP9z); subst hx'z; clear kN9z o9z; (try simp only [LCg.Off1, and_true] at o1'z); (try dsimp only); (try k_fold); (try k_sweep)))
        | fail)
      | walk1
      | (dsimp only; walk1)
      | (leave1; walk_say "STEP leave1"; (try dsimp only))
      | fail "no step")
  rename News h₀ L _ _ => kN9
  rename News g' _ _ _ => nN9
  refine retErrV hret (by k_asm) hg' (by k_asm) N kN9 nN9 (fun p hp => hp) (not_own (by k_ne)) (not_own (by k_ne))

/-- a made error is handed back -/
abbrev RetErr (nm : Str) : Heap → Addr → (Str → Option Value) → Shared → (Value → Shared → Prop) → (Value → Shared → Prop) → Prop :=
  fun h₀ L m s Q _ => ∀ (e a d v kt : Addr) (od : Obj) (mA : Str → Option Value) (x0 x2 y0 y2 : Value) (t : Tok) (h' : Heap) (tk' : Nat), NsO od mA → mA (Str.ofString "value") = some (.ref v) → (@Ne Nat d e) → Fr h₀ L h' m → (∀ nw, News h₀ L s.heap nw → News h₀ L h' ((e, excD a (some d)) :: (d, od) :: (v, tupO #[x0, .ref kt, x2]) :: (kt, tupO #[y0, .str nm t, y2]) :: nw)) → Q (.ref e) { s with heap := h', toks := tk' }
theorem retErr {nm : Str} {t : Tok} {e a d v kt : Addr} {od : Obj} {mA : Str → Option Value} {x0 x2 y0 y2 : Value} {own all : List (Addr × Obj)} {h₀ h' g : Heap} {L L' : Addr} {m m' : Str → Option Value} {s : Shared} {Q : Value → Shared → Prop} {tk' : Nat}
    (hret : ∀ (e a d v kt : Addr) (od : Obj) (mA : Str → Option Value) (x0 x2 y0 y2 : Value) (t : Tok) (h' : Heap) (tk' : Nat), NsO od mA → mA (Str.ofString "value") = some (.ref v) → (@Ne Nat d e) → Fr h₀ L h' m → (∀ nw, News h₀ L s.heap nw → News h₀ L h' ((e, excD a (some d)) :: (d, od) :: (v, tupO #[x0, .ref kt, x2]) :: (kt, tupO #[y0, .str nm t, y2]) :: nw)) → Q (.ref e) { s with heap := h', toks := tk' })
    (hO : NsO od mA) (hv : mA (Str.ofString "value") = some (.ref v)) (hne : @Ne Nat d e) (F : Fr h₀ L h' m) (hg : ∀ b o, s.heap.get? b = some o → b ∉ own.map (·.1) → g.get? b = some o) (FG : Fr g L' h' m') (N : News h₀ L s.heap own) (kN : News h₀ L h' all) (hsub : ∀ p ∈ own, p ∈ all)
    (m1 : (e, excD a (some d)) ∈ all) (m2 : (d, od) ∈ all) (m3 : (v, tupO #[x0, .ref kt, x2]) ∈ all) (m4 : (kt, tupO #[y0, .str nm t, y2]) ∈ all) : Q (.ref e) { s with heap := h', toks := tk' } :=
  hret e a d v kt od mA x0 x2 y0 y2 t h' tk' hO hv hne F fun nw hn p hp => by
    rcases List.mem_cons.mp hp with rfl | hp
    · exact kN _ m1
    rcases List.mem_cons.mp hp with rfl | hp
    · exact kN _ m2
    rcases List.mem_cons.mp hp with rfl | hp
    · exact kN _ m3
    rcases List.mem_cons.mp hp with rfl | hp
    · exact kN _ m4
    · exact keeps_same hg FG N kN hsub nw hn p hp
theorem thrown_text_c {w : World} (nm : Str) (t : Tok) (hl : nm.length ≤ 100) (tx : Str) (t2 : Tok) (hr : Rim tx) (hl2 : tx.length ≤ 100) : Clo w 89 20 [] (fun _ => True) [.str nm t, .str tx t2] (RetErr nm) := by
  unfold Clo RetErr
  k_fill
  intro dp un gd cn cs a ccd cl outer A₀ base h₀ L m s Q E p loose mean mg mb B F X N hP T hcs hdp hun hret
  refine wpAny_call ?_
  k_dflt (refine' own_plain ?k1 ?k2 ?k3 ?k4 ?k5 ?kA ?kF ?kK ?k6 ?k7 ?k8 ?k9 ?kB ?_ ?c2 ?c3 ?c4 ?c5; (case kA => exact rfl); (case kF => exact rfl); (case kK => assumption); (case k1 => k_asm); (case k2 => k_asm); (case k3 => k_asm); (case k4 => exact N); (case k5 => k_asm); (case k6 => k_is); (case k7 => k_is); (case k8 => ktr_room); (case k9 => exact BindsTo.of_eq rfl); (case c5 => decide); (case kB => exact locs rfl); (case c2 => exact rfl); (case c3 => exact rfl); (case c4 => exact rfl); k_whole)
  intro g' L' h' hg' FG' F' N' B' X' T' l1
  (try k_lt l1)
  (try dsimp only)
  (try k_lift B')
  (try k_fold)
  repeat' (first
      | (k_unfold; (try dsimp only))
      | (k_end; kc_close)
      | ((with_reducible show wpAny _ _ (call (Value.ref _) _) _ _ _); first
        | (with_reducible ((with_reducible show wpAny _ _ (call (Value.ref 75) _) _ _ _); k_here; (with_reducible rename News _ _ _ _ => lN9z); k_dflt (refine' clo_useI (by k_asm) (by k_asm) (by k_asm) (by exact own_at lN9z (by k_mem)) (by trivial) (error_value_c _ _ (by assumption) _ _ (by first | assumption | simp)) (by k_asm) (by first | exact rfl | assumption) (by ktr_room) (by ktr_units) ?_; k_whole); intro q'z kt'z x0'z x2'z a'z b'z h'z tk'z F'z kN9z o9z; (have N'z := kN9z _ lN9z); (have o1'z := (o9z _ lN9z).1); (have o2'z := (o9z _ lN9z).2); clear kN9z o9z; (try simp only [LCg.Off1, and_true] at o1'z o2'z); (try dsimp only); (try k_fold); (try k_sweep)))
        | (with_reducible ((with_reducible show wpAny _ _ (call (Value.ref 61) _) _ _ _); k_here; (with_reducible rename News _ _ _ _ => lN9z); k_dflt (refine' clo_useI (by k_asm) (by k_asm) (by k_asm) (by exact no_news) (by trivial) (text_value_c _ _ (by assumption) (by assumption)) (by k_asm) (by first | exact rfl | assumption) (by ktr_room) (by ktr_units) ?_; k_whole); intro q'z xs'z h'z tk'z hP'z F'z kN9z o9z; (have N'z := kN9z _ lN9z); (have o1'z := o9z _ lN9z); clear kN9z o9z; (try simp only [LCg.Off1, and_true] at o1'z); clear hP'z; (try dsimp only); (try k_fold); (try k_sweep)))
        | (with_reducible ((with_reducible show wpAny _ _ (call (Value.ref 52) _) _ _ _); k_here; (with_reducible rename News _ _ _ _ => lN9z); k_dflt (refine' clo_useI (by k_asm) (by k_asm) (by k_asm) (by exact no_news) (by trivial) (Thrown_c _) (by k_asm) (by first | exact rfl | assumption) (by ktr_room) (by ktr_units) ?_; k_whole); intro e'z a'z d'z od'z mA'z h'z tk'z hO'z hv'z F'z kN9z hde'z o9z; (have N'z := kN9z _ lN9z); (have o1'z := (o9z _ lN9z).1); (have o2'z := (o9z _ lN9z).2); clear kN9z o9z; (try simp only [LCg.Off1, and_true] at o1'z o2'z); (try dsimp only); (try k_fold); (try k_sweep)))
        | fail)
      | walk1
      | (dsimp only; walk1)
      | (leave1; walk_say "STEP leave1"; (try dsimp only))
      | fail "no step")
  rename NsO _ _ => hO9
  rename News h₀ L _ _ => kN9
  refine retErr hret hO9 (by assumption) (by assumption) (by k_asm) hg' (by k_asm) N kN9 (fun _ hp => nomatch hp) (by k_mem) (by k_mem) (by k_mem) (by k_mem)
theorem thrown_c {w : World} (nm : Str) (t : Tok) (hl : nm.length ≤ 100) (ps : Addr) (xs : Array Value) (hxs : xs.size ≤ 100) : Clo w 82 20 [(ps, tupO xs)] (fun _ => True) [.str nm t, .ref ps] (RetErr nm) := by
  unfold Clo RetErr
  k_fill
  intro dp un gd cn cs a ccd cl outer A₀ base h₀ L m s Q E p loose mean mg mb B F X N hP T hcs hdp hun hret
  refine wpAny_call ?_
  k_dflt (refine' own_plain ?k1 ?k2 ?k3 ?k4 ?k5 ?kA ?kF ?kK ?k6 ?k7 ?k8 ?k9 ?kB ?_ ?c2 ?c3 ?c4 ?c5; (case kA => exact rfl); (case kF => exact rfl); (case kK => assumption); (case k1 => k_asm); (case k2 => k_asm); (case k3 => k_asm); (case k4 => exact N); (case k5 => k_asm); (case k6 => k_is); (case k7 => k_is); (case k8 => ktr_room); (case k9 => exact BindsTo.of_eq rfl); (case c5 => decide); (case kB => exact locs rfl); (case c2 => exact rfl); (case c3 => exact rfl); (case c4 => exact rfl); k_whole)
  intro g' L' h' hg' FG' F' N' B' X' T' l1
  (try k_lt l1)
  (try dsimp only)
  (try k_lift B')
  (try k_fold)
  repeat' (first
      | (k_unfold; (try dsimp only))
      | (k_end; kc_close)
      | ((with_reducible show wpAny _ _ (call (Value.ref _) _) _ _ _); first
        | (with_reducible ((with_reducible show wpAny _ _ (call (Value.ref 75) _) _ _ _); k_here; (with_reducible rename News _ _ _ _ => lN9z); k_dflt (refine' clo_useI (by k_asm) (by k_asm) (by k_asm) (by exact own_at lN9z (by k_mem)) (by trivial) (error_value_c _ _ (by assumption) _ _ (by first | assumption | simp)) (by k_asm) (by first | exact rfl | assumption) (by ktr_room) (by ktr_units) ?_; k_whole); intro q'z kt'z x0'z x2'z a'z b'z h'z tk'z F'z kN9z o9z; (have N'z := kN9z _ lN9z); (have o1'z := (o9z _ lN9z).1); (have o2'z := (o9z _ lN9z).2); clear kN9z o9z; (try simp only [LCg.Off1, and_true] at o1'z o2'z); (try dsimp only); (try k_fold); (try k_sweep)))
        | (with_reducible ((with_reducible show wpAny _ _ (call (Value.ref 52) _) _ _ _); k_here; (with_reducible rename News _ _ _ _ => lN9z); k_dflt (refine' clo_useI (by k_asm) (by k_asm) (by k_asm) (by exact no_news) (by trivial) (Thrown_c _) (by k_asm) (by first | exact rfl | assumption) (by ktr_room) (by ktr_units) ?_; k_whole); intro e'z a'z d'z od'z mA'z h'z tk'z hO'z hv'z F'z kN9z hde'z o9z; (have N'z := kN9z _ lN9z); (have o1'z := (o9z _ lN9z).1); (have o2'z := (o9z _ lN9z).2); clear kN9z o9z; (try simp only [LCg.Off1, and_true] at o1'z o2'z); (try dsimp only); (try k_fold); (try k_sweep)))
        | fail)
      | walk1
      | (dsimp only; walk1)
      | (leave1; walk_say "STEP leave1"; (try dsimp only))
      | fail "no step")
  rename NsO _ _ => hO9
  rename News h₀ L _ _ => kN9
  refine retErr hret hO9 (by assumption) (by assumption) (by k_asm) hg' (by k_asm) N kN9 (fun p hp => by rw [List.mem_singleton.mp hp]; k_mem) (by k_mem) (by k_mem) (by k_mem) (by k_mem)

/- X4 -/
abbrev excV (d : Addr) (vs : Array Value) : Obj := { cls := .ref 52, dict := some d, data := .fields vs }
/-- the exception is traced, its dict as it was -/
def TraceD (h B : Heap) (e d : Addr) (fl : Value) : Prop :=
  ∃ (vs : Array Value) (T : Addr) (oT : Obj) (ts : Array Value), h.get? e = some (excV d vs) ∧ vs[1]? = some (.ref T) ∧ B.get? T = none ∧ T ≠ e ∧ h.get? T = some oT ∧ oT.data = .fields ts ∧ ts[3]? = some fl
def FlyD (B : Heap) (l : List Env) (e d : Addr) (fl : Value) (h : Heap) : Prop := B.StaysIn h ∧ B.get? e = none ∧ h.FunFrames B l ∧ TraceD h B e d fl
section
variable {M : Model} {A : Around} {E : Value → Shared → Prop} {s : Shared} {B : Heap} {env : Env} {outer : List Env} {L e d : Addr} {Q : Unit → Shared → Prop}
theorem entryD {vs : Array Value} {head : Value} {hadNext : Bool} (hfr : A.frames = some (env :: outer)) (hl : s.heap.FunFrames B (env :: outer)) (hf : env.frame = some L)
    (he : s.heap.get? e = some (excV d vs)) (hkb : B.StaysIn s.heap) (hen : B.get? e = none) (hsz : 1 < vs.size)
    (h : ∀ h', FlyD B (env :: outer) e d (rawInt L) h' → s.heap.UpToSlots h' → Q () { s with heap := h' }) :
    wpAny M A (do let a ← frameOf env; let pl ← entryPlaceOf L hadNext; let b ← EntryCells.newEntry head a .none (rawInt L) .none pl; setField (.ref e) 1 b) Q E s := by
  have hene : e ∉ (env :: outer).filterMap (·.frame) := fun hm => by
    obtain ⟨_, o, ho, hnf⟩ := hl.mem hm
    rw [he] at ho; exact hnf vs (by rw [← Option.some.inj ho])
  refine wpAny_bind (wpAny_frameOf_fun hfr hl hf fun h₁ hs₁ => wpAny_bind (wpAny_entryPlaceOf fun pl hpl => ?_))
  have he₁ : h₁.get? e = some (excV d vs) := (hs₁.2.1 e hene).trans he
  have kb₁ : B.StaysIn h₁ := fun b o hbo => (hs₁.2.1 b fun hm => by rw [(hl.mem hm).1] at hbo; cases hbo).trans (hkb b o hbo)
  unfold EntryCells.newEntry newFields
  refine wpAny_bind (wpAny_newObj_type ?_ (hpl.sizeOk5 _ _ _ _ _))
  generalize hT : ({ cls := .type "traceback", dict := none, data := .fields ([head, .ref L, .none, rawInt L, .none] ++ (if pl.isEmpty then List.replicate 6 Value.none else pl)).toArray } : Obj) = oT
  have he₂ : (h₁.push oT).get? e = some (excV d vs) := Heap.get?_push_of_some _ he₁
  refine wpAny_setField he₂ rfl hsz (h _ ?_ ?_)
  · have hTe : h₁.objs.size ≠ e := Nat.ne_of_gt (Heap.lt_size he₁)
    have noRec : ∀ b o, s.heap.get? b = some o → (∀ vs, o.data ≠ .fields vs) → b ≠ e := fun b o hb hnf q => by
      rw [q, he] at hb; exact hnf vs (by rw [← Option.some.inj hb])
    have keep : ∀ b o, b ≠ e → h₁.get? b = some o → ((h₁.push oT).update e (Obj.mapFields (·.setIfInBounds 1 (Value.ref h₁.objs.size)))).get? b = some o := fun b o hbe hb =>
      (Heap.get?_update_other _ _ (Ne.symm hbe)).trans (Heap.get?_push_of_some _ hb)
    refine ⟨fun b o hbo => keep b o (fun q => by rw [q, hen] at hbo; cases hbo) (kb₁ b o hbo), hen, hl.of_keeps fun b o hb hnf => ?_, vs.setIfInBounds 1 (.ref h₁.objs.size), h₁.objs.size, oT, ([head, .ref L, .none, rawInt L, .none] ++ (if pl.isEmpty then List.replicate 6 Value.none else pl)).toArray, ?_, by simp [hsz], kb₁.fresh, hTe, ?_, ?_, ?_⟩
    · obtain ⟨sl, hs⟩ := hs₁.2.2 b o hb
      exact ⟨_, keep b _ (noRec b o hb hnf) hs, rfl⟩
    · exact (Heap.get?_update_self _ he₂ rfl).trans rfl
    · exact (Heap.get?_update_other _ _ (Ne.symm hTe)).trans (Heap.get?_push_size h₁ (by rw [← hT]; rfl))
    · rw [← hT]
    · first | (simp; done) | (rcases hpl with rfl | ⟨_, _, _, _, _, _, _, rfl⟩ <;> simp)
  · intro b o hb hnf
    obtain ⟨sl, hs⟩ := hs₁.2.2 b o hb
    have hbe : b ≠ e := fun q => by rw [q, he] at hb; exact hnf vs (by rw [← Option.some.inj hb])
    exact ⟨sl, (Heap.get?_update_other _ _ (Ne.symm hbe)).trans (Heap.get?_push_of_some _ hs)⟩
theorem flightD {l : List Env} {fl : Value} (R : FlyD B l e d fl s.heap) (x : Option Addr)
    (h : ∀ h', FlyD B l e d (x.elim Value.none fun f => rawInt f) h' → s.heap.UpToSlots h' → Q () { s with heap := h' }) : wpAny M A (setFlight (.ref e) x) Q E s := by
  obtain ⟨hkb, hen, hl, vs, T, oT, ts, he, h1, hnT, hTe, hT, hdT, h3⟩ := R
  have hsz3 : 3 < ts.size := (Array.getElem?_eq_some_iff.mp h3).1
  have other : ∀ b, b ≠ T → (s.heap.update T (Obj.mapFields (·.setIfInBounds 3 (x.elim Value.none fun f => rawInt f)))).get? b = s.heap.get? b := fun b hb => Heap.get?_update_other _ _ (Ne.symm hb)
  have noRec : ∀ b o, s.heap.get? b = some o → (∀ vs, o.data ≠ .fields vs) → b ≠ T := fun b o hb hnf q => by
    rw [q, hT] at hb; exact hnf ts (by rw [← Option.some.inj hb]; exact hdT)
  unfold setFlight
  refine wpAny_bind (wpAny_field he rfl h1 ?_)
  rw [if_pos (show (Value.ref T != Value.none) = true from by simp)]
  refine wpAny_setField hT hdT hsz3 (h _ ⟨fun b o hbo => (other b fun q => by rw [q, hnT] at hbo; cases hbo).trans (hkb b o hbo), hen, hl.of_keeps fun b o hb hnf => ⟨o, (other b (noRec b o hb hnf)).trans hb, rfl⟩,
    vs, T, _, _, (other e (Ne.symm hTe)).trans he, h1, hnT, hTe, Heap.get?_update_self _ hT (Obj.isFreed_of_fields (Obj.data_mapFields hdT _)), Obj.data_mapFields hdT _, by simp [hsz3]⟩ fun b o hb hnf => ⟨o.slots, (other b (noRec b o hb hnf)).trans hb⟩)
theorem noteD {hadNext : Bool} (hfr : A.frames = some (env :: outer)) (hf : env.frame = some L) (R : FlyD B (env :: outer) e d .none s.heap)
    (h : ∀ h', FlyD B (env :: outer) e d (rawInt L) h' → s.heap.UpToSlots h' → Q () { s with heap := h' }) : wpAny M A (noteFrame (.ref e) env) Q E s := by
  obtain ⟨hkb, hen, hl, vs, T, oT, ts, he, h1, hnT, hTe, hT, hdT, h3⟩ := R
  unfold noteFrame
  simp only [hf]
  refine wpAny_bind (wpAny_field he rfl h1 ?_)
  rw [if_pos (show (Value.ref T != Value.none) = true from by simp)]
  refine wpAny_bind (wpAny_field hT hdT h3 ?_)
  rw [if_neg (show ¬ ((Value.none == rawInt L) = true) from by simp [rawInt])]
  refine wpAny_bind (wpAny_setField hT hdT (Array.getElem?_eq_some_iff.mp h3).1 ?_)
  have other : ∀ b, b ≠ T → (s.heap.update T (Obj.mapFields (·.setIfInBounds 3 Value.none))).get? b = s.heap.get? b := fun b hb => Heap.get?_update_other _ _ (Ne.symm hb)
  have noRec : ∀ b o, s.heap.get? b = some o → (∀ vs, o.data ≠ .fields vs) → b ≠ T := fun b o hb hnf q => by
    rw [q, hT] at hb; exact hnf ts (by rw [← Option.some.inj hb]; exact hdT)
  refine entryD hfr (hl.of_keeps fun b o hb hnf => ⟨o, (other b (noRec b o hb hnf)).trans hb, rfl⟩) hf ((other e (Ne.symm hTe)).trans he) (fun b o hbo => (other b fun q => by rw [q, hnT] at hbo; cases hbo).trans (hkb b o hbo)) hen (Array.getElem?_eq_some_iff.mp h1).1
    fun h' x1 x2 => h h' x1 fun b o hb hnf => x2 b o ((other b (noRec b o hb hnf)).trans hb) hnf
/-- the exception leaves a frame for the first time -/
theorem leaveD_first {vs : Array Value} (hfr : A.frames = some (env :: outer)) (hl : s.heap.FunFrames B (env :: outer)) (hf : env.frame = some L)
    (he : s.heap.get? e = some (excV d vs)) (hkb : B.StaysIn s.heap) (hen : B.get? e = none) (h1 : vs[1]? = some .none)
    (h : ∀ h', FlyD B outer e d .none h' → s.heap.UpToSlots h' → Q () { s with heap := h' }) : wpAny M A (leaving env (.ref e)) Q E s := by
  unfold leaving noteFrame
  simp only [hf]
  refine wpAny_bind (wpAny_bind (wpAny_field he rfl h1 ?_))
  rw [if_neg (by decide)]
  refine entryD hfr hl hf he hkb hen (Array.getElem?_eq_some_iff.mp h1).1 fun h' x1 x2 => ?_
  refine flightD (s := { s with heap := h' }) x1 none fun h'' y1 y2 => ?_
  obtain ⟨k1, k2, ⟨_, _, k3⟩, k4⟩ := y1
  exact h h'' ⟨k1, k2, k3, k4⟩ (Heap.UpToSlots.trans x2 y2)
theorem leaveD_next (hfr : A.frames = some (env :: outer)) (hf : env.frame = some L) (R : FlyD B (env :: outer) e d .none s.heap)
    (h : ∀ h', FlyD B outer e d .none h' → s.heap.UpToSlots h' → Q () { s with heap := h' }) : wpAny M A (leaving env (.ref e)) Q E s := by
  unfold leaving
  refine wpAny_bind (noteD (hadNext := true) hfr hf R fun h' x1 x2 => ?_)
  refine flightD (s := { s with heap := h' }) x1 none fun h'' y1 y2 => ?_
  obtain ⟨k1, k2, ⟨_, _, k3⟩, k4⟩ := y1
  exact h h'' ⟨k1, k2, k3, k4⟩ (Heap.UpToSlots.trans x2 y2)
end

/- X5 -/
/-- an error of name nm flies: l the frames it may still meet, G what stood when it was thrown -/
def Thr (base G : Heap) (l : List Env) (nm : Str) (e : Addr) (h : Heap) : Prop :=
  ∃ (B : Heap) (d v kt : Addr) (od : Obj) (mA : Str → Option Value) (x0 x2 y0 y2 : Value) (t : Tok), base.StaysIn B ∧ (∀ b o, G.get? b = some o → b ∉ l.filterMap (·.frame) → B.get? b = some o) ∧ FlyD B l e d .none h ∧
    B.get? d = some od ∧ NsO od mA ∧ mA (Str.ofString "value") = some (.ref v) ∧ B.get? v = some (tupO #[x0, .ref kt, x2]) ∧ B.get? kt = some (tupO #[y0, .str nm t, y2]) ∧ G.get? d = none ∧ G.get? v = none ∧ G.get? kt = none
theorem Thr.weak {base G G' : Heap} {l : List Env} {nm : Str} {e : Addr} {h : Heap} (R : Thr base G l nm e h) (k : ∀ b o, G'.get? b = some o → G.get? b = some o) : Thr base G' l nm e h := by
  obtain ⟨B, d, v, kt, od, mA, x0, x2, y0, y2, t, h1, h2, r1, r2, r3, r4, r5, r6, r7, r8, r9⟩ := R
  exact ⟨B, d, v, kt, od, mA, x0, x2, y0, y2, t, h1, fun b o e => h2 b o (k b o e), r1, r2, r3, r4, r5, r6, kts_none k r7, kts_none k r8, kts_none k r9⟩
section
variable {M : Model} {A : Around} {E : Value → Shared → Prop} {s : Shared} {base g G : Heap} {outer : List Env} {L e : Addr} {m : Str → Option Value} {env : Env} {Q : Unit → Shared → Prop} {nm : Str}
theorem mem_frames {b : Addr} (hf : env.frame = some L) (hm : b ∈ (env :: outer).filterMap (·.frame)) : b = L ∨ b ∈ outer.filterMap (·.frame) := by
  obtain ⟨v, he, hb⟩ := List.mem_filterMap.mp hm
  rcases List.mem_cons.mp he with rfl | he
  · exact .inl (Option.some.inj (hb.symm.trans hf))
  · exact .inr (List.mem_filterMap.mpr ⟨v, he, hb⟩)
theorem not_frame (hf : env.frame = some L) (F : Fr g L G m) {b : Addr} {o : Obj} (q : g.get? b = some o) (nm : b ∉ outer.filterMap (·.frame)) : b ∉ (env :: outer).filterMap (·.frame) := fun hm => by
  rcases mem_frames hf hm with z | z
  · rw [z, kts_self F] at q; cases q
  · exact nm z
/-- raised in this frame: it leaves it -/
theorem thr_first {a d v kt : Addr} {od : Obj} {mA : Str → Option Value} {x0 x2 y0 y2 : Value} {t : Tok} {all : List (Addr × Obj)} (hf : env.frame = some L) (hk : env.scope.kind = .function) (K : Below A base outer g) (F : Fr g L s.heap m) (N : News g L s.heap all)
    (m1 : (e, excD a (some d)) ∈ all) (m2 : (d, od) ∈ all) (m3 : (v, tupO #[x0, .ref kt, x2]) ∈ all) (m4 : (kt, tupO #[y0, .str nm t, y2]) ∈ all) (hne : @Ne Nat d e) (hO : NsO od mA) (hv : mA (Str.ofString "value") = some (.ref v))
    (hQ : ∀ h', Thr base g outer nm e h' → g.UpToSlots h' → Q () { s with heap := h' }) : wpAny M (A.deeper env) (leaving env (.ref e)) Q E s := by
  have hke : env.scope.kind ≠ .module := by rw [hk]; decide
  have he := N _ m1
  have hd := N _ m2
  have hv' := N _ m3
  have hkt := N _ m4
  have hnewL : base.get? L = none := by
    cases hq : base.get? L with
    | none => rfl
    | some o => exact absurd (Nat.lt_of_lt_of_le (Heap.lt_size (K.stays L o hq)) F.above) (Nat.lt_irrefl _)
  have ff : s.heap.FunFrames base (env :: outer) := .cons hke hf F.ns hnewL (K.frames.of_keeps fun b o e _ => ⟨o, F.keep b o e, rfl⟩)
  have isf : ∀ b, b ∈ (env :: outer).filterMap (·.frame) → base.get? b = none ∧ (b = L ∨ ∃ o, g.get? b = some o) := fun b hb => by
    rcases mem_frames hf hb with z | z
    · exact ⟨z ▸ hnewL, .inl z⟩
    · obtain ⟨x1, o, x2, _⟩ := K.frames.mem z
      exact ⟨x1, .inr ⟨o, x2⟩⟩
  have hid : ∀ p ∈ all, p.1 ≠ e → (hideAll s.heap (e :: (env :: outer).filterMap (·.frame))).get? p.1 = some p.2 := fun p hp hne => hideAll_get _ (N p hp).1 fun hm => by
    rcases List.mem_cons.mp hm with z | z
    · exact hne z
    rcases (isf _ z).2 with z | ⟨o, z⟩
    · exact (N p hp).2.1 z
    · rw [(N p hp).2.2] at z; cases z
  have vne : v ≠ e := fun z => by
    have h1 := hv'.1
    have h2 := he.1
    dsimp only at h1 h2
    rw [z, h2] at h1; cases h1
  have ktne : kt ≠ e := fun z => by
    have h1 := hkt.1
    have h2 := he.1
    dsimp only at h1 h2
    rw [z, h2] at h1; cases h1
  refine leaveD_first (B := hideAll s.heap (e :: (env :: outer).filterMap (·.frame))) (vs := #[.ref a, .none, .none, .none, .bool false, .none]) (Around.frames_deeper K.stack) (funFrames_hide ff fun x hx b hb => .tail _ (List.mem_filterMap.mpr ⟨x, hx, hb⟩)) hf he.1 (fun b o q => of_hideAll _ q) (hideAll_none _ (.head _)) rfl fun h' w1 w2 => ?_
  refine hQ h' ⟨_, d, v, kt, od, mA, x0, x2, y0, y2, t, ?_, ?_, w1, hid _ m2 hne, hO, hv, hid _ m3 vne, hid _ m4 ktne, hd.2.2, hv'.2.2, hkt.2.2⟩ ((Heap.UpToSlots.of_keeps F.keep).trans w2)
  · intro b o q
    refine hideAll_get _ (F.keep _ _ (K.stays b o q)) fun hm => ?_
    rcases List.mem_cons.mp hm with z | z
    · have := K.stays b o q
      rw [z, he.2.2] at this; cases this
    · rw [(isf _ z).1] at q; cases q
  · intro b o q hn
    refine hideAll_get _ (F.keep _ _ q) fun hm => ?_
    rcases List.mem_cons.mp hm with z | z
    · rw [z, he.2.2] at q; cases q
    · exact not_frame hf F q hn z
/-- it passes a frame -/
theorem thr_on (hf : env.frame = some L) (K : Below A base outer g) (F : Fr g L G m) (R : Thr base G (env :: outer) nm e s.heap) (hsm : G.UpToSlots s.heap)
    (hQ : ∀ h', Thr base g outer nm e h' → g.UpToSlots h' → Q () { s with heap := h' }) : wpAny M (A.deeper env) (leaving env (.ref e)) Q E s := by
  obtain ⟨B, d, v, kt, od, mA, x0, x2, y0, y2, t, h1, h2, h3, r2, r3, r4, r5, r6, r7, r8, r9⟩ := R
  refine leaveD_next (Around.frames_deeper K.stack) hf h3 fun h' a1 a2 => hQ h' ⟨B, d, v, kt, od, mA, x0, x2, y0, y2, t, h1, fun b o q hn => h2 b o (F.keep _ _ q) (not_frame hf F q hn), a1, r2, r3, r4, r5, r6, kts_none F.keep r7, kts_none F.keep r8, kts_none F.keep r9⟩ ((Heap.UpToSlots.of_keeps F.keep).trans (hsm.trans a2))
end

section
variable {prog : Program} {w : World} {A₀ : Around} {E : Value → Shared → Prop} {s' : Shared} {base g G : Heap} {outer : List Env} {L a e : Addr} {m : Str → Option Value} {name : Str} {scope : Scope} {cd : Value}
  {n x : Str} {np : Pos} {b₀ : Stmt} {suite : List Stmt} {pos : Pos} {rest : List ExceptHandler} {Q : Flow → Shared → Prop} {K₀ : Frag} {nm : Str}
  {p : Program} {loose : List Str} {mean : ExcName → Option Value} {mg mb : Str → Option Value}
theorem thr_caught (R : Thr base G (envOf name scope L a cd :: outer) nm e s'.heap) (F : Fr g L G m) (K : Below A₀ base outer g) (hsm : G.UpToSlots s'.heap) (XB : K₀.In base) (TB : Top p loose mean mg mb base)
    (ex : nsIn K₀ mainGlobals x = some (some (.ref 52))) (hC : base.get? 52 = some thrownC)
    (k : ∀ h' g' d v kt vs od mA x0 x2 y0 y2 t tk, KtsTurn (outer.filterMap (·.frame)) g g' → Fr g' L h' (fun y => if y = n then some (.ref e) else m y) → (∀ nw, News g L G nw → News g' L h' ((e, excV d vs) :: (d, od) :: (v, tupO #[x0, .ref kt, x2]) :: (kt, tupO #[y0, .str nm t, y2]) :: nw)) →
      NsO od mA → mA (Str.ofString "value") = some (.ref v) → Below A₀ base outer g' → K₀.In g' → Top p loose mean mg mb g' →
      wpAny (model prog w) ((A₀.deeper (envOf name scope L a cd)).mark (some (.ref e))) (execs (b₀ :: suite) (envOf name scope L a cd))
        (fun f s₄ => wpAny (model prog w) (A₀.deeper (envOf name scope L a cd)) (do bindName (envOf name scope L a cd) n .none; unbindBehindTheSuite (envOf name scope L a cd) n pos) (fun _ s₅ => Q f s₅) E s₄)
        (AsSuiteRaised (model prog w) ((A₀.deeper (envOf name scope L a cd)).mark (some (.ref e))) (envOf name scope L a cd) n pos (notedBy (model prog w) ((A₀.deeper (envOf name scope L a cd)).mark (some (.ref e))) (envOf name scope L a cd) (cameBackBy (model prog w) (A₀.deeper (envOf name scope L a cd)) (envOf name scope L a cd) E)))
        { s' with heap := h', toks := tk })
    (hk : scope.kind = .function := by rfl) (hlo : (envOf name scope L a cd).kindOf n = some .local := by rfl) (hx : (envOf name scope L a cd).kindOf x = some .globalImplicit := by rfl) (hd : (x == ("__debug__" : Str)) = false := by decide) :
    wpAny (model prog w) (A₀.deeper (envOf name scope L a cd)) (noteFrame (.ref e) (envOf name scope L a cd))
      (fun _ s₂ => wpAny (model prog w) (A₀.deeper (envOf name scope L a cd)) (setFlight (.ref e) none) (fun _ s₃ =>
        wpAny (model prog w) (A₀.deeper (envOf name scope L a cd)) (handleBy (.ref e) (envOf name scope L a cd) (.ExceptHandler (some (.Name x np)) (some n) (b₀ :: suite) pos :: rest)) Q E s₃) E s₂) E s' := by
  obtain ⟨B, d, v, kt, od, mA, x0, x2, y0, y2, t, h1, hBG, hfl, hd1, hO, hv, hv1, hkt, n1, n2, n3⟩ := R
  have hL : B.get? L = none := by
    obtain ⟨_, ⟨L', _, hf, hn', _⟩, _⟩ := hfl.2.2.1
    obtain rfl : L = L' := Option.some.inj hf
    exact hn'
  refine noteD (hadNext := true) (Around.frames_deeper K.stack) rfl hfl fun h₄ hfl₄ hsm₄ => ?_
  refine flightD (s := { s' with heap := h₄ }) hfl₄ none fun h₅ hfl₅ hsm₅' => ?_
  have hsm₅ := hsm₄.trans hsm₅'
  obtain ⟨g₅, T₅, F₅, K₅⟩ := kts_ground K F hBG hfl₅.1 (hsm.trans hsm₅)
  have X₅ : K₀.In g₅ := XB.keeps K₅.stays
  have P₅ : TopRead p loose mg mb g₅ := topRead_of (TB.keeps K₅.stays)
  obtain ⟨vs₅, _, _, _, he₅, _⟩ := hfl₅.2.2.2
  have hC₅ := F₅.keep _ _ (K₅.stays _ _ hC)
  refine wpAny_handleBy_cons (codeAny_handlers_test (name_K F₅ X₅ P₅ ex ?_ hk hx hd)) (by intro q; cases q)
  refine wpAny_excMatches_sub_self hC₅ he₅ rfl (by decide +kernel) (codeAny_handlers_suite_as ?_)
  refine flightD (s := { s' with heap := h₅ }) hfl₅ none fun h₆ hfl₆ hsm₆ => ?_
  obtain ⟨g₆, T₆, F₆, K₆⟩ := kts_ground K F hBG hfl₆.1 ((hsm.trans hsm₅).trans hsm₆)
  have X₆ : K₀.In g₆ := XB.keeps K₆.stays
  have P₆ : Top p loose mean mg mb g₆ := TB.keeps K₆.stays
  obtain ⟨vs, T, oT, ts, he, hvs1, hTB, hTe, hT, hTd, hts⟩ := hfl₆.2.2.2
  have ne : g₆.get? e = none := T₆.none_ _ (kts_fresh F hBG hfl₆.2.1 fun o ho m => by
    obtain ⟨_, o', ho', hd⟩ := K.frames.mem m
    rw [ho] at ho'
    cases ho'
    obtain ⟨sl, hs⟩ := ((hsm.trans hsm₅).trans hsm₆) _ _ (F.keep _ _ ho) hd
    have z := Option.some.inj (hs.symm.trans he)
    exact hd vs (show o.data = _ from congrArg Obj.data z))
  have st := hfl₆.1
  have neL : ∀ b o, B.get? b = some o → b ≠ L := fun b o q z => by rw [z, hL] at q; cases q
  have eL : e ≠ L := fun z => by
    obtain ⟨oL, es, ep, hoL, hdL, _⟩ := F₆.ns
    rw [← z, he] at hoL
    cases hoL; cases hdL
  have gone : ∀ b, G.get? b = none → g₆.get? b = none := fun b q => T₆.none_ _ (kts_none F.keep q)
  have NN : ∀ nw, News g L G nw → News g₆ L h₆ ((e, excV d vs) :: (d, od) :: (v, tupO #[x0, .ref kt, x2]) :: (kt, tupO #[y0, .str nm t, y2]) :: nw) := fun nw hn q hq => by
    rcases List.mem_cons.mp hq with rfl | hq
    · exact ⟨he, eL, ne⟩
    rcases List.mem_cons.mp hq with rfl | hq
    · exact ⟨st _ _ hd1, neL _ _ hd1, gone _ n1⟩
    rcases List.mem_cons.mp hq with rfl | hq
    · exact ⟨st _ _ hv1, neL _ _ hv1, gone _ n2⟩
    rcases List.mem_cons.mp hq with rfl | hq
    · exact ⟨st _ _ hkt, neL _ _ hkt, gone _ n3⟩
    · have z := hn q hq
      refine ⟨st _ _ (hBG _ _ z.1 fun hm => ?_), z.2.1, T₆.none_ _ z.2.2⟩
      rcases kts_mem hm with y | y
      · exact z.2.1 y
      · obtain ⟨_, o, ho, _⟩ := K.frames.mem y
        rw [z.2.2] at ho; cases ho
  refine stNK F₆ (news := []) no_news (fun h₇ F₇ _ hs _ => ?_) hk hlo
  exact k h₇ g₆ d v kt vs od mA x0 x2 y0 y2 t _ T₆ F₇ (fun nw hn => (NN nw hn).set hs) hO hv K₆ X₆ P₆
end

section
variable {prog : Program} {w : World} {A₀ A : Around} {s : Shared} {base h₀ : Heap} {outer : List Env} {L : Addr} {m mg mb : Str → Option Value} {env : Env} {own : List (Addr × Obj)} {K : Frag} {p : Program} {loose : List Str} {mean : ExcName → Option Value}
  {R : Result → Shared → Prop} {name qual : Str} {params : Arguments} {body : List Stmt} {scope : Scope} {dV kV doc pm cdv ct oc : Value} {an od : Option Addr} {osl : Array (Option Value)} {f : Addr} {args : Args} {binds : List (Str × Value)}
/-- a def is entered, what it ends with is asked plainly -/
theorem own_raw (B : Below A₀ base outer h₀) (F : Fr h₀ L s.heap m) (X₀ : K.In h₀) (N : News h₀ L s.heap own) (T : Top p loose mean mg mb h₀) (hA : A.frames = some (env :: outer)) (hf : env.frame = some L) (hke : env.scope.kind = .function)
    (hk0 : K.lookup f = some ⟨oc, od, .func (fnOf name qual params body scope dV kV doc pm an cdv ct), osl⟩) (hcd : codeIn K cdv qual = true) (hroom : A.depth < recursionLimit)
    (hbind : BindsTo s (fnOf name qual params body scope dV kV doc pm an cdv ct) args binds) (hloc : ∀ y ∈ binds, scope.names.lookup y.1 = some .local)
    (h : ∀ g L' h₁, (∀ b o, s.heap.get? b = some o → b ∉ own.map (·.1) → g.get? b = some o) → (∀ b o, s.heap.get? b = some o → h₁.get? b = some o) → (∀ b o, g.get? b = some o → s.heap.get? b = some o) → Fr h₀ L g m → Fr g L' h₁ (fun y => binds.reverse.lookup y) → News g L' h₁ own → Below A base (env :: outer) g → K.In g → Top p loose mean mg mb g → (∀ p ∈ own, p.1 < L') →
      wpAny (model prog w) (A.deeper (envOf qual scope L' f cdv)) (execs body (envOf qual scope L' f cdv))
        (fun fl s' => R (.ok (.ret (match fl with | .ret v => v | _ => .none))) s')
        (fun e s' => wpAny (model prog w) (A.deeper (envOf qual scope L' f cdv)) (leaving (envOf qual scope L' f cdv) e) (fun _ s'' => R (.error e) s'') (fun e' s'' => R (.error e') s'') s')
        { s with heap := h₁, toks := s.toks + binds.length })
    (hco : scope.isCoroutine = false) (hgen : scope.isGenerator = false) (hk : scope.kind = .function) (hcell : ∀ x ∈ scope.names, x.2 ≠ .cell) : codeAny (model prog w) A (.call (.ref f) args) R s := by
  obtain ⟨FG, BG, st, _⟩ := groundX (R := R) B F N hA hf hke
  refine codeAny_call_def (fd := fnX name qual params body scope [] dV kV doc pm an cdv ct) (body := body) (binds := binds) hroom ((X₀.keeps F.keep) _ _ hk0) rfl (T.nolimit.keeps F.keep) (codeRec_of (X₀.keeps F.keep) hcd) rfl hbind hcell hloc (fun h₁ hns hk₁ => ?_) hco hgen hk
  exact h _ s.heap.objs.size h₁ (fun b o e hb => hideAll_get _ e hb) hk₁ (fun b o e => of_hideAll _ e) FG ⟨hns, fun b o e => hk₁ b o (of_hideAll _ e), Nat.le_of_eq (hideAll_size _ _)⟩
    (fun p hp => ⟨hk₁ _ _ (N p hp).1, Nat.ne_of_lt (Heap.lt_size (N p hp).1), hideAll_none _ (List.mem_map_of_mem hp)⟩) BG (X₀.keeps st) (T.keeps st) (fun p hp => Heap.lt_size (N p hp).1)
theorem own_raw_cells (B : Below A₀ base outer h₀) (F : Fr h₀ L s.heap m) (X₀ : K.In h₀) (N : News h₀ L s.heap own) (T : Top p loose mean mg mb h₀) (hA : A.frames = some (env :: outer)) (hf : env.frame = some L) (hke : env.scope.kind = .function)
    (hk0 : K.lookup f = some ⟨oc, od, .func (fnOf name qual params body scope dV kV doc pm an cdv ct), osl⟩) (hcd : codeIn K cdv qual = true) (hroom : A.depth < recursionLimit)
    (hbind : BindsTo s (fnOf name qual params body scope dV kV doc pm an cdv ct) args binds) (hkind : (binds.all fun y => scope.names.lookup y.1 == some .local || scope.names.lookup y.1 == some .cell) = true)
    (hnd : ((cellsFrom 0 scope.names []).map (·.1)).Nodup)
    (h : ∀ g L' h₁ tk cells, (∀ b o, s.heap.get? b = some o → b ∉ own.map (·.1) → g.get? b = some o) → (∀ b o, g.get? b = some o → s.heap.get? b = some o) → Fr h₀ L g m → Fr g L' h₁ (bindL (envOfC qual scope L' f cdv).kindOf binds fun _ => none) → News g L' h₁ (cells ++ own) →
      CellsAre (bindC (envOfC qual scope L' f cdv).kindOf binds fun _ => none) (cellsFrom (L' + 1) scope.names []) cells → Below A base (env :: outer) g → K.In g → Top p loose mean mg mb g → (∀ p ∈ own, p.1 < L') →
      wpAny (model prog w) (A.deeper (envOfC qual scope L' f cdv)) (execs body (envOfC qual scope L' f cdv))
        (fun fl s' => R (.ok (.ret (match fl with | .ret v => v | _ => .none))) s')
        (fun e s' => wpAny (model prog w) (A.deeper (envOfC qual scope L' f cdv)) (leaving (envOfC qual scope L' f cdv) e) (fun _ s'' => R (.error e) s'') (fun e' s'' => R (.error e') s'') s')
        { s with heap := h₁, toks := tk })
    (hco : scope.isCoroutine = false) (hgen : scope.isGenerator = false) (hk : scope.kind = .function) : codeAny (model prog w) A (.call (.ref f) args) R s := by
  obtain ⟨FG, BG, st, _⟩ := groundX (R := R) B F N hA hf hke
  have hlim := T.nolimit
  have hcd' := codeRec_of (X₀.keeps F.keep) hcd
  have ho := (X₀.keeps F.keep) _ _ hk0
  refine codeAny_call_function hroom ho rfl hco hgen rfl hcd' (hbind _ _ _ _ ?_)
  refine wpAny_newFunctionEnv_cells hk (kindsX hkind _) fun env' he s' x => ?_
  subst he
  refine ⟨(hlim.keeps F.keep).keeps x.toInCall.keep, codeAny_func ?_⟩
  obtain ⟨h₁, tk, rfl, _⟩ := x.done
  have hk₁ := x.toInCall.keep
  obtain ⟨cells, NC, Y⟩ := Cl.news (h₀ := s.heap) (Nat.le_refl _) fun n c hm => ⟨x.cell n c (lookup_of_mem_nodup (cellsFrom_names scope.names 0 (s.heap.objs.size + 1) [] [] rfl ▸ hnd) hm), x.above n c hm⟩
  refine h _ s.heap.objs.size h₁ tk cells (fun b o e hb => hideAll_get _ e hb) (fun b o e => of_hideAll _ e) FG ⟨x.toInCall.ns, fun b o e => hk₁ b o (of_hideAll _ e), Nat.le_of_eq (hideAll_size _ _)⟩ (fun p hp => ?_) Y BG (X₀.keeps st) (T.keeps st) (fun p hp => Heap.lt_size (N p hp).1)
  rcases List.mem_append.mp hp with hp | hp
  · refine ⟨(NC p hp).1, (NC p hp).2.1, ?_⟩
    cases q : (hideAll s.heap (own.map (·.1))).get? p.1 with
    | none => rfl
    | some o => have := of_hideAll _ q; rw [(NC p hp).2.2] at this; cases this
  · exact ⟨hk₁ _ _ (N p hp).1, Nat.ne_of_lt (Heap.lt_size (N p hp).1), hideAll_none _ (List.mem_map_of_mem hp)⟩
/-- back in the caller, whose frames were met: its ground is turned -/
theorem back_turn {g g' h' : Heap} {L' : Addr} {m' : Str → Option Value} (B : Below A₀ base outer h₀) (F : Fr h₀ L s.heap m) (N : News h₀ L s.heap own) (hf : env.frame = some L) (hg : ∀ b o, s.heap.get? b = some o → b ∉ own.map (·.1) → g.get? b = some o)
    (T : KtsTurn ((env :: outer).filterMap (·.frame)) g g') (F' : Fr g' L' h' m') :
    ∃ h₀', KtsTurn (outer.filterMap (·.frame)) h₀ h₀' ∧ Fr h₀' L h' m ∧ Below A₀ base outer h₀' ∧ (∀ nw, News h₀ L s.heap nw → (∀ p ∈ nw, p.1 ∉ own.map (·.1)) → News h₀' L h' nw) := by
  have offown : ∀ b o, h₀.get? b = some o → b ∉ own.map (·.1) := fun b o q hm => by
    obtain ⟨p, hp, rfl⟩ := List.mem_map.mp hm
    rw [(N p hp).2.2] at q; cases q
  have Lown : L ∉ own.map (·.1) := fun hm => by
    obtain ⟨p, hp, e⟩ := List.mem_map.mp hm
    exact (N p hp).2.1 e
  obtain ⟨T₀, S⟩ := kts_turn_at (h := h') (fs := outer.filterMap (·.frame)) (g := h₀)
    (fun b hb => by obtain ⟨_, o, ho, _⟩ := B.frames.mem hb; exact ⟨o, ho⟩)
    (fun b o e nm => F'.keep _ _ (T.other _ _ (hg _ _ (F.keep _ _ e) (offown b o e)) (not_frame hf F e nm)))
    (fun b o e hm => by
      obtain ⟨sl, hs⟩ := T.up (hg _ _ (F.keep _ _ e) (offown b o e))
      exact ⟨sl, F'.keep _ _ hs⟩)
  obtain ⟨oL, es, ep, hoL, hdL, hk1, hk2⟩ := F.ns
  obtain ⟨sl, hs⟩ := T.up (hg _ _ hoL Lown)
  refine ⟨_, T₀, ⟨⟨_, es, ep, F'.keep _ _ hs, hdL, hk1, hk2⟩, S, by rw [T₀.size]; exact F.above⟩, ⟨B.stack, fun b o e => T₀.other b o (B.stays b o e) (fun hm => by rw [(B.frames.mem hm).1] at e; cases e), B.frames.of_keeps fun b o e _ => ?_⟩, fun nw hn off q hq => ?_⟩
  · obtain ⟨sl, hs⟩ := T₀.up e
    exact ⟨_, hs, rfl⟩
  · have z := hn q hq
    refine ⟨F'.keep _ _ (T.other _ _ (hg _ _ z.1 (off q hq)) fun hm => ?_), z.2.1, T₀.none_ _ z.2.2⟩
    rcases mem_frames hf hm with y | y
    · exact z.2.1 y
    · obtain ⟨_, o, ho, _⟩ := B.frames.mem y
      rw [z.2.2] at ho; cases ho
end

/- X6 -/
/-- what is raised: an own error that stands -/
def Raised (E : Value → Shared → Prop) (v : Value) (s₁ : Shared) : Prop := ∃ e a dd, v = .ref e ∧ s₁.heap.get? 52 = some thrownC ∧ s₁.heap.get? e = some (excD a dd) ∧ E (.ref e) s₁
section
variable {prog : Program} {w : World} {A : Around} {E : Value → Shared → Prop} {s : Shared} {env : Env}
theorem raise_own {x : Expr} {pos : Pos} {Q : Flow → Shared → Prop} (hh : A.handled = none) (h : wpAny (model prog w) A (eval x env) (Raised E) E s) :
    wpAny (model prog w) A (exec (.Raise (some x) none pos) env) Q E s := by
  have hcB : ((Value.ref 52) :: ([.ref 32, .type "Exception", .type "BaseException", .type "object"] : List Value)).contains (.type "BaseException") = true := by decide +kernel
  have key : ∀ X : Sem Value, wpAny (model prog w) A X (Raised E) E s → wpAny (model prog w) A (raiseStmt env (some X) none) Q E s := by
    intro X hX
    unfold raiseStmt
    refine wpAny_bind (wpAny_mono hX (fun v s₁ h₁ => ?_) fun _ _ x => x)
    obtain ⟨e, a, dd, rfl, hC, he, hE⟩ := h₁
    obtain ⟨hp, g, d, tk, os⟩ := s₁
    repeat (first | with_reducible refine wpAny_loadPart_at he ?_ | with_reducible refine wpAny_loadPart_at hC ?_ | (with_reducible refine wpAny_isSubtype_exc hC ?_; rw [hcB]) | wp_step)
    exact wpAny_raiseNew_none hh hE
  rw [arm_exec_Raise]
  first
    | exact wpAny_bind (wpAny_standAt (key _ (wpAny_bind (wpAny_mono h (fun v s₃ h₃ => wpAny_bind (wpAny_standAt (wpAny_pure h₃))) fun _ _ x => x))))
    | (refine wpAny_bind (wpAny_standAt (key _ ?_)); refine wpAny_bind (wpAny_mono h (fun v s₃ h₃ => wpAny_bind (wpAny_standAt (wpAny_pure h₃))) fun _ _ x => x))
end

/-- 2 ** 4000 -/
noncomputable def RIM : Int := 2 ^ 4000
/-- it has room in BigInt -/
def Fit (n : Int) : Prop := 1 - RIM ≤ n ∧ n ≤ RIM - 1
theorem rim_big : (10 : Int) ^ 90 < RIM := by unfold RIM; decide +kernel
section
variable {prog : Program} {w : World} {A : Around} {E : Value → Shared → Prop} {s : Shared}
theorem pow_rim {t u : Tok} {Q : Value → Shared → Prop} (h : Q (.int RIM s.toks) { s with toks := s.toks + 1 }) : wpAny (model prog w) A (binaryOp .Pow (.int 2 t) (.int 4000 u)) Q E s := by
  refine pow_int_small (by decide) (by decide) (by decide) ?_
  exact h
end
local macro_rules | `(tactic| walk_at "binaryOp Pow int int") => `(tactic| (k_here; (with_reducible refine pow_rim ?_)))
/-- it raises an error of that name -/
abbrev Clr (w : World) (f : Addr) (k : Nat) (vs : List Value) (nm : Str) : Prop :=
  ∀ (dp un : Nat) (gd : Option (List Code)) (cn : Str) (cs : Scope) (a : Addr) (ccd : Value) (cl : List (Str × Addr)) (outer : List Env) (A₀ : Around) (base h₀ : Heap) (L : Addr) (m : Str → Option Value) (s : Shared) (Q E : Value → Shared → Prop)
    (p : Program) (loose : List Str) (mean : ExcName → Option Value) (mg mb : Str → Option Value),
    Below A₀ base outer h₀ → Fr h₀ L s.heap m → (KF w.params).In h₀ → Top p loose mean mg mb h₀ → cs.kind = .function → dp + k < recursionLimit → un + 8 * k < cLine →
      (∀ e h' tk', Thr base s.heap (envX cn cs L a ccd cl :: outer) nm e h' → s.heap.UpToSlots h' → E (.ref e) { s with heap := h', toks := tk' }) → wpAny (model PySem.Challenge.rw_pc0193_01.row.prog w) (ktrTop dp un gd cn cs L a ccd cl outer) (call (.ref f) vs) Q E s
section
variable {w : World} {f : Addr} {k : Nat} {vs : List Value} {nm : Str}
  {dp un : Nat} {gd : Option (List Code)} {cn : Str} {cs : Scope} {a : Addr} {ccd : Value} {cl : List (Str × Addr)} {outer : List Env} {A₀ : Around} {base h₀ : Heap} {L : Addr} {m : Str → Option Value} {s : Shared} {Q E : Value → Shared → Prop}
    {p : Program} {loose : List Str} {mean : ExcName → Option Value} {mg mb : Str → Option Value}
theorem clr_use (C : Clr w f k vs nm) (B : Below A₀ base outer h₀) (F : Fr h₀ L s.heap m) (X : (KF w.params).In h₀) (T : Top p loose mean mg mb h₀) (hcs : cs.kind = .function) (hdp : dp + k < recursionLimit) (hun : un + 8 * k < cLine)
    (r : ∀ e h' tk', Thr base s.heap (envX cn cs L a ccd cl :: outer) nm e h' → s.heap.UpToSlots h' → E (.ref e) { s with heap := h', toks := tk' }) : wpAny (model PySem.Challenge.rw_pc0193_01.row.prog w) (ktrTop dp un gd cn cs L a ccd cl outer) (call (.ref f) vs) Q E s :=
  C _ _ _ _ _ _ _ _ _ _ _ _ _ _ _ _ _ _ _ _ _ _ B F X T hcs hdp hun r
end
theorem least_big_c {w : World} {news : List (Addr × Obj)} (t : Tok) : Clm w 111 2 news [.str (Str.ofString "BigInt") t] (RetP news fun t => .int (1 - RIM) t) := by
  unfold Clm RetP
  k_fill
  intro dp un gd cn cs a ccd cl outer A₀ base h₀ L m s Q E p loose mean mg mb B F X N T hcs hdp hun hret
  refine wpAny_call ?_
  k_dflt cell_enter
  k_steps
  refine cb_retI hret rfl (by k_asm) (by k_asm)
theorem greatest_big_c {w : World} {news : List (Addr × Obj)} (t : Tok) : Clm w 118 2 news [.str (Str.ofString "BigInt") t] (RetP news fun t => .int (RIM - 1) t) := by
  unfold Clm RetP
  k_fill
  intro dp un gd cn cs a ccd cl outer A₀ base h₀ L m s Q E p loose mean mg mb B F X N T hcs hdp hun hret
  refine wpAny_call ?_
  k_dflt cell_enter
  k_steps
  refine cb_retI hret rfl (by k_asm) (by k_asm)
theorem fits_t_c {w : World} {news : List (Addr × Obj)} (t : Tok) (n : Int) (t' : Tok) (hf : Fit n) : Clm w 125 3 news [.str (Str.ofString "BigInt") t, .int n t'] (RetP news fun _ => .bool true) := by
  unfold Clm RetP
  k_fill
  intro dp un gd cn cs a ccd cl outer A₀ base h₀ L m s Q E p loose mean mg mb B F X N T hcs hdp hun hret
  refine wpAny_call ?_
  k_dflt cell_enter
  have hf1 := hf.1
  have hf2 := hf.2
  repeat' (first
      | (k_unfold; (try dsimp only))
      | (k_end; kc_close)
      | ((with_reducible show wpAny _ _ (call (Value.ref _) _) _ _ _); first
        | (with_reducible ((with_reducible show wpAny _ _ (call (Value.ref 118) (Value.str (Str.ofString "BigInt") _ :: _)) _ _ _); k_here; k_dflt (refine' clm_use (greatest_big_c _) (by k_asm) (by k_asm) (by k_asm) (by k_asm) (by k_asm) (by first | exact rfl | assumption) (by ktr_room) (by ktr_units) ?_; k_whole); intro u'z h'z tk'z F'z N'z; (try dsimp only); (try k_fold); (try k_sweep)))
        | (with_reducible ((with_reducible show wpAny _ _ (call (Value.ref 111) (Value.str (Str.ofString "BigInt") _ :: _)) _ _ _); k_here; k_dflt (refine' clm_use (least_big_c _) (by k_asm) (by k_asm) (by k_asm) (by k_asm) (by k_asm) (by first | exact rfl | assumption) (by ktr_room) (by ktr_units) ?_; k_whole); intro u'z h'z tk'z F'z N'z; (try dsimp only); (try k_fold); (try k_sweep)))
        | fail)
      | walk1
      | (dsimp only; walk1)
      | (leave1; walk_say "STEP leave1"; (try dsimp only))
      | fail "no step")
  all_goals (refine cb_retB hret ?_ (by k_asm) (by k_asm); first | rfl | (simp only [decide_eq_true_eq]; assumption) | contradiction | skip)
theorem fits_f_c {w : World} {news : List (Addr × Obj)} (t : Tok) (n : Int) (t' : Tok) (hf : ¬ Fit n) : Clm w 125 3 news [.str (Str.ofString "BigInt") t, .int n t'] (RetP news fun _ => .bool false) := by
  unfold Clm RetP
  k_fill
  intro dp un gd cn cs a ccd cl outer A₀ base h₀ L m s Q E p loose mean mg mb B F X N T hcs hdp hun hret
  refine wpAny_call ?_
  k_dflt cell_enter
  repeat' (first
      | (k_unfold; (try dsimp only))
      | (k_end; kc_close)
      | ((with_reducible show wpAny _ _ (call (Value.ref _) _) _ _ _); first
        | (with_reducible ((with_reducible show wpAny _ _ (call (Value.ref 118) (Value.str (Str.ofString "BigInt") _ :: _)) _ _ _); k_here; k_dflt (refine' clm_use (greatest_big_c _) (by k_asm) (by k_asm) (by k_asm) (by k_asm) (by k_asm) (by first | exact rfl | assumption) (by ktr_room) (by ktr_units) ?_; k_whole); intro u'z h'z tk'z F'z N'z; (try dsimp only); (try k_fold); (try k_sweep)))
        | (with_reducible ((with_reducible show wpAny _ _ (call (Value.ref 111) (Value.str (Str.ofString "BigInt") _ :: _)) _ _ _); k_here; k_dflt (refine' clm_use (least_big_c _) (by k_asm) (by k_asm) (by k_asm) (by k_asm) (by k_asm) (by first | exact rfl | assumption) (by ktr_room) (by ktr_units) ?_; k_whole); intro u'z h'z tk'z F'z N'z; (try dsimp only); (try k_fold); (try k_sweep)))
        | fail)
      | walk1
      | (dsimp only; walk1)
      | (leave1; walk_say "STEP leave1"; (try dsimp only))
      | fail "no step")
  all_goals (refine cb_retB hret ?_ (by k_asm) (by k_asm); first | rfl | (simp only [decide_eq_false_iff_not]; intro hz; first | exact hf ⟨by assumption, hz⟩ | contradiction) | skip)
theorem bounded_c {w : World} {news : List (Addr × Obj)} (n : Int) (t' : Tok) (hf : Fit n) : Clm w 132 4 news [.int n t'] (RetP news fun t => .int n t) := by
  unfold Clm RetP
  k_fill
  intro dp un gd cn cs a ccd cl outer A₀ base h₀ L m s Q E p loose mean mg mb B F X N T hcs hdp hun hret
  refine wpAny_call ?_
  k_dflt cell_enter
  repeat' (first
      | (k_unfold; (try dsimp only))
      | (k_end; kc_close)
      | ((with_reducible show wpAny _ _ (call (Value.ref _) _) _ _ _); first
        | (with_reducible ((with_reducible show wpAny _ _ (call (Value.ref 125) (Value.str (Str.ofString "BigInt") _ :: _)) _ _ _); k_here; k_dflt (refine' clm_use (fits_t_c _ _ _ (by assumption)) (by k_asm) (by k_asm) (by k_asm) (by k_asm) (by k_asm) (by first | exact rfl | assumption) (by ktr_room) (by ktr_units) ?_; k_whole); intro u'z h'z tk'z F'z N'z; (try dsimp only); (try k_fold); (try k_sweep)))
        | fail)
      | walk1
      | (dsimp only; walk1)
      | (leave1; walk_say "STEP leave1"; (try dsimp only))
      | fail "no step")
  all_goals (refine cb_retI hret rfl (by k_asm) (by k_asm))

section
variable {M : Model} {A : Around} {E E' : Value → Shared → Prop} {s : Shared} {base g : Heap} {outer : List Env} {L' e a d v kt : Addr} {m' : Str → Option Value} {env : Env} {nm : Str} {od : Obj} {mA : Str → Option Value} {x0 x2 y0 y2 : Value} {t : Tok} {all : List (Addr × Obj)} {h₁ : Heap} {tk : Nat}
theorem clr_first (hret : ∀ e h' tk', Thr base s.heap outer nm e h' → s.heap.UpToSlots h' → E (.ref e) { s with heap := h', toks := tk' }) (hg : ∀ b o, s.heap.get? b = some o → b ∉ ([] : List (Addr × Obj)).map (·.1) → g.get? b = some o)
    (hf : env.frame = some L') (hk : env.scope.kind = .function) (K : Below A base outer g) (F : Fr g L' h₁ m') (N : News g L' h₁ all)
    (m1 : (e, excD a (some d)) ∈ all) (m2 : (d, od) ∈ all) (m3 : (v, tupO #[x0, .ref kt, x2]) ∈ all) (m4 : (kt, tupO #[y0, .str nm t, y2]) ∈ all) (hne : @Ne Nat d e) (hO : NsO od mA) (hv : mA (Str.ofString "value") = some (.ref v)) :
    wpAny M (A.deeper env) (leaving env (.ref e)) (fun _ s'' => E (.ref e) s'') E' { s with heap := h₁, toks := tk } :=
  thr_first hf hk K (s := { s with heap := h₁, toks := tk }) F N m1 m2 m3 m4 hne hO hv fun h' R hs => hret e h' tk (R.weak fun b o q => hg b o q (fun hm => nomatch hm)) fun b o q hn => hs b o (hg b o q (fun hm => nomatch hm)) hn
theorem clr_on {G : Heap} (hret : ∀ e h' tk', Thr base s.heap outer nm e h' → s.heap.UpToSlots h' → E (.ref e) { s with heap := h', toks := tk' }) (hg : ∀ b o, s.heap.get? b = some o → b ∉ ([] : List (Addr × Obj)).map (·.1) → g.get? b = some o)
    (hf : env.frame = some L') (K : Below A base outer g) (F : Fr g L' G m') (R : Thr base G (env :: outer) nm e h₁) (hsm : G.UpToSlots h₁) :
    wpAny M (A.deeper env) (leaving env (.ref e)) (fun _ s'' => E (.ref e) s'') E' { s with heap := h₁, toks := tk } :=
  thr_on hf K F (s := { s with heap := h₁, toks := tk }) R hsm fun h' R hs => hret e h' tk (R.weak fun b o q => hg b o q (fun hm => nomatch hm)) fun b o q hn => hs b o (hg b o q (fun hm => nomatch hm)) hn
end
local macro_rules | `(tactic| walk_at "exec Raise some none") => `(tactic| (k_here; k_dflt (refine' raise_own ?k1 ?_; (case k1 => exact rfl))))
theorem bounded_bad_c {w : World} (n : Int) (t' : Tok) (hf : ¬ Fit n) : Clr w 132 26 [.int n t'] (Str.ofString "OverflowError") := by
  unfold Clr
  k_fill
  intro dp un gd cn cs a ccd cl outer A₀ base h₀ L m s Q E p loose mean mg mb B F X T hcs hdp hun hret
  have N := no_news (h₀ := h₀) (h := s.heap) (L := L)
  refine wpAny_call ?_
  k_dflt (refine' own_raw ?k1 ?k2 ?k3 ?k4 ?k5 ?kA ?kF ?kK ?k6 ?k7 ?k8 ?k9 ?kB ?_ ?c2 ?c3 ?c4 ?c5; (case kA => exact rfl); (case kF => exact rfl); (case kK => assumption); (case k1 => k_asm); (case k2 => k_asm); (case k3 => k_asm); (case k4 => exact N); (case k5 => k_asm); (case k6 => k_is); (case k7 => k_is); (case k8 => ktr_room); (case k9 => exact BindsTo.of_eq rfl); (case c5 => decide); (case kB => exact locs rfl); (case c2 => exact rfl); (case c3 => exact rfl); (case c4 => exact rfl); k_whole)
  intro g' L' h' hg' hk1 hup FG' F' N' B' X' T' l1
  (try k_lt l1)
  (try dsimp only)
  (try k_lift B')
  (try k_fold)
  repeat' (first
      | (k_unfold; (try dsimp only))
      | (k_end; kc_close)
      | ((with_reducible show wpAny _ _ (call (Value.ref _) _) _ _ _); first
        | (with_reducible ((with_reducible show wpAny _ _ (call (Value.ref 89) _) _ _ _); k_here; (with_reducible rename News _ _ _ _ => lN9z); k_dflt (refine' clo_useI (by k_asm) (by k_asm) (by k_asm) (by exact no_news) (by trivial) (thrown_text_c _ _ (by decide) _ _ (by (unfold Rim; first | exact Or.inl rfl | exact Or.inr (Or.inl rfl) | exact Or.inr (Or.inr rfl))) (by decide)) (by k_asm) (by first | exact rfl | assumption) (by ktr_room) (by ktr_units) ?_; k_whole); intro e'z a'z d'z v'z kt'z od'z mA'z x0'z x2'z y0'z y2'z t'z h'z tk'z hO9z hv9z hne9z F'z kN9z; (have N'z := kN9z _ lN9z); clear kN9z; (try dsimp only); (try k_fold); (try k_sweep)))
        | (with_reducible ((with_reducible show wpAny _ _ (call (Value.ref 125) (Value.str (Str.ofString "BigInt") _ :: _)) _ _ _); k_here; k_dflt (refine' clm_use (fits_f_c _ _ _ (by assumption)) (by k_asm) (by k_asm) (by k_asm) (by k_asm) (by k_asm) (by first | exact rfl | assumption) (by ktr_room) (by ktr_units) ?_; k_whole); intro u'z h'z tk'z F'z N'z; (try dsimp only); (try k_fold); (try k_sweep)))
        | fail)
      | ((with_reducible show Raised _ _ _); (with_reducible rename News _ _ _ _ => lN9z); refine ⟨_, _, _, rfl, KF_cls (Frag.In.keeps (by k_asm) (Fr.keep (by k_asm))), (lN9z _ (by (try dsimp only); k_mem)).1, ?_⟩)
      | walk1
      | (dsimp only; walk1)
      | (leave1; walk_say "STEP leave1"; (try dsimp only))
      | fail "no step")
  rename NsO _ _ => hO9
  rename News g' L' _ _ => nN9
  exact clr_first hret hg' rfl rfl B' (by k_asm) nN9 (by k_mem) (by k_mem) (by k_mem) (by k_mem) (by assumption) hO9 (by assumption)
theorem wrapped_big_c {w : World} {news : List (Addr × Obj)} (t : Tok) (n : Int) (t' : Tok) (hf : Fit n) : Clm w 139 6 news [.str (Str.ofString "BigInt") t, .int n t'] (RetP news fun t => .int n t) := by
  unfold Clm RetP
  k_fill
  intro dp un gd cn cs a ccd cl outer A₀ base h₀ L m s Q E p loose mean mg mb B F X N T hcs hdp hun hret
  refine wpAny_call ?_
  k_dflt cell_enter
  repeat' (first
      | (k_unfold; (try dsimp only))
      | (k_end; kc_close)
      | ((with_reducible show wpAny _ _ (call (Value.ref _) _) _ _ _); first
        | (with_reducible ((with_reducible show wpAny _ _ (call (Value.ref 132) _) _ _ _); k_here; k_dflt (refine' clm_use (bounded_c _ _ (by assumption)) (by k_asm) (by k_asm) (by k_asm) (by k_asm) (by k_asm) (by first | exact rfl | assumption) (by ktr_room) (by ktr_units) ?_; k_whole); intro u'z h'z tk'z F'z N'z; (try dsimp only); (try k_fold); (try k_sweep)))
        | fail)
      | ((with_reducible show wpAny _ _ (eval (Expr.Call (Expr.Name (Str.ofString "thrown_text") _) _ _ _) _) _ _ _); k_here; refine Call_ ?_)
      | ((with_reducible show wpAny _ _ (eval (Expr.Call (Expr.Name (Str.ofString "bounded") _) _ _ _) _) _ _ _); k_here; refine Call_ ?_)
      | walk1
      | (dsimp only; walk1)
      | (leave1; walk_say "STEP leave1"; (try dsimp only))
      | fail "no step")
  all_goals (refine cb_retI hret rfl (by k_asm) (by k_asm))
theorem exact_add_c {w : World} {news : List (Addr × Obj)} (t0 : Tok) (n : Int) (t' : Tok) (n2 : Int) (t2 : Tok) : Clm w 146 1 news [.str (Str.ofString "+") t0, .int n t', .int n2 t2] (RetP news fun t => .int (n + n2) t) := by
  unfold Clm RetP
  k_fill
  intro dp un gd cn cs a ccd cl outer A₀ base h₀ L m s Q E p loose mean mg mb B F X N T hcs hdp hun hret
  refine wpAny_call ?_
  k_dflt cell_enter
  repeat' (first
      | (k_unfold; (try dsimp only))
      | (k_end; kc_close)
      | ((with_reducible show wpAny _ _ (eval (Expr.Call (Expr.Name (Str.ofString "thrown_text") _) _ _ _) _) _ _ _); k_here; refine Call_ ?_)
      | ((with_reducible show wpAny _ _ (eval (Expr.Call (Expr.Name (Str.ofString "bounded") _) _ _ _) _) _ _ _); k_here; refine Call_ ?_)
      | walk1
      | (dsimp only; walk1)
      | (leave1; walk_say "STEP leave1"; (try dsimp only))
      | fail "no step")
  all_goals (refine cb_retI hret rfl (by k_asm) (by k_asm))
theorem checked_add_c {w : World} (t t0 : Tok) (n : Int) (t' : Tok) (n2 : Int) (t2 : Tok) (hf : ¬ Fit (n + n2)) : Clr w 153 30 [.str (Str.ofString "BigInt") t, .str (Str.ofString "+") t0, .int n t', .int n2 t2] (Str.ofString "OverflowError") := by
  unfold Clr
  k_fill
  intro dp un gd cn cs a ccd cl outer A₀ base h₀ L m s Q E p loose mean mg mb B F X T hcs hdp hun hret
  have N := no_news (h₀ := h₀) (h := s.heap) (L := L)
  refine wpAny_call ?_
  k_dflt (refine' own_raw ?k1 ?k2 ?k3 ?k4 ?k5 ?kA ?kF ?kK ?k6 ?k7 ?k8 ?k9 ?kB ?_ ?c2 ?c3 ?c4 ?c5; (case kA => exact rfl); (case kF => exact rfl); (case kK => assumption); (case k1 => k_asm); (case k2 => k_asm); (case k3 => k_asm); (case k4 => exact N); (case k5 => k_asm); (case k6 => k_is); (case k7 => k_is); (case k8 => ktr_room); (case k9 => exact BindsTo.of_eq rfl); (case c5 => decide); (case kB => exact locs rfl); (case c2 => exact rfl); (case c3 => exact rfl); (case c4 => exact rfl); k_whole)
  intro g' L' h' hg' hk1 hup FG' F' N' B' X' T' l1
  (try k_lt l1)
  (try dsimp only)
  (try k_lift B')
  (try k_fold)
  repeat' (first
      | (k_unfold; (try dsimp only))
      | (k_end; kc_close)
      | ((with_reducible show wpAny _ _ (call (Value.ref _) _) _ _ _); first
        | (with_reducible ((with_reducible show wpAny _ _ (call (Value.ref 146) (Value.str (Str.ofString "+") _ :: _)) _ _ _); k_here; k_dflt (refine' clm_use (exact_add_c _ _ _ _ _) (by k_asm) (by k_asm) (by k_asm) (by k_asm) (by k_asm) (by first | exact rfl | assumption) (by ktr_room) (by ktr_units) ?_; k_whole); intro u'z h'z tk'z F'z N'z; (try dsimp only); (try k_fold); (try k_sweep)))
        | (with_reducible ((with_reducible show wpAny _ _ (call (Value.ref 132) _) _ _ _); k_here; k_dflt (refine' clr_use (bounded_bad_c _ _ (by assumption)) (by k_asm) (by k_asm) (by k_asm) (by k_asm) (by first | exact rfl | assumption) (by ktr_room) (by ktr_units) ?_; k_whole); intro e'z h'z tk'z R'z up'z; (try dsimp only)))
        | fail)
      | ((with_reducible show wpAny _ _ (eval (Expr.Call (Expr.Name (Str.ofString "thrown_text") _) _ _ _) _) _ _ _); k_here; refine Call_ ?_)
      | ((with_reducible show wpAny _ _ (eval (Expr.Call (Expr.Name (Str.ofString "bounded") _) _ _ _) _) _ _ _); k_here; refine Call_ ?_)
      | walk1
      | (dsimp only; walk1)
      | (leave1; walk_say "STEP leave1"; (try dsimp only))
      | fail "no step")
  exact clr_on hret hg' rfl B' (by k_asm) (by assumption) (by assumption)
theorem checked_mul_c {w : World} (t t0 : Tok) (n : Int) (t' : Tok) (n2 : Int) (t2 : Tok) (hb : 4001 < (Builtin.Int.intBits n : Int) + (Builtin.Int.intBits n2 : Int)) : Clr w 153 30 [.str (Str.ofString "BigInt") t, .str (Str.ofString "*") t0, .int n t', .int n2 t2] (Str.ofString "OverflowError") := by
  unfold Clr
  k_fill
  intro dp un gd cn cs a ccd cl outer A₀ base h₀ L m s Q E p loose mean mg mb B F X T hcs hdp hun hret
  have N := no_news (h₀ := h₀) (h := s.heap) (L := L)
  refine wpAny_call ?_
  k_dflt (refine' own_raw ?k1 ?k2 ?k3 ?k4 ?k5 ?kA ?kF ?kK ?k6 ?k7 ?k8 ?k9 ?kB ?_ ?c2 ?c3 ?c4 ?c5; (case kA => exact rfl); (case kF => exact rfl); (case kK => assumption); (case k1 => k_asm); (case k2 => k_asm); (case k3 => k_asm); (case k4 => exact N); (case k5 => k_asm); (case k6 => k_is); (case k7 => k_is); (case k8 => ktr_room); (case k9 => exact BindsTo.of_eq rfl); (case c5 => decide); (case kB => exact locs rfl); (case c2 => exact rfl); (case c3 => exact rfl); (case c4 => exact rfl); k_whole)
  intro g' L' h' hg' hk1 hup FG' F' N' B' X' T' l1
  (try k_lt l1)
  (try dsimp only)
  (try k_lift B')
  (try k_fold)
  repeat' (first
      | (k_unfold; (try dsimp only))
      | (k_end; kc_close)
      | ((with_reducible show wpAny _ _ (call (Value.ref _) _) _ _ _); first
        | (with_reducible ((with_reducible show wpAny _ _ (call (Value.ref 89) _) _ _ _); k_here; (with_reducible rename News _ _ _ _ => lN9z); k_dflt (refine' clo_useI (by k_asm) (by k_asm) (by k_asm) (by exact no_news) (by trivial) (thrown_text_c _ _ (by decide) _ _ (by (unfold Rim; first | exact Or.inl rfl | exact Or.inr (Or.inl rfl) | exact Or.inr (Or.inr rfl))) (by decide)) (by k_asm) (by first | exact rfl | assumption) (by ktr_room) (by ktr_units) ?_; k_whole); intro e'z a'z d'z v'z kt'z od'z mA'z x0'z x2'z y0'z y2'z t'z h'z tk'z hO9z hv9z hne9z F'z kN9z; (have N'z := kN9z _ lN9z); clear kN9z; (try dsimp only); (try k_fold); (try k_sweep)))
        | fail)
      | ((with_reducible show wpAny _ _ (eval (Expr.Call (Expr.Name (Str.ofString "thrown_text") _) _ _ _) _) _ _ _); k_here; refine Call_ ?_)
      | ((with_reducible show wpAny _ _ (eval (Expr.Call (Expr.Name (Str.ofString "bounded") _) _ _ _) _) _ _ _); k_here; refine Call_ ?_)
      | ((with_reducible show Raised _ _ _); (with_reducible rename News _ _ _ _ => lN9z); refine ⟨_, _, _, rfl, KF_cls (Frag.In.keeps (by k_asm) (Fr.keep (by k_asm))), (lN9z _ (by (try dsimp only); k_mem)).1, ?_⟩)
      | walk1
      | (dsimp only; walk1)
      | (leave1; walk_say "STEP leave1"; (try dsimp only))
      | fail "no step")
  rename NsO _ _ => hO9
  rename News g' L' _ _ => nN9
  exact clr_first hret hg' rfl rfl B' (by k_asm) nN9 (by k_mem) (by k_mem) (by k_mem) (by k_mem) (by assumption) hO9 (by assumption)
theorem checked_num_c {w : World} {news : List (Addr × Obj)} (t t0 : Tok) (n : Int) (t' : Tok) (n2 : Int) (t2 : Tok) (hb : ¬ (4001 : Int) < (Builtin.Int.intBits n : Int) + (Builtin.Int.intBits n2 : Int)) (hb1 : Builtin.Int.intBits n ≤ 500) (hb2 : Builtin.Int.intBits n2 ≤ 500) (hf : Fit (opf (Str.ofString "*") n n2)) : Clm w 153 12 news [.str (Str.ofString "BigInt") t, .str (Str.ofString "*") t0, .int n t', .int n2 t2] (RetTB news (opf (Str.ofString "*") n n2) false) := by
  unfold Clm RetTB
  k_fill
  intro dp un gd cn cs a ccd cl outer A₀ base h₀ L m s Q E p loose mean mg mb B F X N T hcs hdp hun hret
  refine wpAny_call ?_
  k_dflt cell_enter
  repeat' (first
      | (k_unfold; (try dsimp only))
      | (k_end; kc_close)
      | ((with_reducible show wpAny _ _ (call (Value.ref _) _) _ _ _); first
        | (with_reducible ((with_reducible show wpAny _ _ (call (Value.ref 132) _) _ _ _); k_here; k_dflt (refine' clm_use (bounded_c _ _ (by assumption)) (by k_asm) (by k_asm) (by k_asm) (by k_asm) (by k_asm) (by first | exact rfl | assumption) (by ktr_room) (by ktr_units) ?_; k_whole); intro u'z h'z tk'z F'z N'z; (try dsimp only); (try k_fold); (try k_sweep)))
        | (with_reducible ((with_reducible show wpAny _ _ (call (Value.ref 146) _) _ _ _); k_here; k_dflt (refine' clm_use (exact_c _ _ _ _ _ _ (by assumption) (by assumption)) (by k_asm) (by k_asm) (by k_asm) (by k_asm) (by k_asm) (by first | exact rfl | assumption) (by ktr_room) (by ktr_units) ?_; k_whole); intro u'z h'z tk'z F'z N'z; (try dsimp only); (try k_fold); (try k_sweep)))
        | fail)
      | ((with_reducible show wpAny _ _ (eval (Expr.Call (Expr.Name (Str.ofString "thrown_text") _) _ _ _) _) _ _ _); k_here; refine Call_ ?_)
      | ((with_reducible show wpAny _ _ (eval (Expr.Call (Expr.Name (Str.ofString "bounded") _) _ _ _) _) _ _ _); k_here; refine Call_ ?_)
      | walk1
      | (dsimp only; walk1)
      | (leave1; walk_say "STEP leave1"; (try dsimp only))
      | fail "no step")
  exact hret _ _ _ _ (by k_asm) (by k_asm) (by assumption)
theorem moved_bad_c {w : World} (t t0 t2 : Tok) : Clr w 174 26 [.str (Str.ofString "BigInt") t, .int 1 t0, .int 4000 t2] (Str.ofString "OverflowError") := by
  unfold Clr
  k_fill
  intro dp un gd cn cs a ccd cl outer A₀ base h₀ L m s Q E p loose mean mg mb B F X T hcs hdp hun hret
  have N := no_news (h₀ := h₀) (h := s.heap) (L := L)
  refine wpAny_call ?_
  k_dflt (refine' own_raw ?k1 ?k2 ?k3 ?k4 ?k5 ?kA ?kF ?kK ?k6 ?k7 ?k8 ?k9 ?kB ?_ ?c2 ?c3 ?c4 ?c5; (case kA => exact rfl); (case kF => exact rfl); (case kK => assumption); (case k1 => k_asm); (case k2 => k_asm); (case k3 => k_asm); (case k4 => exact N); (case k5 => k_asm); (case k6 => k_is); (case k7 => k_is); (case k8 => ktr_room); (case k9 => exact BindsTo.of_eq rfl); (case c5 => decide); (case kB => exact locs rfl); (case c2 => exact rfl); (case c3 => exact rfl); (case c4 => exact rfl); k_whole)
  intro g' L' h' hg' hk1 hup FG' F' N' B' X' T' l1
  (try k_lt l1)
  (try dsimp only)
  (try k_lift B')
  (try k_fold)
  repeat' (first
      | (k_unfold; (try dsimp only))
      | (k_end; kc_close)
      | ((with_reducible show wpAny _ _ (call (Value.ref _) _) _ _ _); first
        | (with_reducible ((with_reducible show wpAny _ _ (call (Value.ref 89) _) _ _ _); k_here; (with_reducible rename News _ _ _ _ => lN9z); k_dflt (refine' clo_useI (by k_asm) (by k_asm) (by k_asm) (by exact no_news) (by trivial) (thrown_text_c _ _ (by decide) _ _ (by (unfold Rim; first | exact Or.inl rfl | exact Or.inr (Or.inl rfl) | exact Or.inr (Or.inr rfl))) (by decide)) (by k_asm) (by first | exact rfl | assumption) (by ktr_room) (by ktr_units) ?_; k_whole); intro e'z a'z d'z v'z kt'z od'z mA'z x0'z x2'z y0'z y2'z t'z h'z tk'z hO9z hv9z hne9z F'z kN9z; (have N'z := kN9z _ lN9z); clear kN9z; (try dsimp only); (try k_fold); (try k_sweep)))
        | fail)
      | ((with_reducible show wpAny _ _ (eval (Expr.Call (Expr.Name (Str.ofString "thrown_text") _) _ _ _) _) _ _ _); k_here; refine Call_ ?_)
      | ((with_reducible show wpAny _ _ (eval (Expr.Call (Expr.Name (Str.ofString "bounded") _) _ _ _) _) _ _ _); k_here; refine Call_ ?_)
      | ((with_reducible show Raised _ _ _); (with_reducible rename News _ _ _ _ => lN9z); refine ⟨_, _, _, rfl, KF_cls (Frag.In.keeps (by k_asm) (Fr.keep (by k_asm))), (lN9z _ (by (try dsimp only); k_mem)).1, ?_⟩)
      | walk1
      | (dsimp only; walk1)
      | (leave1; walk_say "STEP leave1"; (try dsimp only))
      | fail "no step")
  rename NsO _ _ => hO9
  rename News g' L' _ _ => nN9
  exact clr_first hret hg' rfl rfl B' (by k_asm) nN9 (by k_mem) (by k_mem) (by k_mem) (by k_mem) (by assumption) hO9 (by assumption)
theorem moved_ok_c {w : World} {news : List (Addr × Obj)} (t t0 t2 : Tok) : Clm w 174 8 news [.str (Str.ofString "BigInt") t, .int (-1) t0, .int 3999 t2] (RetP news fun t => .int (-1 * 2 ^ 3999) t) := by
  unfold Clm RetP
  k_fill
  intro dp un gd cn cs a ccd cl outer A₀ base h₀ L m s Q E p loose mean mg mb B F X N T hcs hdp hun hret
  refine wpAny_call ?_
  k_dflt cell_enter
  repeat' (first
      | (k_unfold; (try dsimp only))
      | (k_end; kc_close)
      | ((with_reducible show wpAny _ _ (eval (Expr.Call (Expr.Name (Str.ofString "thrown_text") _) _ _ _) _) _ _ _); k_here; refine Call_ ?_)
      | ((with_reducible show wpAny _ _ (eval (Expr.Call (Expr.Name (Str.ofString "bounded") _) _ _ _) _) _ _ _); k_here; refine Call_ ?_)
      | walk1
      | (dsimp only; walk1)
      | (leave1; walk_say "STEP leave1"; (try dsimp only))
      | fail "no step")
  all_goals (refine cb_retI hret rfl (by k_asm) (by k_asm))

/- X7 -/
theorem fits_in_c {w : World} {news : List (Addr × Obj)} (k : Str) (t : Tok) (hk : Kind k) (n : Int) (t' : Tok) (hin : lo k ≤ n ∧ n ≤ hi k) : Clm w 125 3 news [.str k t, .int n t'] (RetP news fun _ => .bool true) := by
  have := fits_c (w := w) (news := news) k t hk n t'
  rwa [decide_eq_true hin] at this
theorem fits_out_c {w : World} {news : List (Addr × Obj)} (k : Str) (t : Tok) (hk : Kind k) (n : Int) (t' : Tok) (hin : ¬ (lo k ≤ n ∧ n ≤ hi k)) : Clm w 125 3 news [.str k t, .int n t'] (RetP news fun _ => .bool false) := by
  have := fits_c (w := w) (news := news) k t hk n t'
  rwa [decide_eq_false hin] at this
theorem kind_value_c {w : World} (k : Str) (t : Tok) (hl : k.length ≤ 100) : Clo w 223 2 [] (fun _ => True) [.str k t] (RetTup fun _ _ => True) := by
  unfold Clo RetTup
  k_fill
  intro dp un gd cn cs a ccd cl outer A₀ base h₀ L m s Q E p loose mean mg mb B F X N hP T hcs hdp hun hret
  refine wpAny_call ?_
  k_dflt (refine' own_plain ?k1 ?k2 ?k3 ?k4 ?k5 ?kA ?kF ?kK ?k6 ?k7 ?k8 ?k9 ?kB ?_ ?c2 ?c3 ?c4 ?c5; (case kA => exact rfl); (case kF => exact rfl); (case kK => assumption); (case k1 => k_asm); (case k2 => k_asm); (case k3 => k_asm); (case k4 => exact N); (case k5 => k_asm); (case k6 => k_is); (case k7 => k_is); (case k8 => ktr_room); (case k9 => exact BindsTo.of_eq rfl); (case c5 => decide); (case kB => exact locs rfl); (case c2 => exact rfl); (case c3 => exact rfl); (case c4 => exact rfl); k_whole)
  intro g' L' h' hg' FG' F' N' B' X' T' l1
  (try k_lt l1)
  (try dsimp only)
  (try k_lift B')
  (try k_fold)
  repeat' (first
      | (k_unfold; (try dsimp only))
      | (k_end; kc_close)
      | ((with_reducible show wpAny _ _ (eval (Expr.Call (Expr.Name (Str.ofString "kind_value") _) _ _ _) _) _ _ _); k_here; refine Call_ ?_)
      | ((with_reducible show wpAny _ _ (eval (Expr.Call (Expr.Name (Str.ofString "thrown") _) _ _ _) _) _ _ _); k_here; refine Call_ ?_)
      | walk1
      | (dsimp only; walk1)
      | (leave1; walk_say "STEP leave1"; (try dsimp only))
      | fail "no step")
  rename News h₀ L _ _ => kN9
  rename News g' _ _ _ => nN9
  refine retTup (P := fun _ _ => True) hret trivial (by k_asm) hg' (by k_asm) kN9 nN9
theorem converted_ok_c {w : World} (k : Str) (t : Tok) (hk : Kind k) (n : Int) (t' : Tok) (hin : lo k ≤ n ∧ n ≤ hi k) (v : Value) : Clo w 230 6 [] (fun _ => True) [.str k t, .int n t', v] (RetA fun t => .int n t) := by
  unfold Clo RetA
  k_fill
  intro dp un gd cn cs a ccd cl outer A₀ base h₀ L m s Q E p loose mean mg mb B F X N hP T hcs hdp hun hret
  have hl := klen k hk
  have hb := kbig k hk
  have hw := kw_le k hk
  refine wpAny_call ?_
  k_dflt (refine' own_plain ?k1 ?k2 ?k3 ?k4 ?k5 ?kA ?kF ?kK ?k6 ?k7 ?k8 ?k9 ?kB ?_ ?c2 ?c3 ?c4 ?c5; (case kA => exact rfl); (case kF => exact rfl); (case kK => assumption); (case k1 => k_asm); (case k2 => k_asm); (case k3 => k_asm); (case k4 => exact N); (case k5 => k_asm); (case k6 => k_is); (case k7 => k_is); (case k8 => ktr_room); (case k9 => exact BindsTo.of_eq rfl); (case c5 => decide); (case kB => exact locs rfl); (case c2 => exact rfl); (case c3 => exact rfl); (case c4 => exact rfl); k_whole)
  intro g' L' h' hg' FG' F' N' B' X' T' l1
  (try k_lt l1)
  (try dsimp only)
  (try k_lift B')
  (try k_fold)
  repeat' (first
      | (k_unfold; (try dsimp only))
      | (k_end; kc_close)
      | ((with_reducible show wpAny _ _ (call (Value.ref _) _) _ _ _); first
        | (with_reducible ((with_reducible show wpAny _ _ (call (Value.ref 125) _) _ _ _); k_here; k_dflt (refine' clm_use (fits_in_c _ _ (by assumption) _ _ (by assumption)) (by k_asm) (by k_asm) (by k_asm) (by k_asm) (by k_asm) (by first | exact rfl | assumption) (by ktr_room) (by ktr_units) ?_; k_whole); intro u'z h'z tk'z F'z N'z; (try dsimp only); (try k_fold); (try k_sweep)))
        | fail)
      | ((with_reducible show wpAny _ _ (eval (Expr.Call (Expr.Name (Str.ofString "kind_value") _) _ _ _) _) _ _ _); k_here; refine Call_ ?_)
      | ((with_reducible show wpAny _ _ (eval (Expr.Call (Expr.Name (Str.ofString "thrown") _) _ _ _) _) _ _ _); k_here; refine Call_ ?_)
      | walk1
      | (dsimp only; walk1)
      | (leave1; walk_say "STEP leave1"; (try dsimp only))
      | fail "no step")
  refine retA_i hret rfl (by k_asm) (keeps_all hg' (by k_asm))
theorem converted_bad_c {w : World} (k : Str) (t : Tok) (hk : Kind k) (n : Int) (t' : Tok) (hin : ¬ (lo k ≤ n ∧ n ≤ hi k)) (v : Addr) : Clr w 230 26 [.str k t, .int n t', .ref v] (Str.ofString "InexactError") := by
  unfold Clr
  k_fill
  intro dp un gd cn cs a ccd cl outer A₀ base h₀ L m s Q E p loose mean mg mb B F X T hcs hdp hun hret
  have N := no_news (h₀ := h₀) (h := s.heap) (L := L)
  have hl := klen k hk
  have hb := kbig k hk
  have hw := kw_le k hk
  refine wpAny_call ?_
  k_dflt (refine' own_raw ?k1 ?k2 ?k3 ?k4 ?k5 ?kA ?kF ?kK ?k6 ?k7 ?k8 ?k9 ?kB ?_ ?c2 ?c3 ?c4 ?c5; (case kA => exact rfl); (case kF => exact rfl); (case kK => assumption); (case k1 => k_asm); (case k2 => k_asm); (case k3 => k_asm); (case k4 => exact N); (case k5 => k_asm); (case k6 => k_is); (case k7 => k_is); (case k8 => ktr_room); (case k9 => exact BindsTo.of_eq rfl); (case c5 => decide); (case kB => exact locs rfl); (case c2 => exact rfl); (case c3 => exact rfl); (case c4 => exact rfl); k_whole)
  intro g' L' h' hg' hk1 hup FG' F' N' B' X' T' l1
  (try k_lt l1)
  (try dsimp only)
  (try k_lift B')
  (try k_fold)
  repeat' (first
      | (k_unfold; (try dsimp only))
      | (k_end; kc_close)
      | ((with_reducible show wpAny _ _ (call (Value.ref _) _) _ _ _); first
        | (with_reducible ((with_reducible show wpAny _ _ (call (Value.ref 82) _) _ _ _); k_here; (with_reducible rename News _ _ _ _ => lN9z); k_dflt (refine' clo_useI (by k_asm) (by k_asm) (by k_asm) (by exact own_at lN9z (by k_mem)) (by trivial) (thrown_c _ _ (by decide) _ _ (by first | assumption | simp)) (by k_asm) (by first | exact rfl | assumption) (by ktr_room) (by ktr_units) ?_; k_whole); intro e'z a'z d'z v'z kt'z od'z mA'z x0'z x2'z y0'z y2'z t'z h'z tk'z hO9z hv9z hne9z F'z kN9z; (have N'z := kN9z _ lN9z); clear kN9z; (try dsimp only); (try k_fold); (try k_sweep)))
        | (with_reducible ((with_reducible show wpAny _ _ (call (Value.ref 223) _) _ _ _); k_here; (with_reducible rename News _ _ _ _ => lN9z); k_dflt (refine' clo_useI (by k_asm) (by k_asm) (by k_asm) (by exact no_news) (by trivial) (kind_value_c _ _ (by omega)) (by k_asm) (by first | exact rfl | assumption) (by ktr_room) (by ktr_units) ?_; k_whole); intro q'z xs'z h'z tk'z hP'z F'z kN9z o9z; (have N'z := kN9z _ lN9z); (have o1'z := o9z _ lN9z); clear kN9z o9z; (try simp only [LCg.Off1, and_true] at o1'z); clear hP'z; (try dsimp only); (try k_fold); (try k_sweep)))
        | (with_reducible ((with_reducible show wpAny _ _ (call (Value.ref 125) _) _ _ _); k_here; k_dflt (refine' clm_use (fits_out_c _ _ (by assumption) _ _ (by assumption)) (by k_asm) (by k_asm) (by k_asm) (by k_asm) (by k_asm) (by first | exact rfl | assumption) (by ktr_room) (by ktr_units) ?_; k_whole); intro u'z h'z tk'z F'z N'z; (try dsimp only); (try k_fold); (try k_sweep)))
        | fail)
      | ((with_reducible show wpAny _ _ (eval (Expr.Call (Expr.Name (Str.ofString "kind_value") _) _ _ _) _) _ _ _); k_here; refine Call_ ?_)
      | ((with_reducible show wpAny _ _ (eval (Expr.Call (Expr.Name (Str.ofString "thrown") _) _ _ _) _) _ _ _); k_here; refine Call_ ?_)
      | ((with_reducible show Raised _ _ _); (with_reducible rename News _ _ _ _ => lN9z); refine ⟨_, _, _, rfl, KF_cls (Frag.In.keeps (by k_asm) (Fr.keep (by k_asm))), (lN9z _ (by (try dsimp only); k_mem)).1, ?_⟩)
      | walk1
      | (dsimp only; walk1)
      | (leave1; walk_say "STEP leave1"; (try dsimp only))
      | fail "no step")
  rename NsO _ _ => hO9
  rename News g' L' _ _ => nN9
  exact clr_first hret hg' rfl rfl B' (by k_asm) nN9 (by k_mem) (by k_mem) (by k_mem) (by k_mem) (by assumption) hO9 (by assumption)

/- X8 -/
/-- these objects stand -/
def Stand (cells : List (Addr × Obj)) (h : Heap) : Prop := ∀ p ∈ cells, h.get? p.1 = some p.2
theorem Stand.keeps {cells : List (Addr × Obj)} {h h' : Heap} (x : Stand cells h) (k : ∀ b o, h.get? b = some o → h'.get? b = some o) : Stand cells h' := fun p hp => k _ _ (x p hp)
/-- it raises an error of that name, where the objects stand -/
abbrev Crs (w : World) (f : Addr) (k : Nat) (cells : List (Addr × Obj)) (vs : List Value) (nm : Str) : Prop :=
  ∀ (dp un : Nat) (gd : Option (List Code)) (cn : Str) (cs : Scope) (a : Addr) (ccd : Value) (cl : List (Str × Addr)) (outer : List Env) (A₀ : Around) (base h₀ : Heap) (L : Addr) (m : Str → Option Value) (s : Shared) (Q E : Value → Shared → Prop)
    (p : Program) (loose : List Str) (mean : ExcName → Option Value) (mg mb : Str → Option Value),
    Below A₀ base outer h₀ → Fr h₀ L s.heap m → (KF w.params).In h₀ → Stand cells s.heap → Top p loose mean mg mb h₀ → cs.kind = .function → dp + k < recursionLimit → un + 8 * k < cLine →
      (∀ e h' tk', Thr base s.heap (envX cn cs L a ccd cl :: outer) nm e h' → s.heap.UpToSlots h' → E (.ref e) { s with heap := h', toks := tk' }) → wpAny (model PySem.Challenge.rw_pc0193_01.row.prog w) (ktrTop dp un gd cn cs L a ccd cl outer) (call (.ref f) vs) Q E s
section
variable {M : Model} {A : Around} {E : Value → Shared → Prop} {s : Shared} {h₀ : Heap} {L a : Addr} {m : Str → Option Value} {cn : Str} {cs : Scope} {ccd : Value} {cl : List (Str × Addr)} {x : Str} {pos : Pos} {v : Value} {Q : Value → Shared → Prop} {cells : List (Addr × Obj)} {c : Addr} {o : Obj}
theorem name_stand (F : Fr h₀ L s.heap m) (N : Stand cells h₀) (hc : cl.lookup x = some c) (hm : (c, o) ∈ cells) (hd : o.data = .cell (some v)) (h : Q v s)
    (hk : cs.kind = .function := by rfl) (hx : (envX cn cs L a ccd cl).kindOf x = some .free := by rfl) (hb : (x == ("__debug__" : Str)) = false := by decide) (hn : (x == ("__classdict__" : Str)) = false := by decide) :
    wpAny M A (eval (.Name x pos) (envX cn cs L a ccd cl)) Q E s := wpAny_Name (wpAny_loadName_free hk hx hc ⟨o, F.keep _ _ (N _ hm), hd⟩ h hn) hb
end
local macro_rules | `(tactic| walk_at "eval Name") => `(tactic| (k_here; (with_reducible rename Stand _ _ => lS9); k_dflt (refine' name_stand ?F lS9 ?c ?m ?d ?_ ?a ?b; (case a => rfl); (case b => rfl); (case F => k_asm); (case c => rfl); (case m => k_mem); (case d => k_asm); k_whole)))
section
variable {prog : Program} {w : World} {A A₀ : Around} {s : Shared} {K : Frag} {L : Addr} {h₀ base : Heap} {m mg mb : Str → Option Value} {p : Program} {loose : List Str} {mean : ExcName → Option Value}
/-- a lambda is entered -/
theorem own_lam {env : Env} {outer : List Env} {R : Result → Shared → Prop} {name qual : Str} {params : Arguments} {body : Expr} {scope : Scope} {cl : List (Str × Addr)} {pm ctv : Value} {c' : Addr} {f : Addr} {args : Args} {binds : List (Str × Value)}
    (B : Below A₀ base outer h₀) (F : Fr h₀ L s.heap m) (X₀ : K.In h₀) (T : Top p loose mean mg mb h₀) (hA : A.frames = some (env :: outer)) (hf : env.frame = some L) (hke : env.scope.kind = .function)
    (ho : s.heap.get? f = some (kla_obj name qual params body scope cl pm c' ctv)) (hcd : s.heap.CodeRec (.ref c') qual) (hroom : A.depth < recursionLimit)
    (hbind : bindArgs (kla_fn name qual params body scope cl pm (.ref c') ctv) args = pure binds) (hloc : ∀ y ∈ binds, scope.names.lookup y.1 = some .local)
    (h : ∀ g L' h₁, (∀ b o, s.heap.get? b = some o → b ∉ ([] : List (Addr × Obj)).map (·.1) → g.get? b = some o) → Fr h₀ L g m → Fr g L' h₁ (fun y => binds.reverse.lookup y) → News g L' h₁ [] → Below A base (env :: outer) g → K.In g → Top p loose mean mg mb g →
      wpAny (model prog w) (A.deeper (envX qual scope L' f (.ref c') cl)) (eval body (envX qual scope L' f (.ref c') cl))
        (fun v s' => LeaveK h₀ L m g R v s')
        (fun e s' => wpAny (model prog w) (A.deeper (envX qual scope L' f (.ref c') cl)) (leaving (envX qual scope L' f (.ref c') cl) e) (fun _ s'' => R (.error e) s'') (fun e' s'' => R (.error e') s'') s')
        { s with heap := h₁, toks := s.toks + binds.length })
    (hco : scope.isCoroutine = false) (hgen : scope.isGenerator = false) (hk : scope.kind = .function)
    (hcell : ∀ x ∈ scope.names, x.2 ≠ .cell) : codeAny (model prog w) A (.call (.ref f) args) R s := by
  obtain ⟨FG, BG, st, lv⟩ := groundX (R := R) B F (no_news (h₀ := h₀) (h := s.heap) (L := L)) hA hf hke
  refine kla_callFunE hroom ho rfl hco hgen rfl hcd ?_
  rw [hbind]
  refine wpAny_pure (wpAny_newFunctionEnv hcell hloc (fun h₁ hns hsb => ⟨((T.nolimit).keeps F.keep).fresh _ hsb, ?_⟩) hk)
  show codeAny _ _ (.expr body (envX qual scope s.heap.objs.size f (.ref c') cl)) _ _
  have hk₁ : ∀ b o, s.heap.get? b = some o → h₁.get? b = some o := fun b o e => hsb.extBut b o (Nat.ne_of_lt (Heap.lt_size e)) (Heap.get?_push_of_some _ e)
  exact kla_codeExpr (wpAny_mono (h _ s.heap.objs.size h₁ (fun b o e hb => hideAll_get _ e hb) FG ⟨hns, fun b o e => hk₁ b o (of_hideAll _ e), Nat.le_of_eq (hideAll_size _ _)⟩
    no_news BG (X₀.keeps st) (T.keeps st)) (fun v s' hl => lv _ _ hl) fun _ _ y => y)
end

/- X9 -/

/-- heard: the deed gives -/
theorem heard_ok_c {w : World} (cells : List (Addr × Obj)) (f : Addr) (R : Tok → Value) (hf9 : ∀ h, Stand cells h → FnAt f h) (D : Clo w f 34 [] (Stand cells) [] (RetA R)) : Clo w 315 40 [] (Stand cells) [.ref f] (RetA R) := by
  unfold Clo RetA
  k_fill
  intro dp un gd cn cs a ccd cl outer A₀ base h₀ L m s Q E p loose mean mg mb B F X N hP T hcs hdp hun hret
  refine wpAny_call ?_
  k_dflt (refine' own_plain ?k1 ?k2 ?k3 ?k4 ?k5 ?kA ?kF ?kK ?k6 ?k7 ?k8 ?k9 ?kB ?_ ?c2 ?c3 ?c4 ?c5; (case kA => exact rfl); (case kF => exact rfl); (case kK => assumption); (case k1 => k_asm); (case k2 => k_asm); (case k3 => k_asm); (case k4 => exact N); (case k5 => k_asm); (case k6 => k_is); (case k7 => k_is); (case k8 => ktr_room); (case k9 => exact BindsTo.of_eq rfl); (case c5 => decide); (case kB => exact locs rfl); (case c2 => exact rfl); (case c3 => exact rfl); (case c4 => exact rfl); k_whole)
  intro g' L' h' hg' FG' F' N' B' X' T' l1
  (try k_lt l1)
  have hS9 : Stand cells { s with heap := h', toks := s.toks + 1 }.heap := (hP.keeps fun b o e => hg' b o e (fun hm => nomatch hm)).keeps (Fr.keep F')
  (try dsimp only)
  (try k_lift B')
  (try k_fold)
  refine wpAny_execs_cons ?_
  refine wpAny_Try_except ?_
  k_steps
  refine callWith_F0 (hf9 _ (by assumption)) ?_
  (try dsimp only [List.nil_append])
  k_dflt (refine' clo_use D ?k1 ?k2 ?k3 ?k4 ?kP ?k5 ?k6 ?k7 ?k8 ?_)
  case k2 => k_asm
  case k3 => k_asm
  case k1 => k_asm
  case k4 => exact no_news
  case kP => assumption
  case k5 => k_asm
  case k6 => exact rfl
  case k7 => ktr_room
  case k8 => ktr_units
  (intro t9 h9 tk9 F9 kN9; (have N9 := kN9 _ no_news))
  (try dsimp only)
  clear kN9
  (try k_fold); (try k_sweep)
  k_steps
  exact hret _ _ _ (by k_asm) (keeps_all hg' F9)

theorem crs_use {w : World} {f : Addr} {k : Nat} {cells : List (Addr × Obj)} {vs : List Value} {nm : Str}
  {dp un : Nat} {gd : Option (List Code)} {cn : Str} {cs : Scope} {a : Addr} {ccd : Value} {cl : List (Str × Addr)} {outer : List Env} {A₀ : Around} {base h₀ : Heap} {L : Addr} {m : Str → Option Value} {s : Shared} {Q E : Value → Shared → Prop}
    {p : Program} {loose : List Str} {mean : ExcName → Option Value} {mg mb : Str → Option Value} (C : Crs w f k cells vs nm) (B : Below A₀ base outer h₀) (F : Fr h₀ L s.heap m) (X : (KF w.params).In h₀) (S : Stand cells s.heap) (T : Top p loose mean mg mb h₀) (hcs : cs.kind = .function) (hdp : dp + k < recursionLimit) (hun : un + 8 * k < cLine)
    (r : ∀ e h' tk', Thr base s.heap (envX cn cs L a ccd cl :: outer) nm e h' → s.heap.UpToSlots h' → E (.ref e) { s with heap := h', toks := tk' }) : wpAny (model PySem.Challenge.rw_pc0193_01.row.prog w) (ktrTop dp un gd cn cs L a ccd cl outer) (call (.ref f) vs) Q E s :=
  C _ _ _ _ _ _ _ _ _ _ _ _ _ _ _ _ _ _ _ _ _ _ B F X S T hcs hdp hun r
/-- heard: the deed raises -/
theorem heard_bad_c {w : World} (cells : List (Addr × Obj)) (f : Addr) (nm : Str) (hf9 : ∀ h, Stand cells h → FnAt f h) (D : Crs w f 34 cells [] nm)
    (dp un : Nat) (gd : Option (List Code)) (cn : Str) (cs : Scope) (a : Addr) (ccd : Value) (cl : List (Str × Addr)) (outer : List Env) (A₀ : Around) (base h₀ : Heap) (L : Addr) (m : Str → Option Value) (s : Shared) (Q E : Value → Shared → Prop)
    (p : Program) (loose : List Str) (mean : ExcName → Option Value) (mg mb : Str → Option Value)
    (B : Below A₀ base outer h₀) (F : Fr h₀ L s.heap m) (X : (KF w.params).In h₀) (hP : Stand cells s.heap) (T : Top p loose mean mg mb h₀) (hcs : cs.kind = .function) (hdp : dp + 40 < recursionLimit) (hun : un + 8 * 40 < cLine) (XB : (KF w.params).In base) (TB : Top p loose mean mg mb base)
    (hret : ∀ t h₀' h' tk', KtsTurn (outer.filterMap (·.frame)) h₀ h₀' → Fr h₀' L h' m → Below A₀ base outer h₀' → (KF w.params).In h₀' → Top p loose mean mg mb h₀' → (∀ nw, News h₀ L s.heap nw → News h₀' L h' nw) → Q (.str nm t) { s with heap := h', toks := tk' }) :
    wpAny (model PySem.Challenge.rw_pc0193_01.row.prog w) (ktrTop dp un gd cn cs L a ccd cl outer) (call (.ref 315) [.ref f]) Q E s := by
  have N := no_news (h₀ := h₀) (h := s.heap) (L := L)
  refine wpAny_call ?_
  k_dflt (refine' own_raw ?k1 ?k2 ?k3 ?k4 ?k5 ?kA ?kF ?kK ?k6 ?k7 ?k8 ?k9 ?kB ?_ ?c2 ?c3 ?c4 ?c5; (case kA => exact rfl); (case kF => exact rfl); (case kK => assumption); (case k1 => k_asm); (case k2 => k_asm); (case k3 => k_asm); (case k4 => exact N); (case k5 => k_asm); (case k6 => k_is); (case k7 => k_is); (case k8 => ktr_room); (case k9 => exact BindsTo.of_eq rfl); (case c5 => decide); (case kB => exact locs rfl); (case c2 => exact rfl); (case c3 => exact rfl); (case c4 => exact rfl); k_whole)
  intro g' L' h' hg' hk1 hup FG' F' N' B' X' T' l1
  (try k_lt l1)
  (try dsimp only)
  have hS9 : Stand cells { s with heap := h', toks := s.toks + 1 }.heap := (hP.keeps fun b o e => hg' b o e (fun hm => nomatch hm)).keeps (Fr.keep F')
  (try k_lift B')
  (try k_fold)
  refine wpAny_execs_cons ?_
  refine wpAny_Try_except ?_
  repeat' (first
      | (k_unfold; (try dsimp only))
      | (k_end; kc_close)
      | ((with_reducible show Raised _ _ _); (with_reducible rename News _ _ _ _ => lN9z); refine ⟨_, _, _, rfl, KF_cls (Frag.In.keeps (by k_asm) (Fr.keep (by k_asm))), (lN9z _ (by (try dsimp only); k_mem)).1, ?_⟩)
      | walk1
      | (dsimp only; walk1)
      | (leave1; walk_say "STEP leave1"; (try dsimp only))
      | fail "no step")
  refine callWith_F0 (hf9 _ (by assumption)) ?_
  (try dsimp only [List.nil_append])
  k_dflt (refine' crs_use D ?k1 ?k2 ?k3 ?kP ?k5 ?k6 ?k7 ?k8 ?_)
  case k2 => k_asm
  case k3 => k_asm
  case k1 => k_asm
  case kP => assumption
  case k5 => k_asm
  case k6 => exact rfl
  case k7 => ktr_room
  case k8 => ktr_units
  intro e9 h9 tk9 R9 up9
  refine thr_caught R9 F' B' up9 XB TB (by k_is) (KF_cls XB) fun h8 g8 d8 v8 kt8 vs8 od8 mA8 x0 x2 y0 y2 t8 tk8 TT8 F8 kN8 hO8 hv8 B8 X8 T8 => ?_
  have N8 := kN8 _ no_news
  clear F' B' X' T'
  repeat' (first
      | (k_unfold; (try dsimp only))
      | (k_end; kc_close)
      | ((with_reducible show Raised _ _ _); (with_reducible rename News _ _ _ _ => lN9z); refine ⟨_, _, _, rfl, KF_cls (Frag.In.keeps (by k_asm) (Fr.keep (by k_asm))), (lN9z _ (by (try dsimp only); k_mem)).1, ?_⟩)
      | walk1
      | (dsimp only; walk1)
      | (leave1; walk_say "STEP leave1"; (try dsimp only))
      | fail "no step")
  refine exc_getAttr (X8.keeps (Fr.keep F8)) KF_ga KF_gattr KF_value (KF_cls (X8.keeps (Fr.keep F8))) (N8 _ (.head _)).1 rfl rfl rfl (Heap.Ns1.ns (hO8.at (N8 _ (.tail _ (.head _))).1)) hv8 rfl ?_
  (try dsimp only)
  repeat' (first
      | (k_unfold; (try dsimp only))
      | (k_end; kc_close)
      | ((with_reducible show Raised _ _ _); (with_reducible rename News _ _ _ _ => lN9z); refine ⟨_, _, _, rfl, KF_cls (Frag.In.keeps (by k_asm) (Fr.keep (by k_asm))), (lN9z _ (by (try dsimp only); k_mem)).1, ?_⟩)
      | walk1
      | (dsimp only; walk1)
      | (leave1; walk_say "STEP leave1"; (try dsimp only))
      | fail "no step")
  (with_reducible rename Fr g8 _ _ _ => F10)
  obtain ⟨h0', T0, F0, B0, kN0⟩ := back_turn B F N rfl hg' TT8 F10
  exact hret t8 h0' _ _ T0 F0 B0 (XB.keeps B0.stays) (TB.keeps B0.stays) fun nw hn => kN0 nw hn fun p hp hm => nomatch hm

/- X10a -/
section
variable {A₀ : Around} {base h₀ g g' h' : Heap} {L L' : Addr} {m m' : Str → Option Value} {s : Shared} {env : Env} {own all : List (Addr × Obj)} {Q : Value → Shared → Prop} {tk' : Nat}
theorem back_top (B : Below A₀ base [] h₀) (F : Fr h₀ L s.heap m) (N : News h₀ L s.heap own) (hf : env.frame = some L) (hg : ∀ b o, s.heap.get? b = some o → b ∉ own.map (·.1) → g.get? b = some o)
    (T : KtsTurn (([env] : List Env).filterMap (·.frame)) g g') (F' : Fr g' L' h' m') :
    Fr h₀ L h' m ∧ ∀ nw, News h₀ L s.heap nw → (∀ p ∈ nw, p.1 ∉ own.map (·.1)) → News h₀ L h' nw := by
  obtain ⟨h0', T0, F0, _, kN⟩ := back_turn B F N hf hg T F'
  have up : ∀ b o, h₀.get? b = some o → h0'.get? b = some o := fun b o e => T0.other b o e (fun hm => nomatch hm)
  refine ⟨⟨F0.ns, fun b o e => F0.keep b o (up b o e), by rw [← T0.size]; exact F0.above⟩, fun nw hn off p hp => ?_⟩
  have z := kN nw hn off p hp
  refine ⟨z.1, z.2.1, ?_⟩
  cases q : h₀.get? p.1 with
  | none => rfl
  | some o => have := up _ _ q; rw [z.2.2] at this; cases this
theorem lam_miss {T' oc : Obj} {c' : Addr}
    (hret : ∀ (T : Obj) (d : Addr) (od : Obj) (h' : Heap) (tk' : Nat), LamOk T d od → Fr h₀ L h' m → (∀ nw, News h₀ L s.heap nw → (∀ p ∈ nw, p.1 ≠ 317) → News h₀ L h' ((317, T) :: (d, od) :: nw)) → (∀ nw, News h₀ L s.heap nw → (∀ p ∈ nw, p.1 ≠ 317) → ∀ p ∈ nw, p.1 ≠ d) → Q (.bool true) { s with heap := h', toks := tk' })
    (B : Below A₀ base [] h₀) (F : Fr h₀ L s.heap m) (N : News h₀ L s.heap [(317, tabObj #[])]) (hf : env.frame = some L) (hg : ∀ b o, s.heap.get? b = some o → b ∉ ([(317, tabObj #[])] : List (Addr × Obj)).map (·.1) → g.get? b = some o)
    (T : KtsTurn (([env] : List Env).filterMap (·.frame)) g g') (F' : Fr g' L' h' m') (N' : News g' L' h' all) (m1 : (317, T') ∈ all) (m2 : (c', oc) ∈ all) (hl : LamOk T' c' oc) : Q (.bool true) { s with heap := h', toks := tk' } := by
  obtain ⟨F0, kN⟩ := back_top B F N hf hg T F'
  have n0 := N _ (.head _)
  have off : ∀ b o, s.heap.get? b = some o → b ≠ 317 → b ≠ c' := fun b o e hb z => by
    have h1 := hg b o e (by simp only [List.map_cons, List.map_nil, List.mem_singleton]; exact hb)
    obtain ⟨sl, hs⟩ := T.up h1
    rw [z, (N' _ m2).2.2] at hs; cases hs
  have o0 : ∀ b o, h₀.get? b = some o → b ≠ 317 := fun b o e z => by rw [z, n0.2.2] at e; cases e
  obtain ⟨oL, _, _, hoL, _⟩ := F.ns
  refine hret T' c' oc h' tk' hl F0 (fun nw hn hoff p hp => ?_) fun nw hn hoff p hp => off _ _ (hn p hp).1 (hoff p hp)
  rcases List.mem_cons.mp hp with rfl | hp
  · exact ⟨(N' _ m1).1, n0.2⟩
  rcases List.mem_cons.mp hp with rfl | hp
  · refine ⟨(N' _ m2).1, fun z => off _ _ hoL (fun q => n0.2.1 q.symm) z.symm, ?_⟩
    cases q : h₀.get? c' with
    | none => rfl
    | some o => exact absurd rfl (off _ _ (F.keep _ _ q) (o0 _ _ q))
  · exact kN nw hn (fun p hp => by simp only [List.map_cons, List.map_nil, List.mem_singleton]; exact hoff p hp) p hp
theorem lam_hit {T' oc : Obj} {d d₀ : Addr}
    (hret : ∀ (T : Obj) (d : Addr) (od : Obj) (h' : Heap) (tk' : Nat), LamOk T d od → Fr h₀ L h' m → (∀ nw, News h₀ L s.heap nw → (∀ p ∈ nw, p.1 ≠ 317) → News h₀ L h' ((317, T) :: (d, od) :: nw)) → (∀ nw, News h₀ L s.heap nw → (∀ p ∈ nw, p.1 ≠ d₀) → ∀ p ∈ nw, p.1 ≠ d) → Q (.bool true) { s with heap := h', toks := tk' })
    (e0 : d₀ = d) (B : Below A₀ base [] h₀) (F : Fr h₀ L s.heap m) (N : News h₀ L s.heap [(317, T'), (d, oc)]) (hf : env.frame = some L) (hg : ∀ b o, s.heap.get? b = some o → b ∉ ([(317, T'), (d, oc)] : List (Addr × Obj)).map (·.1) → g.get? b = some o)
    (T : KtsTurn (([env] : List Env).filterMap (·.frame)) g g') (F' : Fr g' L' h' m') (N' : News g' L' h' all) (m1 : (317, T') ∈ all) (m2 : (d, oc) ∈ all) (hl : LamOk T' d oc) : Q (.bool true) { s with heap := h', toks := tk' } := by
  subst e0
  obtain ⟨F0, kN⟩ := back_top B F N hf hg T F'
  refine hret T' d₀ oc h' tk' hl F0 (fun nw hn hoff p hp => ?_) fun nw hn hoff p hp => hoff p hp
  have h1 := N _ (.head _)
  have h2 := N _ (.tail _ (.head _))
  rcases List.mem_cons.mp hp with rfl | hp
  · exact ⟨(N' _ m1).1, h1.2⟩
  rcases List.mem_cons.mp hp with rfl | hp
  · exact ⟨(N' _ m2).1, h2.2⟩
  · by_cases hd : p.1 = d₀
    · have z := hn p hp
      have e := z.1
      rw [hd, h2.1] at e
      refine ⟨?_, z.2⟩
      rw [hd, ← Option.some.inj e]
      exact (N' _ m2).1
    · exact kN [p] (fun q hq => by rw [List.mem_singleton.mp hq]; exact hn p hp) (fun q hq => by
        rw [List.mem_singleton.mp hq]
        simp only [List.map_cons, List.map_nil, List.mem_cons, List.not_mem_nil, or_false]
        exact fun z => z.elim (hoff p hp) hd) p (.head _)
theorem below_self (B : Below A₀ base [] h₀) : Below A₀ h₀ [] h₀ := ⟨B.stack, fun _ _ e => e, trivial⟩
end

/- X10 -/

theorem conv_miss {w : World} (k : Str) (t : Tok) (n : Int) (t1 : Tok) (hk : Kind k) (hB : Builtin.Int.intBits n ≤ 1000) (hin : lo k ≤ n ∧ n ≤ hi k) : Clo0 w 322 48 [(317, tabObj #[])] (fun h => CodeHd h 321 317) [.str k t, .int n t1] (RetLam 317) := by
  unfold Clo0 RetLam
  k_fill
  intro dp un gd cn cs a ccd cl A₀ base h₀ L m s Q E p loose mean mg mb B F X N hP T hcs hdp hun hret
  have hl := klen k hk
  have hb := kbig k hk
  have hw := kw_le k hk
  have lh := lohi k hk
  have B0 := below_self B
  refine wpAny_call ?_
  k_dflt (refine' own_raw_cells ?k1 ?k2 ?k3 ?k4 ?k5 ?kA ?kF ?kK ?k6 ?k7 ?k8 ?k9 ?kB ?kD ?_ ?c2 ?c3 ?c4; (case kA => exact rfl); (case kF => exact rfl); (case kK => assumption); (case k1 => exact B0); (case k2 => k_asm); (case k3 => k_asm); (case k4 => exact N); (case k5 => k_asm); (case k6 => k_is); (case k7 => k_is); (case k8 => ktr_room); (case k9 => exact BindsTo.of_eq rfl); (case kB => exact rfl); (case kD => decide +kernel); (case c2 => exact rfl); (case c3 => exact rfl); (case c4 => exact rfl); k_whole)
  intro g' L' h' tk' cells' hg' hup FG' F' N' Y' B' X' T' l1
  (try k_lt l1)
  k_cells Y'
  (try simp only [List.cons_append, List.nil_append] at N')
  have hC9 : CodeHd g' 321 317 := hP.keeps (fun b o e => hg' b o (F.keep _ _ e) (fun hm => by obtain ⟨q, hq, z⟩ := List.mem_map.mp hm; have := (N q hq).2.2; rw [z, e] at this; cases this))
  (try dsimp only)
  (try k_lift B')
  (try k_fold)
  repeat' (first
      | (k_unfold; (try dsimp only))
      | (k_end; kc_close)
      | ((with_reducible show wpAny _ _ (call (Value.ref _) _) _ _ _); first
        | ((with_reducible show wpAny _ _ (call (Value.ref 315) _) _ _ _); refine unhold ?_)
        | (with_reducible ((with_reducible show wpAny _ _ (call (Value.ref 230) _) _ _ _); k_here; (with_reducible rename News _ _ _ _ => lN9z); k_dflt (refine' clo_useI (by k_asm) (by k_asm) (by k_asm) (by exact no_news) (by trivial) (converted_ok_c _ _ (by assumption) _ _ (by assumption) _) (by k_asm) (by first | exact rfl | assumption) (by ktr_room) (by ktr_units) ?_; k_whole); intro u'z h'z tk'z F'z kN9z; (have N'z := kN9z _ lN9z); clear kN9z; (try dsimp only); (try k_fold); (try k_sweep)))
        | (with_reducible ((with_reducible show wpAny _ _ (call (Value.ref 251) _) _ _ _); k_here; k_dflt (refine' clm_use (law_ends_c _ _ (by assumption)) (by k_asm) (by k_asm) (by k_asm) (by k_asm) (by k_asm) (by first | exact rfl | assumption) (by ktr_room) (by ktr_units) ?_; k_whole); intro q'z t1'z t2'z h'z tk'z F'z N'z l1'z; (try k_lt l1'z); (try dsimp only); (try k_fold); (try k_sweep)))
        | fail)
      | ((with_reducible show wpAny _ _ (eval (Expr.Call (Expr.Name (Str.ofString "converted") _) _ _ _) _) _ _ _); k_here; refine Call_ ?_)
      | ((with_reducible show wpAny _ _ (eval (Expr.Call (Expr.Name (Str.ofString "_law_heard") _) _ _ _) _) _ _ _); k_here; refine Call_ ?_)
      | walk1
      | (dsimp only; walk1)
      | (leave1; walk_say "STEP leave1"; (try dsimp only))
      | fail "no step")
  unfold Hold
  (with_reducible rename News g' L' _ _ => nN9)
  have hS9 := fun p hp => (nN9 p hp).1
  rename (_ : Obj).data = Data.fields _ => dd1
  rename (_ : Array Value)[1]? = some _ => dd2
  k_dflt (refine' clo_use (heard_ok_c _ _ (fun t => .int n t) ?hf ?D) ?k1 ?k2 ?k3 ?k4 ?kP ?k5 ?k6 ?k7 ?k8 ?_)
  case kP => exact hS9
  case k2 => k_asm
  case k3 => k_asm
  case k1 => k_asm
  case k4 => exact no_news
  case k5 => k_asm
  case k6 => exact rfl
  case k7 => ktr_room
  case k8 => ktr_units
  case hf => exact fun h hs => ⟨_, _, _, _, hs _ (.head _)⟩
  case D =>
    clear hret nN9 hS9 F X N T B hun hdp
    unfold Clo RetA
    intro dp2 un2 gd2 cn2 cs2 a2 ccd2 cl2 outer2 A2 base2 h2 L2 m2 s2 Q2 E2 p2 loose2 mean2 mg2 mb2 B2 F2 X2 N2 hP2 T2 hcs2 hdp2 hun2 hret2
    refine wpAny_call ?_
    k_dflt (refine' own_lam B2 F2 X2 T2 ?kA ?kF ?kK (hP2 _ (.head _)) ⟨_, _, _, _, rfl, (hP2 _ (.tail _ (.head _))), dd1, dd2⟩ ?k8 ?k9 ?kB ?_ ?c2 ?c3 ?c4 ?c5; (case kA => exact rfl); (case kF => exact rfl); (case kK => assumption); (case k8 => ktr_room); (case k9 => exact rfl); (case c5 => decide); (case kB => exact locs rfl); (case c2 => exact rfl); (case c3 => exact rfl); (case c4 => exact rfl); k_whole)
    intro g3 L3 h3 hg3 FG3 F3 N3 B3 X3 T3
    have hS3 := Stand.keeps (h' := g3) hP2 fun b o e => hg3 b o e (fun hm => nomatch hm)
    (try dsimp only)
    (try k_lift B3)
    (try k_fold)
    repeat' (first
        | (k_unfold; (try dsimp only))
        | (k_end; kc_close)
        | ((with_reducible show wpAny _ _ (call (Value.ref _) _) _ _ _); first
          | ((with_reducible show wpAny _ _ (call (Value.ref 315) _) _ _ _); refine unhold ?_)
          | (with_reducible ((with_reducible show wpAny _ _ (call (Value.ref 230) _) _ _ _); k_here; (with_reducible rename News _ _ _ _ => lN9z); k_dflt (refine' clo_useI (by k_asm) (by k_asm) (by k_asm) (by exact no_news) (by trivial) (converted_ok_c _ _ (by assumption) _ _ (by assumption) _) (by k_asm) (by first | exact rfl | assumption) (by ktr_room) (by ktr_units) ?_; k_whole); intro u'z h'z tk'z F'z kN9z; (have N'z := kN9z _ lN9z); clear kN9z; (try dsimp only); (try k_fold); (try k_sweep)))
          | (with_reducible ((with_reducible show wpAny _ _ (call (Value.ref 251) _) _ _ _); k_here; k_dflt (refine' clm_use (law_ends_c _ _ (by assumption)) (by k_asm) (by k_asm) (by k_asm) (by k_asm) (by k_asm) (by first | exact rfl | assumption) (by ktr_room) (by ktr_units) ?_; k_whole); intro q'z t1'z t2'z h'z tk'z F'z N'z l1'z; (try k_lt l1'z); (try dsimp only); (try k_fold); (try k_sweep)))
          | fail)
        | ((with_reducible show wpAny _ _ (eval (Expr.Call (Expr.Name (Str.ofString "converted") _) _ _ _) _) _ _ _); k_here; refine Call_ ?_)
        | ((with_reducible show wpAny _ _ (eval (Expr.Call (Expr.Name (Str.ofString "_law_heard") _) _ _ _) _) _ _ _); k_here; refine Call_ ?_)
        | walk1
        | (dsimp only; walk1)
        | (leave1; walk_say "STEP leave1"; (try dsimp only))
        | fail "no step")
    refine retA_i hret2 rfl (by k_asm) (keeps_all hg3 (by k_asm))
  intro t9 h9 tk9 F9 kN9
  have N9 := kN9 _ nN9
  clear kN9
  (try dsimp only); (try k_fold); (try k_sweep)
  repeat' (first
      | (k_unfold; (try dsimp only))
      | (k_end; kc_close)
      | ((with_reducible show wpAny _ _ (call (Value.ref _) _) _ _ _); first
        | ((with_reducible show wpAny _ _ (call (Value.ref 315) _) _ _ _); refine unhold ?_)
        | (with_reducible ((with_reducible show wpAny _ _ (call (Value.ref 230) _) _ _ _); k_here; (with_reducible rename News _ _ _ _ => lN9z); k_dflt (refine' clo_useI (by k_asm) (by k_asm) (by k_asm) (by exact no_news) (by trivial) (converted_ok_c _ _ (by assumption) _ _ (by assumption) _) (by k_asm) (by first | exact rfl | assumption) (by ktr_room) (by ktr_units) ?_; k_whole); intro u'z h'z tk'z F'z kN9z; (have N'z := kN9z _ lN9z); clear kN9z; (try dsimp only); (try k_fold); (try k_sweep)))
        | (with_reducible ((with_reducible show wpAny _ _ (call (Value.ref 251) _) _ _ _); k_here; k_dflt (refine' clm_use (law_ends_c _ _ (by assumption)) (by k_asm) (by k_asm) (by k_asm) (by k_asm) (by k_asm) (by first | exact rfl | assumption) (by ktr_room) (by ktr_units) ?_; k_whole); intro q'z t1'z t2'z h'z tk'z F'z N'z l1'z; (try k_lt l1'z); (try dsimp only); (try k_fold); (try k_sweep)))
        | fail)
      | ((with_reducible show wpAny _ _ (eval (Expr.Call (Expr.Name (Str.ofString "converted") _) _ _ _) _) _ _ _); k_here; refine Call_ ?_)
      | ((with_reducible show wpAny _ _ (eval (Expr.Call (Expr.Name (Str.ofString "_law_heard") _) _ _ _) _) _ _ _); k_here; refine Call_ ?_)
      | walk1
      | (dsimp only; walk1)
      | (leave1; walk_say "STEP leave1"; (try dsimp only))
      | fail "no step")
  rw [show (n == n) = true from beq_self_eq_true n]
  exact lam_miss (env := envX cn cs L a ccd cl) hret B0 F N rfl hg' KtsTurn.refl F9 N9 (by k_mem) (by k_mem) (lamOk_some dd1 dd2)

theorem conv_miss_bad1 {w : World} (k : Str) (t : Tok) (n : Int) (t1 : Tok) (hk : Kind k) (hB : Builtin.Int.intBits n ≤ 1000) (hin : n < lo k) : Clo0 w 322 48 [(317, tabObj #[])] (fun h => CodeHd h 321 317) [.str k t, .int n t1] (RetLam 317) := by
  unfold Clo0 RetLam
  k_fill
  intro dp un gd cn cs a ccd cl A₀ base h₀ L m s Q E p loose mean mg mb B F X N hP T hcs hdp hun hret
  have hl := klen k hk
  have hb := kbig k hk
  have hw := kw_le k hk
  have lh := lohi k hk
  have B0 := below_self B
  have hin9 : ¬ (lo k ≤ n ∧ n ≤ hi k) := fun z => by omega
  refine wpAny_call ?_
  k_dflt (refine' own_raw_cells ?k1 ?k2 ?k3 ?k4 ?k5 ?kA ?kF ?kK ?k6 ?k7 ?k8 ?k9 ?kB ?kD ?_ ?c2 ?c3 ?c4; (case kA => exact rfl); (case kF => exact rfl); (case kK => assumption); (case k1 => exact B0); (case k2 => k_asm); (case k3 => k_asm); (case k4 => exact N); (case k5 => k_asm); (case k6 => k_is); (case k7 => k_is); (case k8 => ktr_room); (case k9 => exact BindsTo.of_eq rfl); (case kB => exact rfl); (case kD => decide +kernel); (case c2 => exact rfl); (case c3 => exact rfl); (case c4 => exact rfl); k_whole)
  intro g' L' h' tk' cells' hg' hup FG' F' N' Y' B' X' T' l1
  (try k_lt l1)
  k_cells Y'
  (try simp only [List.cons_append, List.nil_append] at N')
  have hC9 : CodeHd g' 321 317 := hP.keeps (fun b o e => hg' b o (F.keep _ _ e) (fun hm => by obtain ⟨q, hq, z⟩ := List.mem_map.mp hm; have := (N q hq).2.2; rw [z, e] at this; cases this))
  (try dsimp only)
  (try k_lift B')
  (try k_fold)
  repeat' (first
      | (k_unfold; (try dsimp only))
      | (k_end; kc_close)
      | ((with_reducible show wpAny _ _ (call (Value.ref _) _) _ _ _); first
        | ((with_reducible show wpAny _ _ (call (Value.ref 315) _) _ _ _); refine unhold ?_)
        | (with_reducible ((with_reducible show wpAny _ _ (call (Value.ref 230) _) _ _ _); k_here; k_dflt (refine' clr_use (converted_bad_c _ _ (by assumption) _ _ (by assumption) _) (by k_asm) (by k_asm) (by k_asm) (by k_asm) (by first | exact rfl | assumption) (by ktr_room) (by ktr_units) ?_; k_whole); intro e'z h'z tk'z R'z up'z; (try dsimp only)))
        | (with_reducible ((with_reducible show wpAny _ _ (call (Value.ref 251) _) _ _ _); k_here; k_dflt (refine' clm_use (law_ends_c _ _ (by assumption)) (by k_asm) (by k_asm) (by k_asm) (by k_asm) (by k_asm) (by first | exact rfl | assumption) (by ktr_room) (by ktr_units) ?_; k_whole); intro q'z t1'z t2'z h'z tk'z F'z N'z l1'z; (try k_lt l1'z); (try dsimp only); (try k_fold); (try k_sweep)))
        | fail)
      | ((with_reducible show wpAny _ _ (eval (Expr.Call (Expr.Name (Str.ofString "converted") _) _ _ _) _) _ _ _); k_here; refine Call_ ?_)
      | ((with_reducible show wpAny _ _ (eval (Expr.Call (Expr.Name (Str.ofString "_law_heard") _) _ _ _) _) _ _ _); k_here; refine Call_ ?_)
      | walk1
      | (dsimp only; walk1)
      | (leave1; walk_say "STEP leave1"; (try dsimp only))
      | fail "no step")
  unfold Hold
  (with_reducible rename News g' L' _ _ => nN9)
  have hS9 := fun p hp => (nN9 p hp).1
  rename (_ : Obj).data = Data.fields _ => dd1
  rename (_ : Array Value)[1]? = some _ => dd2
  k_dflt (refine' heard_bad_c _ _ (Str.ofString "InexactError") ?hf ?D _ _ _ _ _ _ _ _ _ _ _ _ _ _ _ _ _ _ _ _ _ _ ?k1 ?k2 ?k3 ?kP ?k5 ?k6 ?k7 ?k8 ?XB ?TB ?_)
  case kP => exact hS9
  case k2 => k_asm
  case k3 => k_asm
  case k1 => k_asm
  case k5 => k_asm
  case k6 => exact rfl
  case k7 => ktr_room
  case k8 => ktr_units
  case XB => exact X
  case TB => exact T
  case hf => exact fun h hs => ⟨_, _, _, _, hs _ (.head _)⟩
  case D =>
    clear hret nN9 hS9 F X N T B hun hdp
    unfold Crs
    intro dp2 un2 gd2 cn2 cs2 a2 ccd2 cl2 outer2 A2 base2 h2 L2 m2 s2 Q2 E2 p2 loose2 mean2 mg2 mb2 B2 F2 X2 hP2 T2 hcs2 hdp2 hun2 hret2
    refine wpAny_call ?_
    k_dflt (refine' own_lam B2 F2 X2 T2 ?kA ?kF ?kK (hP2 _ (.head _)) ⟨_, _, _, _, rfl, (hP2 _ (.tail _ (.head _))), dd1, dd2⟩ ?k8 ?k9 ?kB ?_ ?c2 ?c3 ?c4 ?c5; (case kA => exact rfl); (case kF => exact rfl); (case kK => assumption); (case k8 => ktr_room); (case k9 => exact rfl); (case c5 => decide); (case kB => exact locs rfl); (case c2 => exact rfl); (case c3 => exact rfl); (case c4 => exact rfl); k_whole)
    intro g3 L3 h3 hg3 FG3 F3 N3 B3 X3 T3
    have hS3 := Stand.keeps (h' := g3) hP2 fun b o e => hg3 b o e (fun hm => nomatch hm)
    (try dsimp only)
    (try k_lift B3)
    (try k_fold)
    repeat' (first
        | (k_unfold; (try dsimp only))
        | (k_end; kc_close)
        | ((with_reducible show wpAny _ _ (call (Value.ref _) _) _ _ _); first
          | ((with_reducible show wpAny _ _ (call (Value.ref 315) _) _ _ _); refine unhold ?_)
          | (with_reducible ((with_reducible show wpAny _ _ (call (Value.ref 230) _) _ _ _); k_here; k_dflt (refine' clr_use (converted_bad_c _ _ (by assumption) _ _ (by assumption) _) (by k_asm) (by k_asm) (by k_asm) (by k_asm) (by first | exact rfl | assumption) (by ktr_room) (by ktr_units) ?_; k_whole); intro e'z h'z tk'z R'z up'z; (try dsimp only)))
          | (with_reducible ((with_reducible show wpAny _ _ (call (Value.ref 251) _) _ _ _); k_here; k_dflt (refine' clm_use (law_ends_c _ _ (by assumption)) (by k_asm) (by k_asm) (by k_asm) (by k_asm) (by k_asm) (by first | exact rfl | assumption) (by ktr_room) (by ktr_units) ?_; k_whole); intro q'z t1'z t2'z h'z tk'z F'z N'z l1'z; (try k_lt l1'z); (try dsimp only); (try k_fold); (try k_sweep)))
          | fail)
        | ((with_reducible show wpAny _ _ (eval (Expr.Call (Expr.Name (Str.ofString "converted") _) _ _ _) _) _ _ _); k_here; refine Call_ ?_)
        | ((with_reducible show wpAny _ _ (eval (Expr.Call (Expr.Name (Str.ofString "_law_heard") _) _ _ _) _) _ _ _); k_here; refine Call_ ?_)
        | walk1
        | (dsimp only; walk1)
        | (leave1; walk_say "STEP leave1"; (try dsimp only))
        | fail "no step")
    exact clr_on hret2 hg3 rfl B3 (by k_asm) (by assumption) (by assumption)
  intro t9 h09 h9 tk9 T9 F9 B9 X9 P9 kN9
  have N9 := kN9 _ nN9
  clear kN9
  (try dsimp only); (try k_fold); (try k_sweep)
  repeat' (first
      | (k_unfold; (try dsimp only))
      | (k_end; kc_close)
      | ((with_reducible show wpAny _ _ (call (Value.ref _) _) _ _ _); first
        | ((with_reducible show wpAny _ _ (call (Value.ref 315) _) _ _ _); refine unhold ?_)
        | (with_reducible ((with_reducible show wpAny _ _ (call (Value.ref 230) _) _ _ _); k_here; k_dflt (refine' clr_use (converted_bad_c _ _ (by assumption) _ _ (by assumption) _) (by k_asm) (by k_asm) (by k_asm) (by k_asm) (by first | exact rfl | assumption) (by ktr_room) (by ktr_units) ?_; k_whole); intro e'z h'z tk'z R'z up'z; (try dsimp only)))
        | (with_reducible ((with_reducible show wpAny _ _ (call (Value.ref 251) _) _ _ _); k_here; k_dflt (refine' clm_use (law_ends_c _ _ (by assumption)) (by k_asm) (by k_asm) (by k_asm) (by k_asm) (by k_asm) (by first | exact rfl | assumption) (by ktr_room) (by ktr_units) ?_; k_whole); intro q'z t1'z t2'z h'z tk'z F'z N'z l1'z; (try k_lt l1'z); (try dsimp only); (try k_fold); (try k_sweep)))
        | fail)
      | ((with_reducible show wpAny _ _ (eval (Expr.Call (Expr.Name (Str.ofString "converted") _) _ _ _) _) _ _ _); k_here; refine Call_ ?_)
      | ((with_reducible show wpAny _ _ (eval (Expr.Call (Expr.Name (Str.ofString "_law_heard") _) _ _ _) _) _ _ _); k_here; refine Call_ ?_)
      | walk1
      | (dsimp only; walk1)
      | (leave1; walk_say "STEP leave1"; (try dsimp only))
      | fail "no step")
  exact lam_miss (env := envX cn cs L a ccd cl) hret B0 F N rfl hg' T9 F9 N9 (by k_mem) (by k_mem) (lamOk_some dd1 dd2)

theorem conv_miss_bad2 {w : World} (k : Str) (t : Tok) (n : Int) (t1 : Tok) (hk : Kind k) (hB : Builtin.Int.intBits n ≤ 1000) (hin : hi k < n) : Clo0 w 322 48 [(317, tabObj #[])] (fun h => CodeHd h 321 317) [.str k t, .int n t1] (RetLam 317) := by
  unfold Clo0 RetLam
  k_fill
  intro dp un gd cn cs a ccd cl A₀ base h₀ L m s Q E p loose mean mg mb B F X N hP T hcs hdp hun hret
  have hl := klen k hk
  have hb := kbig k hk
  have hw := kw_le k hk
  have lh := lohi k hk
  have B0 := below_self B
  have hin9 : ¬ (lo k ≤ n ∧ n ≤ hi k) := fun z => by omega
  refine wpAny_call ?_
  k_dflt (refine' own_raw_cells ?k1 ?k2 ?k3 ?k4 ?k5 ?kA ?kF ?kK ?k6 ?k7 ?k8 ?k9 ?kB ?kD ?_ ?c2 ?c3 ?c4; (case kA => exact rfl); (case kF => exact rfl); (case kK => assumption); (case k1 => exact B0); (case k2 => k_asm); (case k3 => k_asm); (case k4 => exact N); (case k5 => k_asm); (case k6 => k_is); (case k7 => k_is); (case k8 => ktr_room); (case k9 => exact BindsTo.of_eq rfl); (case kB => exact rfl); (case kD => decide +kernel); (case c2 => exact rfl); (case c3 => exact rfl); (case c4 => exact rfl); k_whole)
  intro g' L' h' tk' cells' hg' hup FG' F' N' Y' B' X' T' l1
  (try k_lt l1)
  k_cells Y'
  (try simp only [List.cons_append, List.nil_append] at N')
  have hC9 : CodeHd g' 321 317 := hP.keeps (fun b o e => hg' b o (F.keep _ _ e) (fun hm => by obtain ⟨q, hq, z⟩ := List.mem_map.mp hm; have := (N q hq).2.2; rw [z, e] at this; cases this))
  (try dsimp only)
  (try k_lift B')
  (try k_fold)
  repeat' (first
      | (k_unfold; (try dsimp only))
      | (k_end; kc_close)
      | ((with_reducible show wpAny _ _ (call (Value.ref _) _) _ _ _); first
        | ((with_reducible show wpAny _ _ (call (Value.ref 315) _) _ _ _); refine unhold ?_)
        | (with_reducible ((with_reducible show wpAny _ _ (call (Value.ref 230) _) _ _ _); k_here; k_dflt (refine' clr_use (converted_bad_c _ _ (by assumption) _ _ (by assumption) _) (by k_asm) (by k_asm) (by k_asm) (by k_asm) (by first | exact rfl | assumption) (by ktr_room) (by ktr_units) ?_; k_whole); intro e'z h'z tk'z R'z up'z; (try dsimp only)))
        | (with_reducible ((with_reducible show wpAny _ _ (call (Value.ref 251) _) _ _ _); k_here; k_dflt (refine' clm_use (law_ends_c _ _ (by assumption)) (by k_asm) (by k_asm) (by k_asm) (by k_asm) (by k_asm) (by first | exact rfl | assumption) (by ktr_room) (by ktr_units) ?_; k_whole); intro q'z t1'z t2'z h'z tk'z F'z N'z l1'z; (try k_lt l1'z); (try dsimp only); (try k_fold); (try k_sweep)))
        | fail)
      | ((with_reducible show wpAny _ _ (eval (Expr.Call (Expr.Name (Str.ofString "converted") _) _ _ _) _) _ _ _); k_here; refine Call_ ?_)
      | ((with_reducible show wpAny _ _ (eval (Expr.Call (Expr.Name (Str.ofString "_law_heard") _) _ _ _) _) _ _ _); k_here; refine Call_ ?_)
      | walk1
      | (dsimp only; walk1)
      | (leave1; walk_say "STEP leave1"; (try dsimp only))
      | fail "no step")
  unfold Hold
  (with_reducible rename News g' L' _ _ => nN9)
  have hS9 := fun p hp => (nN9 p hp).1
  rename (_ : Obj).data = Data.fields _ => dd1
  rename (_ : Array Value)[1]? = some _ => dd2
  k_dflt (refine' heard_bad_c _ _ (Str.ofString "InexactError") ?hf ?D _ _ _ _ _ _ _ _ _ _ _ _ _ _ _ _ _ _ _ _ _ _ ?k1 ?k2 ?k3 ?kP ?k5 ?k6 ?k7 ?k8 ?XB ?TB ?_)
  case kP => exact hS9
  case k2 => k_asm
  case k3 => k_asm
  case k1 => k_asm
  case k5 => k_asm
  case k6 => exact rfl
  case k7 => ktr_room
  case k8 => ktr_units
  case XB => exact X
  case TB => exact T
  case hf => exact fun h hs => ⟨_, _, _, _, hs _ (.head _)⟩
  case D =>
    clear hret nN9 hS9 F X N T B hun hdp
    unfold Crs
    intro dp2 un2 gd2 cn2 cs2 a2 ccd2 cl2 outer2 A2 base2 h2 L2 m2 s2 Q2 E2 p2 loose2 mean2 mg2 mb2 B2 F2 X2 hP2 T2 hcs2 hdp2 hun2 hret2
    refine wpAny_call ?_
    k_dflt (refine' own_lam B2 F2 X2 T2 ?kA ?kF ?kK (hP2 _ (.head _)) ⟨_, _, _, _, rfl, (hP2 _ (.tail _ (.head _))), dd1, dd2⟩ ?k8 ?k9 ?kB ?_ ?c2 ?c3 ?c4 ?c5; (case kA => exact rfl); (case kF => exact rfl); (case kK => assumption); (case k8 => ktr_room); (case k9 => exact rfl); (case c5 => decide); (case kB => exact locs rfl); (case c2 => exact rfl); (case c3 => exact rfl); (case c4 => exact rfl); k_whole)
    intro g3 L3 h3 hg3 FG3 F3 N3 B3 X3 T3
    have hS3 := Stand.keeps (h' := g3) hP2 fun b o e => hg3 b o e (fun hm => nomatch hm)
    (try dsimp only)
    (try k_lift B3)
    (try k_fold)
    repeat' (first
        | (k_unfold; (try dsimp only))
        | (k_end; kc_close)
        | ((with_reducible show wpAny _ _ (call (Value.ref _) _) _ _ _); first
          | ((with_reducible show wpAny _ _ (call (Value.ref 315) _) _ _ _); refine unhold ?_)
          | (with_reducible ((with_reducible show wpAny _ _ (call (Value.ref 230) _) _ _ _); k_here; k_dflt (refine' clr_use (converted_bad_c _ _ (by assumption) _ _ (by assumption) _) (by k_asm) (by k_asm) (by k_asm) (by k_asm) (by first | exact rfl | assumption) (by ktr_room) (by ktr_units) ?_; k_whole); intro e'z h'z tk'z R'z up'z; (try dsimp only)))
          | (with_reducible ((with_reducible show wpAny _ _ (call (Value.ref 251) _) _ _ _); k_here; k_dflt (refine' clm_use (law_ends_c _ _ (by assumption)) (by k_asm) (by k_asm) (by k_asm) (by k_asm) (by k_asm) (by first | exact rfl | assumption) (by ktr_room) (by ktr_units) ?_; k_whole); intro q'z t1'z t2'z h'z tk'z F'z N'z l1'z; (try k_lt l1'z); (try dsimp only); (try k_fold); (try k_sweep)))
          | fail)
        | ((with_reducible show wpAny _ _ (eval (Expr.Call (Expr.Name (Str.ofString "converted") _) _ _ _) _) _ _ _); k_here; refine Call_ ?_)
        | ((with_reducible show wpAny _ _ (eval (Expr.Call (Expr.Name (Str.ofString "_law_heard") _) _ _ _) _) _ _ _); k_here; refine Call_ ?_)
        | walk1
        | (dsimp only; walk1)
        | (leave1; walk_say "STEP leave1"; (try dsimp only))
        | fail "no step")
    exact clr_on hret2 hg3 rfl B3 (by k_asm) (by assumption) (by assumption)
  intro t9 h09 h9 tk9 T9 F9 B9 X9 P9 kN9
  have N9 := kN9 _ nN9
  clear kN9
  (try dsimp only); (try k_fold); (try k_sweep)
  repeat' (first
      | (k_unfold; (try dsimp only))
      | (k_end; kc_close)
      | ((with_reducible show wpAny _ _ (call (Value.ref _) _) _ _ _); first
        | ((with_reducible show wpAny _ _ (call (Value.ref 315) _) _ _ _); refine unhold ?_)
        | (with_reducible ((with_reducible show wpAny _ _ (call (Value.ref 230) _) _ _ _); k_here; k_dflt (refine' clr_use (converted_bad_c _ _ (by assumption) _ _ (by assumption) _) (by k_asm) (by k_asm) (by k_asm) (by k_asm) (by first | exact rfl | assumption) (by ktr_room) (by ktr_units) ?_; k_whole); intro e'z h'z tk'z R'z up'z; (try dsimp only)))
        | (with_reducible ((with_reducible show wpAny _ _ (call (Value.ref 251) _) _ _ _); k_here; k_dflt (refine' clm_use (law_ends_c _ _ (by assumption)) (by k_asm) (by k_asm) (by k_asm) (by k_asm) (by k_asm) (by first | exact rfl | assumption) (by ktr_room) (by ktr_units) ?_; k_whole); intro q'z t1'z t2'z h'z tk'z F'z N'z l1'z; (try k_lt l1'z); (try dsimp only); (try k_fold); (try k_sweep)))
        | fail)
      | ((with_reducible show wpAny _ _ (eval (Expr.Call (Expr.Name (Str.ofString "converted") _) _ _ _) _) _ _ _); k_here; refine Call_ ?_)
      | ((with_reducible show wpAny _ _ (eval (Expr.Call (Expr.Name (Str.ofString "_law_heard") _) _ _ _) _) _ _ _); k_here; refine Call_ ?_)
      | walk1
      | (dsimp only; walk1)
      | (leave1; walk_say "STEP leave1"; (try dsimp only))
      | fail "no step")
  exact lam_miss (env := envX cn cs L a ccd cl) hret B0 F N rfl hg' T9 F9 N9 (by k_mem) (by k_mem) (lamOk_some dd1 dd2)

theorem conv_hit {w : World} (d : Addr) (od : Obj) (vs : Array Value) (tq : Tok) (dd1 : od.data = .fields vs) (dd2 : vs[1]? = some (.str (Str.ofString "_law_converted_right" ++ Str.ofString ".<locals>." ++ Str.ofString "<lambda>") tq)) (k : Str) (t : Tok) (n : Int) (t1 : Tok) (hk : Kind k) (hB : Builtin.Int.intBits n ≤ 1000) (hin : lo k ≤ n ∧ n ≤ hi k) : Clo0 w 322 48 [(317, tabObj #[rawInt 175, rawInt 22, .ref d]), (d, od)] (fun h => CodeHd h 321 317) [.str k t, .int n t1] (RetLam d) := by
  unfold Clo0 RetLam
  k_fill
  intro dp un gd cn cs a ccd cl A₀ base h₀ L m s Q E p loose mean mg mb B F X N hP T hcs hdp hun hret
  have hl := klen k hk
  have hb := kbig k hk
  have hw := kw_le k hk
  have lh := lohi k hk
  have B0 := below_self B
  refine wpAny_call ?_
  k_dflt (refine' own_raw_cells ?k1 ?k2 ?k3 ?k4 ?k5 ?kA ?kF ?kK ?k6 ?k7 ?k8 ?k9 ?kB ?kD ?_ ?c2 ?c3 ?c4; (case kA => exact rfl); (case kF => exact rfl); (case kK => assumption); (case k1 => exact B0); (case k2 => k_asm); (case k3 => k_asm); (case k4 => exact N); (case k5 => k_asm); (case k6 => k_is); (case k7 => k_is); (case k8 => ktr_room); (case k9 => exact BindsTo.of_eq rfl); (case kB => exact rfl); (case kD => decide +kernel); (case c2 => exact rfl); (case c3 => exact rfl); (case c4 => exact rfl); k_whole)
  intro g' L' h' tk' cells' hg' hup FG' F' N' Y' B' X' T' l1
  (try k_lt l1)
  k_cells Y'
  (try simp only [List.cons_append, List.nil_append] at N')
  have hC9 : CodeHd g' 321 317 := hP.keeps (fun b o e => hg' b o (F.keep _ _ e) (fun hm => by obtain ⟨q, hq, z⟩ := List.mem_map.mp hm; have := (N q hq).2.2; rw [z, e] at this; cases this))
  (try dsimp only)
  (try k_lift B')
  (try k_fold)
  repeat' (first
      | (k_unfold; (try dsimp only))
      | (k_end; kc_close)
      | ((with_reducible show wpAny _ _ (call (Value.ref _) _) _ _ _); first
        | ((with_reducible show wpAny _ _ (call (Value.ref 315) _) _ _ _); refine unhold ?_)
        | (with_reducible ((with_reducible show wpAny _ _ (call (Value.ref 230) _) _ _ _); k_here; (with_reducible rename News _ _ _ _ => lN9z); k_dflt (refine' clo_useI (by k_asm) (by k_asm) (by k_asm) (by exact no_news) (by trivial) (converted_ok_c _ _ (by assumption) _ _ (by assumption) _) (by k_asm) (by first | exact rfl | assumption) (by ktr_room) (by ktr_units) ?_; k_whole); intro u'z h'z tk'z F'z kN9z; (have N'z := kN9z _ lN9z); clear kN9z; (try dsimp only); (try k_fold); (try k_sweep)))
        | (with_reducible ((with_reducible show wpAny _ _ (call (Value.ref 251) _) _ _ _); k_here; k_dflt (refine' clm_use (law_ends_c _ _ (by assumption)) (by k_asm) (by k_asm) (by k_asm) (by k_asm) (by k_asm) (by first | exact rfl | assumption) (by ktr_room) (by ktr_units) ?_; k_whole); intro q'z t1'z t2'z h'z tk'z F'z N'z l1'z; (try k_lt l1'z); (try dsimp only); (try k_fold); (try k_sweep)))
        | fail)
      | ((with_reducible show wpAny _ _ (eval (Expr.Call (Expr.Name (Str.ofString "converted") _) _ _ _) _) _ _ _); k_here; refine Call_ ?_)
      | ((with_reducible show wpAny _ _ (eval (Expr.Call (Expr.Name (Str.ofString "_law_heard") _) _ _ _) _) _ _ _); k_here; refine Call_ ?_)
      | walk1
      | (dsimp only; walk1)
      | (leave1; walk_say "STEP leave1"; (try dsimp only))
      | fail "no step")
  unfold Hold
  (with_reducible rename News g' L' _ _ => nN9)
  have hS9 := fun p hp => (nN9 p hp).1
  k_dflt (refine' clo_use (heard_ok_c _ _ (fun t => .int n t) ?hf ?D) ?k1 ?k2 ?k3 ?k4 ?kP ?k5 ?k6 ?k7 ?k8 ?_)
  case kP => exact hS9
  case k2 => k_asm
  case k3 => k_asm
  case k1 => k_asm
  case k4 => exact no_news
  case k5 => k_asm
  case k6 => exact rfl
  case k7 => ktr_room
  case k8 => ktr_units
  case hf => exact fun h hs => ⟨_, _, _, _, hs _ (.head _)⟩
  case D =>
    clear hret nN9 hS9 F X N T B hun hdp
    unfold Clo RetA
    intro dp2 un2 gd2 cn2 cs2 a2 ccd2 cl2 outer2 A2 base2 h2 L2 m2 s2 Q2 E2 p2 loose2 mean2 mg2 mb2 B2 F2 X2 N2 hP2 T2 hcs2 hdp2 hun2 hret2
    refine wpAny_call ?_
    k_dflt (refine' own_lam B2 F2 X2 T2 ?kA ?kF ?kK (hP2 _ (.head _)) ⟨_, _, _, _, rfl, hP2 (d, od) (by k_mem), dd1, dd2⟩ ?k8 ?k9 ?kB ?_ ?c2 ?c3 ?c4 ?c5; (case kA => exact rfl); (case kF => exact rfl); (case kK => assumption); (case k8 => ktr_room); (case k9 => exact rfl); (case c5 => decide); (case kB => exact locs rfl); (case c2 => exact rfl); (case c3 => exact rfl); (case c4 => exact rfl); k_whole)
    intro g3 L3 h3 hg3 FG3 F3 N3 B3 X3 T3
    have hS3 := Stand.keeps (h' := g3) hP2 fun b o e => hg3 b o e (fun hm => nomatch hm)
    (try dsimp only)
    (try k_lift B3)
    (try k_fold)
    repeat' (first
        | (k_unfold; (try dsimp only))
        | (k_end; kc_close)
        | ((with_reducible show wpAny _ _ (call (Value.ref _) _) _ _ _); first
          | ((with_reducible show wpAny _ _ (call (Value.ref 315) _) _ _ _); refine unhold ?_)
          | (with_reducible ((with_reducible show wpAny _ _ (call (Value.ref 230) _) _ _ _); k_here; (with_reducible rename News _ _ _ _ => lN9z); k_dflt (refine' clo_useI (by k_asm) (by k_asm) (by k_asm) (by exact no_news) (by trivial) (converted_ok_c _ _ (by assumption) _ _ (by assumption) _) (by k_asm) (by first | exact rfl | assumption) (by ktr_room) (by ktr_units) ?_; k_whole); intro u'z h'z tk'z F'z kN9z; (have N'z := kN9z _ lN9z); clear kN9z; (try dsimp only); (try k_fold); (try k_sweep)))
          | (with_reducible ((with_reducible show wpAny _ _ (call (Value.ref 251) _) _ _ _); k_here; k_dflt (refine' clm_use (law_ends_c _ _ (by assumption)) (by k_asm) (by k_asm) (by k_asm) (by k_asm) (by k_asm) (by first | exact rfl | assumption) (by ktr_room) (by ktr_units) ?_; k_whole); intro q'z t1'z t2'z h'z tk'z F'z N'z l1'z; (try k_lt l1'z); (try dsimp only); (try k_fold); (try k_sweep)))
          | fail)
        | ((with_reducible show wpAny _ _ (eval (Expr.Call (Expr.Name (Str.ofString "converted") _) _ _ _) _) _ _ _); k_here; refine Call_ ?_)
        | ((with_reducible show wpAny _ _ (eval (Expr.Call (Expr.Name (Str.ofString "_law_heard") _) _ _ _) _) _ _ _); k_here; refine Call_ ?_)
        | walk1
        | (dsimp only; walk1)
        | (leave1; walk_say "STEP leave1"; (try dsimp only))
        | fail "no step")
    refine retA_i hret2 rfl (by k_asm) (keeps_all hg3 (by k_asm))
  intro t9 h9 tk9 F9 kN9
  have N9 := kN9 _ nN9
  clear kN9
  (try dsimp only); (try k_fold); (try k_sweep)
  repeat' (first
      | (k_unfold; (try dsimp only))
      | (k_end; kc_close)
      | ((with_reducible show wpAny _ _ (call (Value.ref _) _) _ _ _); first
        | ((with_reducible show wpAny _ _ (call (Value.ref 315) _) _ _ _); refine unhold ?_)
        | (with_reducible ((with_reducible show wpAny _ _ (call (Value.ref 230) _) _ _ _); k_here; (with_reducible rename News _ _ _ _ => lN9z); k_dflt (refine' clo_useI (by k_asm) (by k_asm) (by k_asm) (by exact no_news) (by trivial) (converted_ok_c _ _ (by assumption) _ _ (by assumption) _) (by k_asm) (by first | exact rfl | assumption) (by ktr_room) (by ktr_units) ?_; k_whole); intro u'z h'z tk'z F'z kN9z; (have N'z := kN9z _ lN9z); clear kN9z; (try dsimp only); (try k_fold); (try k_sweep)))
        | (with_reducible ((with_reducible show wpAny _ _ (call (Value.ref 251) _) _ _ _); k_here; k_dflt (refine' clm_use (law_ends_c _ _ (by assumption)) (by k_asm) (by k_asm) (by k_asm) (by k_asm) (by k_asm) (by first | exact rfl | assumption) (by ktr_room) (by ktr_units) ?_; k_whole); intro q'z t1'z t2'z h'z tk'z F'z N'z l1'z; (try k_lt l1'z); (try dsimp only); (try k_fold); (try k_sweep)))
        | fail)
      | ((with_reducible show wpAny _ _ (eval (Expr.Call (Expr.Name (Str.ofString "converted") _) _ _ _) _) _ _ _); k_here; refine Call_ ?_)
      | ((with_reducible show wpAny _ _ (eval (Expr.Call (Expr.Name (Str.ofString "_law_heard") _) _ _ _) _) _ _ _); k_here; refine Call_ ?_)
      | walk1
      | (dsimp only; walk1)
      | (leave1; walk_say "STEP leave1"; (try dsimp only))
      | fail "no step")
  rw [show (n == n) = true from beq_self_eq_true n]
  exact lam_hit (env := envX cn cs L a ccd cl) hret rfl B0 F N rfl hg' KtsTurn.refl F9 N9 (by k_mem) (by k_mem) (lamOk_some dd1 dd2)

theorem conv_hit_bad1 {w : World} (d : Addr) (od : Obj) (vs : Array Value) (tq : Tok) (dd1 : od.data = .fields vs) (dd2 : vs[1]? = some (.str (Str.ofString "_law_converted_right" ++ Str.ofString ".<locals>." ++ Str.ofString "<lambda>") tq)) (k : Str) (t : Tok) (n : Int) (t1 : Tok) (hk : Kind k) (hB : Builtin.Int.intBits n ≤ 1000) (hin : n < lo k) : Clo0 w 322 48 [(317, tabObj #[rawInt 175, rawInt 22, .ref d]), (d, od)] (fun h => CodeHd h 321 317) [.str k t, .int n t1] (RetLam d) := by
  unfold Clo0 RetLam
  k_fill
  intro dp un gd cn cs a ccd cl A₀ base h₀ L m s Q E p loose mean mg mb B F X N hP T hcs hdp hun hret
  have hl := klen k hk
  have hb := kbig k hk
  have hw := kw_le k hk
  have lh := lohi k hk
  have B0 := below_self B
  have hin9 : ¬ (lo k ≤ n ∧ n ≤ hi k) := fun z => by omega
  refine wpAny_call ?_
  k_dflt (refine' own_raw_cells ?k1 ?k2 ?k3 ?k4 ?k5 ?kA ?kF ?kK ?k6 ?k7 ?k8 ?k9 ?kB ?kD ?_ ?c2 ?c3 ?c4; (case kA => exact rfl); (case kF => exact rfl); (case kK => assumption); (case k1 => exact B0); (case k2 => k_asm); (case k3 => k_asm); (case k4 => exact N); (case k5 => k_asm); (case k6 => k_is); (case k7 => k_is); (case k8 => ktr_room); (case k9 => exact BindsTo.of_eq rfl); (case kB => exact rfl); (case kD => decide +kernel); (case c2 => exact rfl); (case c3 => exact rfl); (case c4 => exact rfl); k_whole)
  intro g' L' h' tk' cells' hg' hup FG' F' N' Y' B' X' T' l1
  (try k_lt l1)
  k_cells Y'
  (try simp only [List.cons_append, List.nil_append] at N')
  have hC9 : CodeHd g' 321 317 := hP.keeps (fun b o e => hg' b o (F.keep _ _ e) (fun hm => by obtain ⟨q, hq, z⟩ := List.mem_map.mp hm; have := (N q hq).2.2; rw [z, e] at this; cases this))
  (try dsimp only)
  (try k_lift B')
  (try k_fold)
  repeat' (first
      | (k_unfold; (try dsimp only))
      | (k_end; kc_close)
      | ((with_reducible show wpAny _ _ (call (Value.ref _) _) _ _ _); first
        | ((with_reducible show wpAny _ _ (call (Value.ref 315) _) _ _ _); refine unhold ?_)
        | (with_reducible ((with_reducible show wpAny _ _ (call (Value.ref 230) _) _ _ _); k_here; k_dflt (refine' clr_use (converted_bad_c _ _ (by assumption) _ _ (by assumption) _) (by k_asm) (by k_asm) (by k_asm) (by k_asm) (by first | exact rfl | assumption) (by ktr_room) (by ktr_units) ?_; k_whole); intro e'z h'z tk'z R'z up'z; (try dsimp only)))
        | (with_reducible ((with_reducible show wpAny _ _ (call (Value.ref 251) _) _ _ _); k_here; k_dflt (refine' clm_use (law_ends_c _ _ (by assumption)) (by k_asm) (by k_asm) (by k_asm) (by k_asm) (by k_asm) (by first | exact rfl | assumption) (by ktr_room) (by ktr_units) ?_; k_whole); intro q'z t1'z t2'z h'z tk'z F'z N'z l1'z; (try k_lt l1'z); (try dsimp only); (try k_fold); (try k_sweep)))
        | fail)
      | ((with_reducible show wpAny _ _ (eval (Expr.Call (Expr.Name (Str.ofString "converted") _) _ _ _) _) _ _ _); k_here; refine Call_ ?_)
      | ((with_reducible show wpAny _ _ (eval (Expr.Call (Expr.Name (Str.ofString "_law_heard") _) _ _ _) _) _ _ _); k_here; refine Call_ ?_)
      | walk1
      | (dsimp only; walk1)
      | (leave1; walk_say "STEP leave1"; (try dsimp only))
      | fail "no step")
  unfold Hold
  (with_reducible rename News g' L' _ _ => nN9)
  have hS9 := fun p hp => (nN9 p hp).1
  k_dflt (refine' heard_bad_c _ _ (Str.ofString "InexactError") ?hf ?D _ _ _ _ _ _ _ _ _ _ _ _ _ _ _ _ _ _ _ _ _ _ ?k1 ?k2 ?k3 ?kP ?k5 ?k6 ?k7 ?k8 ?XB ?TB ?_)
  case kP => exact hS9
  case k2 => k_asm
  case k3 => k_asm
  case k1 => k_asm
  case k5 => k_asm
  case k6 => exact rfl
  case k7 => ktr_room
  case k8 => ktr_units
  case XB => exact X
  case TB => exact T
  case hf => exact fun h hs => ⟨_, _, _, _, hs _ (.head _)⟩
  case D =>
    clear hret nN9 hS9 F X N T B hun hdp
    unfold Crs
    intro dp2 un2 gd2 cn2 cs2 a2 ccd2 cl2 outer2 A2 base2 h2 L2 m2 s2 Q2 E2 p2 loose2 mean2 mg2 mb2 B2 F2 X2 hP2 T2 hcs2 hdp2 hun2 hret2
    refine wpAny_call ?_
    k_dflt (refine' own_lam B2 F2 X2 T2 ?kA ?kF ?kK (hP2 _ (.head _)) ⟨_, _, _, _, rfl, hP2 (d, od) (by k_mem), dd1, dd2⟩ ?k8 ?k9 ?kB ?_ ?c2 ?c3 ?c4 ?c5; (case kA => exact rfl); (case kF => exact rfl); (case kK => assumption); (case k8 => ktr_room); (case k9 => exact rfl); (case c5 => decide); (case kB => exact locs rfl); (case c2 => exact rfl); (case c3 => exact rfl); (case c4 => exact rfl); k_whole)
    intro g3 L3 h3 hg3 FG3 F3 N3 B3 X3 T3
    have hS3 := Stand.keeps (h' := g3) hP2 fun b o e => hg3 b o e (fun hm => nomatch hm)
    (try dsimp only)
    (try k_lift B3)
    (try k_fold)
    repeat' (first
        | (k_unfold; (try dsimp only))
        | (k_end; kc_close)
        | ((with_reducible show wpAny _ _ (call (Value.ref _) _) _ _ _); first
          | ((with_reducible show wpAny _ _ (call (Value.ref 315) _) _ _ _); refine unhold ?_)
          | (with_reducible ((with_reducible show wpAny _ _ (call (Value.ref 230) _) _ _ _); k_here; k_dflt (refine' clr_use (converted_bad_c _ _ (by assumption) _ _ (by assumption) _) (by k_asm) (by k_asm) (by k_asm) (by k_asm) (by first | exact rfl | assumption) (by ktr_room) (by ktr_units) ?_; k_whole); intro e'z h'z tk'z R'z up'z; (try dsimp only)))
          | (with_reducible ((with_reducible show wpAny _ _ (call (Value.ref 251) _) _ _ _); k_here; k_dflt (refine' clm_use (law_ends_c _ _ (by assumption)) (by k_asm) (by k_asm) (by k_asm) (by k_asm) (by k_asm) (by first | exact rfl | assumption) (by ktr_room) (by ktr_units) ?_; k_whole); intro q'z t1'z t2'z h'z tk'z F'z N'z l1'z; (try k_lt l1'z); (try dsimp only); (try k_fold); (try k_sweep)))
          | fail)
        | ((with_reducible show wpAny _ _ (eval (Expr.Call (Expr.Name (Str.ofString "converted") _) _ _ _) _) _ _ _); k_here; refine Call_ ?_)
        | ((with_reducible show wpAny _ _ (eval (Expr.Call (Expr.Name (Str.ofString "_law_heard") _) _ _ _) _) _ _ _); k_here; refine Call_ ?_)
        | walk1
        | (dsimp only; walk1)
        | (leave1; walk_say "STEP leave1"; (try dsimp only))
        | fail "no step")
    exact clr_on hret2 hg3 rfl B3 (by k_asm) (by assumption) (by assumption)
  intro t9 h09 h9 tk9 T9 F9 B9 X9 P9 kN9
  have N9 := kN9 _ nN9
  clear kN9
  (try dsimp only); (try k_fold); (try k_sweep)
  repeat' (first
      | (k_unfold; (try dsimp only))
      | (k_end; kc_close)
      | ((with_reducible show wpAny _ _ (call (Value.ref _) _) _ _ _); first
        | ((with_reducible show wpAny _ _ (call (Value.ref 315) _) _ _ _); refine unhold ?_)
        | (with_reducible ((with_reducible show wpAny _ _ (call (Value.ref 230) _) _ _ _); k_here; k_dflt (refine' clr_use (converted_bad_c _ _ (by assumption) _ _ (by assumption) _) (by k_asm) (by k_asm) (by k_asm) (by k_asm) (by first | exact rfl | assumption) (by ktr_room) (by ktr_units) ?_; k_whole); intro e'z h'z tk'z R'z up'z; (try dsimp only)))
        | (with_reducible ((with_reducible show wpAny _ _ (call (Value.ref 251) _) _ _ _); k_here; k_dflt (refine' clm_use (law_ends_c _ _ (by assumption)) (by k_asm) (by k_asm) (by k_asm) (by k_asm) (by k_asm) (by first | exact rfl | assumption) (by ktr_room) (by ktr_units) ?_; k_whole); intro q'z t1'z t2'z h'z tk'z F'z N'z l1'z; (try k_lt l1'z); (try dsimp only); (try k_fold); (try k_sweep)))
        | fail)
      | ((with_reducible show wpAny _ _ (eval (Expr.Call (Expr.Name (Str.ofString "converted") _) _ _ _) _) _ _ _); k_here; refine Call_ ?_)
      | ((with_reducible show wpAny _ _ (eval (Expr.Call (Expr.Name (Str.ofString "_law_heard") _) _ _ _) _) _ _ _); k_here; refine Call_ ?_)
      | walk1
      | (dsimp only; walk1)
      | (leave1; walk_say "STEP leave1"; (try dsimp only))
      | fail "no step")
  exact lam_hit (env := envX cn cs L a ccd cl) hret rfl B0 F N rfl hg' T9 F9 N9 (by k_mem) (by k_mem) (lamOk_some dd1 dd2)

theorem conv_hit_bad2 {w : World} (d : Addr) (od : Obj) (vs : Array Value) (tq : Tok) (dd1 : od.data = .fields vs) (dd2 : vs[1]? = some (.str (Str.ofString "_law_converted_right" ++ Str.ofString ".<locals>." ++ Str.ofString "<lambda>") tq)) (k : Str) (t : Tok) (n : Int) (t1 : Tok) (hk : Kind k) (hB : Builtin.Int.intBits n ≤ 1000) (hin : hi k < n) : Clo0 w 322 48 [(317, tabObj #[rawInt 175, rawInt 22, .ref d]), (d, od)] (fun h => CodeHd h 321 317) [.str k t, .int n t1] (RetLam d) := by
  unfold Clo0 RetLam
  k_fill
  intro dp un gd cn cs a ccd cl A₀ base h₀ L m s Q E p loose mean mg mb B F X N hP T hcs hdp hun hret
  have hl := klen k hk
  have hb := kbig k hk
  have hw := kw_le k hk
  have lh := lohi k hk
  have B0 := below_self B
  have hin9 : ¬ (lo k ≤ n ∧ n ≤ hi k) := fun z => by omega
  refine wpAny_call ?_
  k_dflt (refine' own_raw_cells ?k1 ?k2 ?k3 ?k4 ?k5 ?kA ?kF ?kK ?k6 ?k7 ?k8 ?k9 ?kB ?kD ?_ ?c2 ?c3 ?c4; (case kA => exact rfl); (case kF => exact rfl); (case kK => assumption); (case k1 => exact B0); (case k2 => k_asm); (case k3 => k_asm); (case k4 => exact N); (case k5 => k_asm); (case k6 => k_is); (case k7 => k_is); (case k8 => ktr_room); (case k9 => exact BindsTo.of_eq rfl); (case kB => exact rfl); (case kD => decide +kernel); (case c2 => exact rfl); (case c3 => exact rfl); (case c4 => exact rfl); k_whole)
  intro g' L' h' tk' cells' hg' hup FG' F' N' Y' B' X' T' l1
  (try k_lt l1)
  k_cells Y'
  (try simp only [List.cons_append, List.nil_append] at N')
  have hC9 : CodeHd g' 321 317 := hP.keeps (fun b o e => hg' b o (F.keep _ _ e) (fun hm => by obtain ⟨q, hq, z⟩ := List.mem_map.mp hm; have := (N q hq).2.2; rw [z, e] at this; cases this))
  (try dsimp only)
  (try k_lift B')
  (try k_fold)
  repeat' (first
      | (k_unfold; (try dsimp only))
      | (k_end; kc_close)
      | ((with_reducible show wpAny _ _ (call (Value.ref _) _) _ _ _); first
        | ((with_reducible show wpAny _ _ (call (Value.ref 315) _) _ _ _); refine unhold ?_)
        | (with_reducible ((with_reducible show wpAny _ _ (call (Value.ref 230) _) _ _ _); k_here; k_dflt (refine' clr_use (converted_bad_c _ _ (by assumption) _ _ (by assumption) _) (by k_asm) (by k_asm) (by k_asm) (by k_asm) (by first | exact rfl | assumption) (by ktr_room) (by ktr_units) ?_; k_whole); intro e'z h'z tk'z R'z up'z; (try dsimp only)))
        | (with_reducible ((with_reducible show wpAny _ _ (call (Value.ref 251) _) _ _ _); k_here; k_dflt (refine' clm_use (law_ends_c _ _ (by assumption)) (by k_asm) (by k_asm) (by k_asm) (by k_asm) (by k_asm) (by first | exact rfl | assumption) (by ktr_room) (by ktr_units) ?_; k_whole); intro q'z t1'z t2'z h'z tk'z F'z N'z l1'z; (try k_lt l1'z); (try dsimp only); (try k_fold); (try k_sweep)))
        | fail)
      | ((with_reducible show wpAny _ _ (eval (Expr.Call (Expr.Name (Str.ofString "converted") _) _ _ _) _) _ _ _); k_here; refine Call_ ?_)
      | ((with_reducible show wpAny _ _ (eval (Expr.Call (Expr.Name (Str.ofString "_law_heard") _) _ _ _) _) _ _ _); k_here; refine Call_ ?_)
      | walk1
      | (dsimp only; walk1)
      | (leave1; walk_say "STEP leave1"; (try dsimp only))
      | fail "no step")
  unfold Hold
  (with_reducible rename News g' L' _ _ => nN9)
  have hS9 := fun p hp => (nN9 p hp).1
  k_dflt (refine' heard_bad_c _ _ (Str.ofString "InexactError") ?hf ?D _ _ _ _ _ _ _ _ _ _ _ _ _ _ _ _ _ _ _ _ _ _ ?k1 ?k2 ?k3 ?kP ?k5 ?k6 ?k7 ?k8 ?XB ?TB ?_)
  case kP => exact hS9
  case k2 => k_asm
  case k3 => k_asm
  case k1 => k_asm
  case k5 => k_asm
  case k6 => exact rfl
  case k7 => ktr_room
  case k8 => ktr_units
  case XB => exact X
  case TB => exact T
  case hf => exact fun h hs => ⟨_, _, _, _, hs _ (.head _)⟩
  case D =>
    clear hret nN9 hS9 F X N T B hun hdp
    unfold Crs
    intro dp2 un2 gd2 cn2 cs2 a2 ccd2 cl2 outer2 A2 base2 h2 L2 m2 s2 Q2 E2 p2 loose2 mean2 mg2 mb2 B2 F2 X2 hP2 T2 hcs2 hdp2 hun2 hret2
    refine wpAny_call ?_
    k_dflt (refine' own_lam B2 F2 X2 T2 ?kA ?kF ?kK (hP2 _ (.head _)) ⟨_, _, _, _, rfl, hP2 (d, od) (by k_mem), dd1, dd2⟩ ?k8 ?k9 ?kB ?_ ?c2 ?c3 ?c4 ?c5; (case kA => exact rfl); (case kF => exact rfl); (case kK => assumption); (case k8 => ktr_room); (case k9 => exact rfl); (case c5 => decide); (case kB => exact locs rfl); (case c2 => exact rfl); (case c3 => exact rfl); (case c4 => exact rfl); k_whole)
    intro g3 L3 h3 hg3 FG3 F3 N3 B3 X3 T3
    have hS3 := Stand.keeps (h' := g3) hP2 fun b o e => hg3 b o e (fun hm => nomatch hm)
    (try dsimp only)
    (try k_lift B3)
    (try k_fold)
    repeat' (first
        | (k_unfold; (try dsimp only))
        | (k_end; kc_close)
        | ((with_reducible show wpAny _ _ (call (Value.ref _) _) _ _ _); first
          | ((with_reducible show wpAny _ _ (call (Value.ref 315) _) _ _ _); refine unhold ?_)
          | (with_reducible ((with_reducible show wpAny _ _ (call (Value.ref 230) _) _ _ _); k_here; k_dflt (refine' clr_use (converted_bad_c _ _ (by assumption) _ _ (by assumption) _) (by k_asm) (by k_asm) (by k_asm) (by k_asm) (by first | exact rfl | assumption) (by ktr_room) (by ktr_units) ?_; k_whole); intro e'z h'z tk'z R'z up'z; (try dsimp only)))
          | (with_reducible ((with_reducible show wpAny _ _ (call (Value.ref 251) _) _ _ _); k_here; k_dflt (refine' clm_use (law_ends_c _ _ (by assumption)) (by k_asm) (by k_asm) (by k_asm) (by k_asm) (by k_asm) (by first | exact rfl | assumption) (by ktr_room) (by ktr_units) ?_; k_whole); intro q'z t1'z t2'z h'z tk'z F'z N'z l1'z; (try k_lt l1'z); (try dsimp only); (try k_fold); (try k_sweep)))
          | fail)
        | ((with_reducible show wpAny _ _ (eval (Expr.Call (Expr.Name (Str.ofString "converted") _) _ _ _) _) _ _ _); k_here; refine Call_ ?_)
        | ((with_reducible show wpAny _ _ (eval (Expr.Call (Expr.Name (Str.ofString "_law_heard") _) _ _ _) _) _ _ _); k_here; refine Call_ ?_)
        | walk1
        | (dsimp only; walk1)
        | (leave1; walk_say "STEP leave1"; (try dsimp only))
        | fail "no step")
    exact clr_on hret2 hg3 rfl B3 (by k_asm) (by assumption) (by assumption)
  intro t9 h09 h9 tk9 T9 F9 B9 X9 P9 kN9
  have N9 := kN9 _ nN9
  clear kN9
  (try dsimp only); (try k_fold); (try k_sweep)
  repeat' (first
      | (k_unfold; (try dsimp only))
      | (k_end; kc_close)
      | ((with_reducible show wpAny _ _ (call (Value.ref _) _) _ _ _); first
        | ((with_reducible show wpAny _ _ (call (Value.ref 315) _) _ _ _); refine unhold ?_)
        | (with_reducible ((with_reducible show wpAny _ _ (call (Value.ref 230) _) _ _ _); k_here; k_dflt (refine' clr_use (converted_bad_c _ _ (by assumption) _ _ (by assumption) _) (by k_asm) (by k_asm) (by k_asm) (by k_asm) (by first | exact rfl | assumption) (by ktr_room) (by ktr_units) ?_; k_whole); intro e'z h'z tk'z R'z up'z; (try dsimp only)))
        | (with_reducible ((with_reducible show wpAny _ _ (call (Value.ref 251) _) _ _ _); k_here; k_dflt (refine' clm_use (law_ends_c _ _ (by assumption)) (by k_asm) (by k_asm) (by k_asm) (by k_asm) (by k_asm) (by first | exact rfl | assumption) (by ktr_room) (by ktr_units) ?_; k_whole); intro q'z t1'z t2'z h'z tk'z F'z N'z l1'z; (try k_lt l1'z); (try dsimp only); (try k_fold); (try k_sweep)))
        | fail)
      | ((with_reducible show wpAny _ _ (eval (Expr.Call (Expr.Name (Str.ofString "converted") _) _ _ _) _) _ _ _); k_here; refine Call_ ?_)
      | ((with_reducible show wpAny _ _ (eval (Expr.Call (Expr.Name (Str.ofString "_law_heard") _) _ _ _) _) _ _ _); k_here; refine Call_ ?_)
      | walk1
      | (dsimp only; walk1)
      | (leave1; walk_say "STEP leave1"; (try dsimp only))
      | fail "no step")
  exact lam_hit (env := envX cn cs L a ccd cl) hret rfl B0 F N rfl hg' T9 F9 N9 (by k_mem) (by k_mem) (lamOk_some dd1 dd2)

theorem law_converted_right_c {w : World} (T : Obj) (d : Addr) (od : Obj) (hT : LamOk T d od) (k : Str) (t : Tok) (hk : Kind k) (n : Int) (t1 : Tok) (hB : Builtin.Int.intBits n ≤ 1000) : Clo0 w 322 48 [(317, T), (d, od)] (fun h => CodeHd h 321 317) [.str k t, .int n t1] (RetLam d) := by
  by_cases h1 : n < lo k
  · rcases hT with ⟨rfl, rfl, rfl⟩ | ⟨rfl, vs, tq, hd, hv⟩
    · intro dp un gd cn cs a ccd cl A₀ base h₀ L m s Q E p loose mean mg mb B F X N hP T
      exact conv_miss_bad1 k t n t1 hk hB h1 dp un gd cn cs a ccd cl A₀ base h₀ L m s Q E p loose mean mg mb B F X (fun p hp => N p (by rw [List.mem_singleton.mp hp]; exact .head _)) hP T
    · exact conv_hit_bad1 d od vs tq hd hv k t n t1 hk hB h1
  by_cases h2 : hi k < n
  · rcases hT with ⟨rfl, rfl, rfl⟩ | ⟨rfl, vs, tq, hd, hv⟩
    · intro dp un gd cn cs a ccd cl A₀ base h₀ L m s Q E p loose mean mg mb B F X N hP T
      exact conv_miss_bad2 k t n t1 hk hB h2 dp un gd cn cs a ccd cl A₀ base h₀ L m s Q E p loose mean mg mb B F X (fun p hp => N p (by rw [List.mem_singleton.mp hp]; exact .head _)) hP T
    · exact conv_hit_bad2 d od vs tq hd hv k t n t1 hk hB h2
  have hin : lo k ≤ n ∧ n ≤ hi k := by omega
  rcases hT with ⟨rfl, rfl, rfl⟩ | ⟨rfl, vs, tq, hd, hv⟩
  · intro dp un gd cn cs a ccd cl A₀ base h₀ L m s Q E p loose mean mg mb B F X N hP T
    exact conv_miss k t n t1 hk hB hin dp un gd cn cs a ccd cl A₀ base h₀ L m s Q E p loose mean mg mb B F X (fun p hp => N p (by rw [List.mem_singleton.mp hp]; exact .head _)) hP T
  · exact conv_hit d od vs tq hd hv k t n t1 hk hB hin

/- X11 -/

section
variable {A₀ : Around} {base h₀ g g' h' : Heap} {L L' : Addr} {m m' : Str → Option Value} {s : Shared} {env : Env} {all : List (Addr × Obj)} {Q : Value → Shared → Prop} {tk' : Nat} {ps : Array Value}
theorem big_end (hret : ∀ (ps : Array Value) (h' : Heap) (tk' : Nat), Fr h₀ L h' m → (∀ nw, News h₀ L s.heap nw → (∀ p ∈ nw, p.1 ≠ 324) → News h₀ L h' ((324, tabObj ps) :: nw)) → Q (.bool true) { s with heap := h', toks := tk' })
    (B : Below A₀ base [] h₀) (F : Fr h₀ L s.heap m) (N : News h₀ L s.heap [(324, tabObj #[])]) (hf : env.frame = some L) (hg : ∀ b o, s.heap.get? b = some o → b ∉ ([(324, tabObj #[])] : List (Addr × Obj)).map (·.1) → g.get? b = some o)
    (T : KtsTurn (([env] : List Env).filterMap (·.frame)) g g') (F' : Fr g' L' h' m') (N' : News g' L' h' all) (m1 : (324, tabObj ps) ∈ all) : Q (.bool true) { s with heap := h', toks := tk' } := by
  obtain ⟨F0, kN⟩ := back_top B F N hf hg T F'
  have n0 := N _ (.head _)
  refine hret ps h' tk' F0 fun nw hn off p hp => ?_
  rcases List.mem_cons.mp hp with rfl | hp
  · exact ⟨(N' _ m1).1, n0.2⟩
  · exact kN nw hn (fun p hp => by simp only [List.map_cons, List.map_nil, List.mem_singleton]; exact off p hp) p hp
end
theorem bits_rim : Builtin.Int.intBits (RIM - 1) = 4000 := by unfold RIM; decide +kernel
theorem fit_low : Fit (1 - RIM) := ⟨Int.le_refl _, by unfold RIM; decide +kernel⟩
theorem unfit_top : ¬ Fit (RIM - 1 + 1) := fun h => by have := h.2; omega
theorem mul_bits : (4001 : Int) < (Builtin.Int.intBits (RIM - 1) : Int) + (Builtin.Int.intBits (RIM - 1) : Int) := by rw [bits_rim]; decide
theorem pow_3999 : (-1 * 2 ^ 3999 : Int) = -(2 ^ Int.toNat 3999) := by rw [Int.neg_mul, Int.one_mul]; rfl
theorem opf_mulB (a b : Int) : opf (Str.ofString "*") a b = a * b := by unfold opf; rw [if_neg (by decide +kernel), if_neg (by decide +kernel)]
theorem num_fact {n : Int} (h : 0 ≤ n ∧ n < 100000000000000000000) : ¬ ((4001 : Int) < (Builtin.Int.intBits n : Int) + (Builtin.Int.intBits (1 - n) : Int)) ∧ Builtin.Int.intBits n ≤ 500 ∧ Builtin.Int.intBits (1 - n) ≤ 500 ∧ Fit (opf (Str.ofString "*") n (1 - n)) ∧ opf (Str.ofString "*") n (1 - n) = n - n * n := by
  have h1 : Builtin.Int.intBits n ≤ 140 := intBits_le (k := 140) (by
    have : (2 : Nat) ^ 140 = 1393796574908163946345982392040522594123776 := (by decide +kernel)
    omega)
  have h2 : Builtin.Int.intBits (1 - n) ≤ 140 := intBits_le (k := 140) (by
    have : (2 : Nat) ^ 140 = 1393796574908163946345982392040522594123776 := (by decide +kernel)
    omega)
  have e : opf (Str.ofString "*") n (1 - n) = n - n * n := by rw [opf_mulB, Int.mul_sub, Int.mul_one]
  refine ⟨by omega, by omega, by omega, ?_, e⟩
  rw [e]
  have h3 : n * n ≤ 100000000000000000000 * 100000000000000000000 := Int.mul_le_mul (by omega) (by omega) h.1 (by omega)
  have h4 : 0 ≤ n * n := Int.mul_nonneg h.1 h.1
  have h5 := rim_big
  have h6 : (10 : Int) ^ 90 = 1000000000000000000000000000000000000000000000000000000000000000000000000000000000000000000 := by decide +kernel
  constructor <;> omega
local macro_rules | `(tactic| walk_at "ite") => `(tactic| ((with_reducible rename _ = _ - _ * _ => kt9); refine ite_neg (by simp [kt9]; done) ?_))
local macro_rules | `(tactic| walk_at "ite") => `(tactic| ((with_reducible rename _ = _ - _ * _ => kt9); refine ite_pos (by simp [kt9]; done) ?_))

theorem law_big_right_c {w : World} (n : Int) (t1 : Tok) (hB : 0 ≤ n ∧ n < 100000000000000000000) : Clo0 w 329 48 [(324, tabObj #[])] (fun h => CodeHd h 328 324) [.int n t1] RetLast := by
  unfold Clo0 RetLast
  k_fill
  intro dp un gd cn cs a ccd cl A₀ base h₀ L m s Q E p loose mean mg mb B F X N hP T hcs hdp hun hret
  have B0 := below_self B
  obtain ⟨f1, f2, f3, f4, f5⟩ := num_fact hB
  have fg1 := fit_low
  have fg2 := unfit_top
  have fg3 := mul_bits
  refine wpAny_call ?_
  k_dflt (refine' own_raw_cells ?k1 ?k2 ?k3 ?k4 ?k5 ?kA ?kF ?kK ?k6 ?k7 ?k8 ?k9 ?kB ?kD ?_ ?c2 ?c3 ?c4; (case kA => exact rfl); (case kF => exact rfl); (case kK => assumption); (case k1 => exact B0); (case k2 => k_asm); (case k3 => k_asm); (case k4 => exact N); (case k5 => k_asm); (case k6 => k_is); (case k7 => k_is); (case k8 => ktr_room); (case k9 => exact BindsTo.of_eq rfl); (case kB => exact rfl); (case kD => decide +kernel); (case c2 => exact rfl); (case c3 => exact rfl); (case c4 => exact rfl); k_whole)
  intro g' L' h' tk' cells' hg' hup FG' F' N' Y' B' X' T' l1
  (try k_lt l1)
  k_cells Y'
  (try simp only [List.cons_append, List.nil_append] at N')
  have hC9 : CodeHd g' 328 324 := hP.keeps (fun b o e => hg' b o (F.keep _ _ e) (fun hm => by obtain ⟨q, hq, z⟩ := List.mem_map.mp hm; have := (N q hq).2.2; rw [z, e] at this; cases this))
  (try dsimp only)
  (try k_lift B')
  (try k_fold)
  repeat' (first
      | (k_unfold; (try dsimp only))
      | (k_end; kc_close)
      | ((with_reducible show wpAny _ _ (call (Value.ref _) _) _ _ _); first
        | (with_reducible ((with_reducible show wpAny _ _ (call (Value.ref 153) (Value.str (Str.ofString "BigInt") _ :: Value.str (Str.ofString "*") _ :: Value.int _ _ :: Value.int (1 - _) _ :: _)) _ _ _); k_here; k_dflt (refine' clm_use (checked_num_c _ _ _ _ _ _ (by assumption) (by assumption) (by assumption) (by assumption)) (by k_asm) (by k_asm) (by k_asm) (by k_asm) (by k_asm) (by first | exact rfl | assumption) (by ktr_room) (by ktr_units) ?_; k_whole); intro q'z t1'z h'z tk'z F'z N'z l1'z; (try k_lt l1'z); (try dsimp only); (try k_fold); (try k_sweep)))
        | (with_reducible ((with_reducible show wpAny _ _ (call (Value.ref 174) (Value.str (Str.ofString "BigInt") _ :: Value.int (-1) _ :: _)) _ _ _); k_here; k_dflt (refine' clm_use (moved_ok_c _ _ _) (by k_asm) (by k_asm) (by k_asm) (by k_asm) (by k_asm) (by first | exact rfl | assumption) (by ktr_room) (by ktr_units) ?_; k_whole); intro u'z h'z tk'z F'z N'z; (try dsimp only); (try k_fold); (try k_sweep)))
        | (with_reducible ((with_reducible show wpAny _ _ (call (Value.ref 174) (Value.str (Str.ofString "BigInt") _ :: Value.int 1 _ :: _)) _ _ _); k_here; k_dflt (refine' clr_use (moved_bad_c _ _ _) (by k_asm) (by k_asm) (by k_asm) (by k_asm) (by first | exact rfl | assumption) (by ktr_room) (by ktr_units) ?_; k_whole); intro e'z h'z tk'z R'z up'z; (try dsimp only)))
        | (with_reducible ((with_reducible show wpAny _ _ (call (Value.ref 153) (Value.str (Str.ofString "BigInt") _ :: Value.str (Str.ofString "*") _ :: _)) _ _ _); k_here; k_dflt (refine' clr_use (checked_mul_c _ _ _ _ _ _ (by assumption)) (by k_asm) (by k_asm) (by k_asm) (by k_asm) (by first | exact rfl | assumption) (by ktr_room) (by ktr_units) ?_; k_whole); intro e'z h'z tk'z R'z up'z; (try dsimp only)))
        | (with_reducible ((with_reducible show wpAny _ _ (call (Value.ref 153) (Value.str (Str.ofString "BigInt") _ :: Value.str (Str.ofString "+") _ :: _)) _ _ _); k_here; k_dflt (refine' clr_use (checked_add_c _ _ _ _ _ _ (by assumption)) (by k_asm) (by k_asm) (by k_asm) (by k_asm) (by first | exact rfl | assumption) (by ktr_room) (by ktr_units) ?_; k_whole); intro e'z h'z tk'z R'z up'z; (try dsimp only)))
        | ((with_reducible show wpAny _ _ (call (Value.ref 315) _) _ _ _); refine unhold ?_)
        | (with_reducible ((with_reducible show wpAny _ _ (call (Value.ref 139) (Value.str (Str.ofString "BigInt") _ :: _)) _ _ _); k_here; k_dflt (refine' clm_use (wrapped_big_c _ _ _ (by assumption)) (by k_asm) (by k_asm) (by k_asm) (by k_asm) (by k_asm) (by first | exact rfl | assumption) (by ktr_room) (by ktr_units) ?_; k_whole); intro u'z h'z tk'z F'z N'z; (try dsimp only); (try k_fold); (try k_sweep)))
        | fail)
      | ((with_reducible show wpAny _ _ (eval (Expr.Call (Expr.Name (Str.ofString "wrapped") _) _ _ _) _) _ _ _); k_here; refine Call_ ?_)
      | ((with_reducible show wpAny _ _ (eval (Expr.Call (Expr.Name (Str.ofString "moved_up") _) _ _ _) _) _ _ _); k_here; refine Call_ ?_)
      | ((with_reducible show wpAny _ _ (eval (Expr.Call (Expr.Name (Str.ofString "checked") _) _ _ _) _) _ _ _); k_here; refine Call_ ?_)
      | ((with_reducible show wpAny _ _ (eval (Expr.Call (Expr.Name (Str.ofString "_law_heard") _) _ _ _) _) _ _ _); k_here; refine Call_ ?_)
      | walk1
      | (dsimp only; walk1)
      | (leave1; walk_say "STEP leave1"; (try dsimp only))
      | fail "no step")
  unfold Hold
  (with_reducible rename News g' L' _ _ => nN9)
  have hS9 := fun p hp => (nN9 p hp).1
  rename (_ : Obj).data = Data.fields _ => dd1
  rename (_ : Array Value)[1]? = some _ => dd2
  k_dflt (refine' heard_bad_c _ _ (Str.ofString "OverflowError") ?hf ?D _ _ _ _ _ _ _ _ _ _ _ _ _ _ _ _ _ _ _ _ _ _ ?k1 ?k2 ?k3 ?kP ?k5 ?k6 ?k7 ?k8 ?XB ?TB ?_)
  case kP => exact hS9
  case k2 => k_asm
  case k3 => k_asm
  case k1 => k_asm
  case k5 => k_asm
  case k6 => exact rfl
  case k7 => ktr_room
  case k8 => ktr_units
  case XB => exact X
  case TB => exact T
  case hf => exact fun h hs => ⟨_, _, _, _, hs _ (.head _)⟩
  case D =>
    clear hret nN9 hS9 F X N T B hun hdp
    unfold Crs
    intro dp2 un2 gd2 cn2 cs2 a2 ccd2 cl2 outer2 A2 base2 h2 L2 m2 s2 Q2 E2 p2 loose2 mean2 mg2 mb2 B2 F2 X2 hP2 T2 hcs2 hdp2 hun2 hret2
    refine wpAny_call ?_
    k_dflt (refine' own_lam B2 F2 X2 T2 ?kA ?kF ?kK (hP2 _ (.head _)) ⟨_, _, _, _, rfl, (hP2 _ (.tail _ (.head _))), dd1, dd2⟩ ?k8 ?k9 ?kB ?_ ?c2 ?c3 ?c4 ?c5; (case kA => exact rfl); (case kF => exact rfl); (case kK => assumption); (case k8 => ktr_room); (case k9 => exact rfl); (case c5 => decide); (case kB => exact locs rfl); (case c2 => exact rfl); (case c3 => exact rfl); (case c4 => exact rfl); k_whole)
    intro g3 L3 h3 hg3 FG3 F3 N3 B3 X3 T3
    have hS3 := Stand.keeps (h' := g3) hP2 fun b o e => hg3 b o e (fun hm => nomatch hm)
    (try dsimp only)
    (try k_lift B3)
    (try k_fold)
    repeat' (first
        | (k_unfold; (try dsimp only))
        | (k_end; kc_close)
        | ((with_reducible show wpAny _ _ (call (Value.ref _) _) _ _ _); first
          | (with_reducible ((with_reducible show wpAny _ _ (call (Value.ref 153) (Value.str (Str.ofString "BigInt") _ :: Value.str (Str.ofString "*") _ :: Value.int _ _ :: Value.int (1 - _) _ :: _)) _ _ _); k_here; k_dflt (refine' clm_use (checked_num_c _ _ _ _ _ _ (by assumption) (by assumption) (by assumption) (by assumption)) (by k_asm) (by k_asm) (by k_asm) (by k_asm) (by k_asm) (by first | exact rfl | assumption) (by ktr_room) (by ktr_units) ?_; k_whole); intro q'z t1'z h'z tk'z F'z N'z l1'z; (try k_lt l1'z); (try dsimp only); (try k_fold); (try k_sweep)))
          | (with_reducible ((with_reducible show wpAny _ _ (call (Value.ref 174) (Value.str (Str.ofString "BigInt") _ :: Value.int (-1) _ :: _)) _ _ _); k_here; k_dflt (refine' clm_use (moved_ok_c _ _ _) (by k_asm) (by k_asm) (by k_asm) (by k_asm) (by k_asm) (by first | exact rfl | assumption) (by ktr_room) (by ktr_units) ?_; k_whole); intro u'z h'z tk'z F'z N'z; (try dsimp only); (try k_fold); (try k_sweep)))
          | (with_reducible ((with_reducible show wpAny _ _ (call (Value.ref 174) (Value.str (Str.ofString "BigInt") _ :: Value.int 1 _ :: _)) _ _ _); k_here; k_dflt (refine' clr_use (moved_bad_c _ _ _) (by k_asm) (by k_asm) (by k_asm) (by k_asm) (by first | exact rfl | assumption) (by ktr_room) (by ktr_units) ?_; k_whole); intro e'z h'z tk'z R'z up'z; (try dsimp only)))
          | (with_reducible ((with_reducible show wpAny _ _ (call (Value.ref 153) (Value.str (Str.ofString "BigInt") _ :: Value.str (Str.ofString "*") _ :: _)) _ _ _); k_here; k_dflt (refine' clr_use (checked_mul_c _ _ _ _ _ _ (by assumption)) (by k_asm) (by k_asm) (by k_asm) (by k_asm) (by first | exact rfl | assumption) (by ktr_room) (by ktr_units) ?_; k_whole); intro e'z h'z tk'z R'z up'z; (try dsimp only)))
          | (with_reducible ((with_reducible show wpAny _ _ (call (Value.ref 153) (Value.str (Str.ofString "BigInt") _ :: Value.str (Str.ofString "+") _ :: _)) _ _ _); k_here; k_dflt (refine' clr_use (checked_add_c _ _ _ _ _ _ (by assumption)) (by k_asm) (by k_asm) (by k_asm) (by k_asm) (by first | exact rfl | assumption) (by ktr_room) (by ktr_units) ?_; k_whole); intro e'z h'z tk'z R'z up'z; (try dsimp only)))
          | ((with_reducible show wpAny _ _ (call (Value.ref 315) _) _ _ _); refine unhold ?_)
          | (with_reducible ((with_reducible show wpAny _ _ (call (Value.ref 139) (Value.str (Str.ofString "BigInt") _ :: _)) _ _ _); k_here; k_dflt (refine' clm_use (wrapped_big_c _ _ _ (by assumption)) (by k_asm) (by k_asm) (by k_asm) (by k_asm) (by k_asm) (by first | exact rfl | assumption) (by ktr_room) (by ktr_units) ?_; k_whole); intro u'z h'z tk'z F'z N'z; (try dsimp only); (try k_fold); (try k_sweep)))
          | fail)
        | ((with_reducible show wpAny _ _ (eval (Expr.Call (Expr.Name (Str.ofString "wrapped") _) _ _ _) _) _ _ _); k_here; refine Call_ ?_)
        | ((with_reducible show wpAny _ _ (eval (Expr.Call (Expr.Name (Str.ofString "moved_up") _) _ _ _) _) _ _ _); k_here; refine Call_ ?_)
        | ((with_reducible show wpAny _ _ (eval (Expr.Call (Expr.Name (Str.ofString "checked") _) _ _ _) _) _ _ _); k_here; refine Call_ ?_)
        | ((with_reducible show wpAny _ _ (eval (Expr.Call (Expr.Name (Str.ofString "_law_heard") _) _ _ _) _) _ _ _); k_here; refine Call_ ?_)
        | walk1
        | (dsimp only; walk1)
        | (leave1; walk_say "STEP leave1"; (try dsimp only))
        | fail "no step")
    exact clr_on hret2 hg3 rfl B3 (by k_asm) (by assumption) (by assumption)
  intro tA h0A hA tkA TA FA BA XA PA kNA
  have NA := kNA _ nN9
  have hCA := hP.keeps BA.stays
  clear kNA hS9 nN9 dd1 dd2
  (try dsimp only); (try k_fold); (try k_sweep)
  repeat' (first
      | (k_unfold; (try dsimp only))
      | (k_end; kc_close)
      | ((with_reducible show wpAny _ _ (call (Value.ref _) _) _ _ _); first
        | (with_reducible ((with_reducible show wpAny _ _ (call (Value.ref 153) (Value.str (Str.ofString "BigInt") _ :: Value.str (Str.ofString "*") _ :: Value.int _ _ :: Value.int (1 - _) _ :: _)) _ _ _); k_here; k_dflt (refine' clm_use (checked_num_c _ _ _ _ _ _ (by assumption) (by assumption) (by assumption) (by assumption)) (by k_asm) (by k_asm) (by k_asm) (by k_asm) (by k_asm) (by first | exact rfl | assumption) (by ktr_room) (by ktr_units) ?_; k_whole); intro q'z t1'z h'z tk'z F'z N'z l1'z; (try k_lt l1'z); (try dsimp only); (try k_fold); (try k_sweep)))
        | (with_reducible ((with_reducible show wpAny _ _ (call (Value.ref 174) (Value.str (Str.ofString "BigInt") _ :: Value.int (-1) _ :: _)) _ _ _); k_here; k_dflt (refine' clm_use (moved_ok_c _ _ _) (by k_asm) (by k_asm) (by k_asm) (by k_asm) (by k_asm) (by first | exact rfl | assumption) (by ktr_room) (by ktr_units) ?_; k_whole); intro u'z h'z tk'z F'z N'z; (try dsimp only); (try k_fold); (try k_sweep)))
        | (with_reducible ((with_reducible show wpAny _ _ (call (Value.ref 174) (Value.str (Str.ofString "BigInt") _ :: Value.int 1 _ :: _)) _ _ _); k_here; k_dflt (refine' clr_use (moved_bad_c _ _ _) (by k_asm) (by k_asm) (by k_asm) (by k_asm) (by first | exact rfl | assumption) (by ktr_room) (by ktr_units) ?_; k_whole); intro e'z h'z tk'z R'z up'z; (try dsimp only)))
        | (with_reducible ((with_reducible show wpAny _ _ (call (Value.ref 153) (Value.str (Str.ofString "BigInt") _ :: Value.str (Str.ofString "*") _ :: _)) _ _ _); k_here; k_dflt (refine' clr_use (checked_mul_c _ _ _ _ _ _ (by assumption)) (by k_asm) (by k_asm) (by k_asm) (by k_asm) (by first | exact rfl | assumption) (by ktr_room) (by ktr_units) ?_; k_whole); intro e'z h'z tk'z R'z up'z; (try dsimp only)))
        | (with_reducible ((with_reducible show wpAny _ _ (call (Value.ref 153) (Value.str (Str.ofString "BigInt") _ :: Value.str (Str.ofString "+") _ :: _)) _ _ _); k_here; k_dflt (refine' clr_use (checked_add_c _ _ _ _ _ _ (by assumption)) (by k_asm) (by k_asm) (by k_asm) (by k_asm) (by first | exact rfl | assumption) (by ktr_room) (by ktr_units) ?_; k_whole); intro e'z h'z tk'z R'z up'z; (try dsimp only)))
        | ((with_reducible show wpAny _ _ (call (Value.ref 315) _) _ _ _); refine unhold ?_)
        | (with_reducible ((with_reducible show wpAny _ _ (call (Value.ref 139) (Value.str (Str.ofString "BigInt") _ :: _)) _ _ _); k_here; k_dflt (refine' clm_use (wrapped_big_c _ _ _ (by assumption)) (by k_asm) (by k_asm) (by k_asm) (by k_asm) (by k_asm) (by first | exact rfl | assumption) (by ktr_room) (by ktr_units) ?_; k_whole); intro u'z h'z tk'z F'z N'z; (try dsimp only); (try k_fold); (try k_sweep)))
        | fail)
      | ((with_reducible show wpAny _ _ (eval (Expr.Call (Expr.Name (Str.ofString "wrapped") _) _ _ _) _) _ _ _); k_here; refine Call_ ?_)
      | ((with_reducible show wpAny _ _ (eval (Expr.Call (Expr.Name (Str.ofString "moved_up") _) _ _ _) _) _ _ _); k_here; refine Call_ ?_)
      | ((with_reducible show wpAny _ _ (eval (Expr.Call (Expr.Name (Str.ofString "checked") _) _ _ _) _) _ _ _); k_here; refine Call_ ?_)
      | ((with_reducible show wpAny _ _ (eval (Expr.Call (Expr.Name (Str.ofString "_law_heard") _) _ _ _) _) _ _ _); k_here; refine Call_ ?_)
      | walk1
      | (dsimp only; walk1)
      | (leave1; walk_say "STEP leave1"; (try dsimp only))
      | fail "no step")
  unfold Hold
  (with_reducible rename News h0A L' _ _ => nN9)
  have hS9 := fun p hp => (nN9 p hp).1
  rename (_ : Obj).data = Data.fields _ => dd1
  rename (_ : Array Value)[1]? = some _ => dd2
  k_dflt (refine' heard_bad_c _ _ (Str.ofString "OverflowError") ?hf ?D _ _ _ _ _ _ _ _ _ _ _ _ _ _ _ _ _ _ _ _ _ _ ?k1 ?k2 ?k3 ?kP ?k5 ?k6 ?k7 ?k8 ?XB ?TB ?_)
  case kP => exact hS9
  case k2 => k_asm
  case k3 => k_asm
  case k1 => k_asm
  case k5 => k_asm
  case k6 => exact rfl
  case k7 => ktr_room
  case k8 => ktr_units
  case XB => exact X
  case TB => exact T
  case hf => exact fun h hs => ⟨_, _, _, _, hs _ (.head _)⟩
  case D =>
    clear hret nN9 hS9 F X N T B hun hdp
    unfold Crs
    intro dp2 un2 gd2 cn2 cs2 a2 ccd2 cl2 outer2 A2 base2 h2 L2 m2 s2 Q2 E2 p2 loose2 mean2 mg2 mb2 B2 F2 X2 hP2 T2 hcs2 hdp2 hun2 hret2
    refine wpAny_call ?_
    k_dflt (refine' own_lam B2 F2 X2 T2 ?kA ?kF ?kK (hP2 _ (.head _)) ⟨_, _, _, _, rfl, (hP2 _ (.tail _ (.head _))), dd1, dd2⟩ ?k8 ?k9 ?kB ?_ ?c2 ?c3 ?c4 ?c5; (case kA => exact rfl); (case kF => exact rfl); (case kK => assumption); (case k8 => ktr_room); (case k9 => exact rfl); (case c5 => decide); (case kB => exact locs rfl); (case c2 => exact rfl); (case c3 => exact rfl); (case c4 => exact rfl); k_whole)
    intro g3 L3 h3 hg3 FG3 F3 N3 B3 X3 T3
    have hS3 := Stand.keeps (h' := g3) hP2 fun b o e => hg3 b o e (fun hm => nomatch hm)
    (try dsimp only)
    (try k_lift B3)
    (try k_fold)
    repeat' (first
        | (k_unfold; (try dsimp only))
        | (k_end; kc_close)
        | ((with_reducible show wpAny _ _ (call (Value.ref _) _) _ _ _); first
          | (with_reducible ((with_reducible show wpAny _ _ (call (Value.ref 153) (Value.str (Str.ofString "BigInt") _ :: Value.str (Str.ofString "*") _ :: Value.int _ _ :: Value.int (1 - _) _ :: _)) _ _ _); k_here; k_dflt (refine' clm_use (checked_num_c _ _ _ _ _ _ (by assumption) (by assumption) (by assumption) (by assumption)) (by k_asm) (by k_asm) (by k_asm) (by k_asm) (by k_asm) (by first | exact rfl | assumption) (by ktr_room) (by ktr_units) ?_; k_whole); intro q'z t1'z h'z tk'z F'z N'z l1'z; (try k_lt l1'z); (try dsimp only); (try k_fold); (try k_sweep)))
          | (with_reducible ((with_reducible show wpAny _ _ (call (Value.ref 174) (Value.str (Str.ofString "BigInt") _ :: Value.int (-1) _ :: _)) _ _ _); k_here; k_dflt (refine' clm_use (moved_ok_c _ _ _) (by k_asm) (by k_asm) (by k_asm) (by k_asm) (by k_asm) (by first | exact rfl | assumption) (by ktr_room) (by ktr_units) ?_; k_whole); intro u'z h'z tk'z F'z N'z; (try dsimp only); (try k_fold); (try k_sweep)))
          | (with_reducible ((with_reducible show wpAny _ _ (call (Value.ref 174) (Value.str (Str.ofString "BigInt") _ :: Value.int 1 _ :: _)) _ _ _); k_here; k_dflt (refine' clr_use (moved_bad_c _ _ _) (by k_asm) (by k_asm) (by k_asm) (by k_asm) (by first | exact rfl | assumption) (by ktr_room) (by ktr_units) ?_; k_whole); intro e'z h'z tk'z R'z up'z; (try dsimp only)))
          | (with_reducible ((with_reducible show wpAny _ _ (call (Value.ref 153) (Value.str (Str.ofString "BigInt") _ :: Value.str (Str.ofString "*") _ :: _)) _ _ _); k_here; k_dflt (refine' clr_use (checked_mul_c _ _ _ _ _ _ (by assumption)) (by k_asm) (by k_asm) (by k_asm) (by k_asm) (by first | exact rfl | assumption) (by ktr_room) (by ktr_units) ?_; k_whole); intro e'z h'z tk'z R'z up'z; (try dsimp only)))
          | (with_reducible ((with_reducible show wpAny _ _ (call (Value.ref 153) (Value.str (Str.ofString "BigInt") _ :: Value.str (Str.ofString "+") _ :: _)) _ _ _); k_here; k_dflt (refine' clr_use (checked_add_c _ _ _ _ _ _ (by assumption)) (by k_asm) (by k_asm) (by k_asm) (by k_asm) (by first | exact rfl | assumption) (by ktr_room) (by ktr_units) ?_; k_whole); intro e'z h'z tk'z R'z up'z; (try dsimp only)))
          | ((with_reducible show wpAny _ _ (call (Value.ref 315) _) _ _ _); refine unhold ?_)
          | (with_reducible ((with_reducible show wpAny _ _ (call (Value.ref 139) (Value.str (Str.ofString "BigInt") _ :: _)) _ _ _); k_here; k_dflt (refine' clm_use (wrapped_big_c _ _ _ (by assumption)) (by k_asm) (by k_asm) (by k_asm) (by k_asm) (by k_asm) (by first | exact rfl | assumption) (by ktr_room) (by ktr_units) ?_; k_whole); intro u'z h'z tk'z F'z N'z; (try dsimp only); (try k_fold); (try k_sweep)))
          | fail)
        | ((with_reducible show wpAny _ _ (eval (Expr.Call (Expr.Name (Str.ofString "wrapped") _) _ _ _) _) _ _ _); k_here; refine Call_ ?_)
        | ((with_reducible show wpAny _ _ (eval (Expr.Call (Expr.Name (Str.ofString "moved_up") _) _ _ _) _) _ _ _); k_here; refine Call_ ?_)
        | ((with_reducible show wpAny _ _ (eval (Expr.Call (Expr.Name (Str.ofString "checked") _) _ _ _) _) _ _ _); k_here; refine Call_ ?_)
        | ((with_reducible show wpAny _ _ (eval (Expr.Call (Expr.Name (Str.ofString "_law_heard") _) _ _ _) _) _ _ _); k_here; refine Call_ ?_)
        | walk1
        | (dsimp only; walk1)
        | (leave1; walk_say "STEP leave1"; (try dsimp only))
        | fail "no step")
    exact clr_on hret2 hg3 rfl B3 (by k_asm) (by assumption) (by assumption)
  intro tB h0B hB tkB TB FB BB XB PB kNB
  have NB := kNB _ nN9
  have hCB := hP.keeps BB.stays
  clear kNB hS9 nN9 dd1 dd2
  (try dsimp only); (try k_fold); (try k_sweep)
  repeat' (first
      | (k_unfold; (try dsimp only))
      | (k_end; kc_close)
      | ((with_reducible show wpAny _ _ (call (Value.ref _) _) _ _ _); first
        | (with_reducible ((with_reducible show wpAny _ _ (call (Value.ref 153) (Value.str (Str.ofString "BigInt") _ :: Value.str (Str.ofString "*") _ :: Value.int _ _ :: Value.int (1 - _) _ :: _)) _ _ _); k_here; k_dflt (refine' clm_use (checked_num_c _ _ _ _ _ _ (by assumption) (by assumption) (by assumption) (by assumption)) (by k_asm) (by k_asm) (by k_asm) (by k_asm) (by k_asm) (by first | exact rfl | assumption) (by ktr_room) (by ktr_units) ?_; k_whole); intro q'z t1'z h'z tk'z F'z N'z l1'z; (try k_lt l1'z); (try dsimp only); (try k_fold); (try k_sweep)))
        | (with_reducible ((with_reducible show wpAny _ _ (call (Value.ref 174) (Value.str (Str.ofString "BigInt") _ :: Value.int (-1) _ :: _)) _ _ _); k_here; k_dflt (refine' clm_use (moved_ok_c _ _ _) (by k_asm) (by k_asm) (by k_asm) (by k_asm) (by k_asm) (by first | exact rfl | assumption) (by ktr_room) (by ktr_units) ?_; k_whole); intro u'z h'z tk'z F'z N'z; (try dsimp only); (try k_fold); (try k_sweep)))
        | (with_reducible ((with_reducible show wpAny _ _ (call (Value.ref 174) (Value.str (Str.ofString "BigInt") _ :: Value.int 1 _ :: _)) _ _ _); k_here; k_dflt (refine' clr_use (moved_bad_c _ _ _) (by k_asm) (by k_asm) (by k_asm) (by k_asm) (by first | exact rfl | assumption) (by ktr_room) (by ktr_units) ?_; k_whole); intro e'z h'z tk'z R'z up'z; (try dsimp only)))
        | (with_reducible ((with_reducible show wpAny _ _ (call (Value.ref 153) (Value.str (Str.ofString "BigInt") _ :: Value.str (Str.ofString "*") _ :: _)) _ _ _); k_here; k_dflt (refine' clr_use (checked_mul_c _ _ _ _ _ _ (by assumption)) (by k_asm) (by k_asm) (by k_asm) (by k_asm) (by first | exact rfl | assumption) (by ktr_room) (by ktr_units) ?_; k_whole); intro e'z h'z tk'z R'z up'z; (try dsimp only)))
        | (with_reducible ((with_reducible show wpAny _ _ (call (Value.ref 153) (Value.str (Str.ofString "BigInt") _ :: Value.str (Str.ofString "+") _ :: _)) _ _ _); k_here; k_dflt (refine' clr_use (checked_add_c _ _ _ _ _ _ (by assumption)) (by k_asm) (by k_asm) (by k_asm) (by k_asm) (by first | exact rfl | assumption) (by ktr_room) (by ktr_units) ?_; k_whole); intro e'z h'z tk'z R'z up'z; (try dsimp only)))
        | ((with_reducible show wpAny _ _ (call (Value.ref 315) _) _ _ _); refine unhold ?_)
        | (with_reducible ((with_reducible show wpAny _ _ (call (Value.ref 139) (Value.str (Str.ofString "BigInt") _ :: _)) _ _ _); k_here; k_dflt (refine' clm_use (wrapped_big_c _ _ _ (by assumption)) (by k_asm) (by k_asm) (by k_asm) (by k_asm) (by k_asm) (by first | exact rfl | assumption) (by ktr_room) (by ktr_units) ?_; k_whole); intro u'z h'z tk'z F'z N'z; (try dsimp only); (try k_fold); (try k_sweep)))
        | fail)
      | ((with_reducible show wpAny _ _ (eval (Expr.Call (Expr.Name (Str.ofString "wrapped") _) _ _ _) _) _ _ _); k_here; refine Call_ ?_)
      | ((with_reducible show wpAny _ _ (eval (Expr.Call (Expr.Name (Str.ofString "moved_up") _) _ _ _) _) _ _ _); k_here; refine Call_ ?_)
      | ((with_reducible show wpAny _ _ (eval (Expr.Call (Expr.Name (Str.ofString "checked") _) _ _ _) _) _ _ _); k_here; refine Call_ ?_)
      | ((with_reducible show wpAny _ _ (eval (Expr.Call (Expr.Name (Str.ofString "_law_heard") _) _ _ _) _) _ _ _); k_here; refine Call_ ?_)
      | walk1
      | (dsimp only; walk1)
      | (leave1; walk_say "STEP leave1"; (try dsimp only))
      | fail "no step")
  unfold Hold
  (with_reducible rename News h0B L' _ _ => nN9)
  have hS9 := fun p hp => (nN9 p hp).1
  rename (_ : Obj).data = Data.fields _ => dd1
  rename (_ : Array Value)[1]? = some _ => dd2
  k_dflt (refine' heard_bad_c _ _ (Str.ofString "OverflowError") ?hf ?D _ _ _ _ _ _ _ _ _ _ _ _ _ _ _ _ _ _ _ _ _ _ ?k1 ?k2 ?k3 ?kP ?k5 ?k6 ?k7 ?k8 ?XB ?TB ?_)
  case kP => exact hS9
  case k2 => k_asm
  case k3 => k_asm
  case k1 => k_asm
  case k5 => k_asm
  case k6 => exact rfl
  case k7 => ktr_room
  case k8 => ktr_units
  case XB => exact X
  case TB => exact T
  case hf => exact fun h hs => ⟨_, _, _, _, hs _ (.head _)⟩
  case D =>
    clear hret nN9 hS9 F X N T B hun hdp
    unfold Crs
    intro dp2 un2 gd2 cn2 cs2 a2 ccd2 cl2 outer2 A2 base2 h2 L2 m2 s2 Q2 E2 p2 loose2 mean2 mg2 mb2 B2 F2 X2 hP2 T2 hcs2 hdp2 hun2 hret2
    refine wpAny_call ?_
    k_dflt (refine' own_lam B2 F2 X2 T2 ?kA ?kF ?kK (hP2 _ (.head _)) ⟨_, _, _, _, rfl, (hP2 _ (.tail _ (.head _))), dd1, dd2⟩ ?k8 ?k9 ?kB ?_ ?c2 ?c3 ?c4 ?c5; (case kA => exact rfl); (case kF => exact rfl); (case kK => assumption); (case k8 => ktr_room); (case k9 => exact rfl); (case c5 => decide); (case kB => exact locs rfl); (case c2 => exact rfl); (case c3 => exact rfl); (case c4 => exact rfl); k_whole)
    intro g3 L3 h3 hg3 FG3 F3 N3 B3 X3 T3
    have hS3 := Stand.keeps (h' := g3) hP2 fun b o e => hg3 b o e (fun hm => nomatch hm)
    (try dsimp only)
    (try k_lift B3)
    (try k_fold)
    repeat' (first
        | (k_unfold; (try dsimp only))
        | (k_end; kc_close)
        | ((with_reducible show wpAny _ _ (call (Value.ref _) _) _ _ _); first
          | (with_reducible ((with_reducible show wpAny _ _ (call (Value.ref 153) (Value.str (Str.ofString "BigInt") _ :: Value.str (Str.ofString "*") _ :: Value.int _ _ :: Value.int (1 - _) _ :: _)) _ _ _); k_here; k_dflt (refine' clm_use (checked_num_c _ _ _ _ _ _ (by assumption) (by assumption) (by assumption) (by assumption)) (by k_asm) (by k_asm) (by k_asm) (by k_asm) (by k_asm) (by first | exact rfl | assumption) (by ktr_room) (by ktr_units) ?_; k_whole); intro q'z t1'z h'z tk'z F'z N'z l1'z; (try k_lt l1'z); (try dsimp only); (try k_fold); (try k_sweep)))
          | (with_reducible ((with_reducible show wpAny _ _ (call (Value.ref 174) (Value.str (Str.ofString "BigInt") _ :: Value.int (-1) _ :: _)) _ _ _); k_here; k_dflt (refine' clm_use (moved_ok_c _ _ _) (by k_asm) (by k_asm) (by k_asm) (by k_asm) (by k_asm) (by first | exact rfl | assumption) (by ktr_room) (by ktr_units) ?_; k_whole); intro u'z h'z tk'z F'z N'z; (try dsimp only); (try k_fold); (try k_sweep)))
          | (with_reducible ((with_reducible show wpAny _ _ (call (Value.ref 174) (Value.str (Str.ofString "BigInt") _ :: Value.int 1 _ :: _)) _ _ _); k_here; k_dflt (refine' clr_use (moved_bad_c _ _ _) (by k_asm) (by k_asm) (by k_asm) (by k_asm) (by first | exact rfl | assumption) (by ktr_room) (by ktr_units) ?_; k_whole); intro e'z h'z tk'z R'z up'z; (try dsimp only)))
          | (with_reducible ((with_reducible show wpAny _ _ (call (Value.ref 153) (Value.str (Str.ofString "BigInt") _ :: Value.str (Str.ofString "*") _ :: _)) _ _ _); k_here; k_dflt (refine' clr_use (checked_mul_c _ _ _ _ _ _ (by assumption)) (by k_asm) (by k_asm) (by k_asm) (by k_asm) (by first | exact rfl | assumption) (by ktr_room) (by ktr_units) ?_; k_whole); intro e'z h'z tk'z R'z up'z; (try dsimp only)))
          | (with_reducible ((with_reducible show wpAny _ _ (call (Value.ref 153) (Value.str (Str.ofString "BigInt") _ :: Value.str (Str.ofString "+") _ :: _)) _ _ _); k_here; k_dflt (refine' clr_use (checked_add_c _ _ _ _ _ _ (by assumption)) (by k_asm) (by k_asm) (by k_asm) (by k_asm) (by first | exact rfl | assumption) (by ktr_room) (by ktr_units) ?_; k_whole); intro e'z h'z tk'z R'z up'z; (try dsimp only)))
          | ((with_reducible show wpAny _ _ (call (Value.ref 315) _) _ _ _); refine unhold ?_)
          | (with_reducible ((with_reducible show wpAny _ _ (call (Value.ref 139) (Value.str (Str.ofString "BigInt") _ :: _)) _ _ _); k_here; k_dflt (refine' clm_use (wrapped_big_c _ _ _ (by assumption)) (by k_asm) (by k_asm) (by k_asm) (by k_asm) (by k_asm) (by first | exact rfl | assumption) (by ktr_room) (by ktr_units) ?_; k_whole); intro u'z h'z tk'z F'z N'z; (try dsimp only); (try k_fold); (try k_sweep)))
          | fail)
        | ((with_reducible show wpAny _ _ (eval (Expr.Call (Expr.Name (Str.ofString "wrapped") _) _ _ _) _) _ _ _); k_here; refine Call_ ?_)
        | ((with_reducible show wpAny _ _ (eval (Expr.Call (Expr.Name (Str.ofString "moved_up") _) _ _ _) _) _ _ _); k_here; refine Call_ ?_)
        | ((with_reducible show wpAny _ _ (eval (Expr.Call (Expr.Name (Str.ofString "checked") _) _ _ _) _) _ _ _); k_here; refine Call_ ?_)
        | ((with_reducible show wpAny _ _ (eval (Expr.Call (Expr.Name (Str.ofString "_law_heard") _) _ _ _) _) _ _ _); k_here; refine Call_ ?_)
        | walk1
        | (dsimp only; walk1)
        | (leave1; walk_say "STEP leave1"; (try dsimp only))
        | fail "no step")
    exact clr_on hret2 hg3 rfl B3 (by k_asm) (by assumption) (by assumption)
  intro tC h0C hC tkC TC FC BC XC PC kNC
  have NC := kNC _ nN9
  have hCC := hP.keeps BC.stays
  clear kNC hS9 nN9 dd1 dd2
  (try dsimp only); (try k_fold); (try k_sweep)
  repeat' (first
      | (k_unfold; (try dsimp only))
      | (k_end; kc_close)
      | ((with_reducible show wpAny _ _ (call (Value.ref _) _) _ _ _); first
        | (with_reducible ((with_reducible show wpAny _ _ (call (Value.ref 153) (Value.str (Str.ofString "BigInt") _ :: Value.str (Str.ofString "*") _ :: Value.int _ _ :: Value.int (1 - _) _ :: _)) _ _ _); k_here; k_dflt (refine' clm_use (checked_num_c _ _ _ _ _ _ (by assumption) (by assumption) (by assumption) (by assumption)) (by k_asm) (by k_asm) (by k_asm) (by k_asm) (by k_asm) (by first | exact rfl | assumption) (by ktr_room) (by ktr_units) ?_; k_whole); intro q'z t1'z h'z tk'z F'z N'z l1'z; (try k_lt l1'z); (try dsimp only); (try k_fold); (try k_sweep)))
        | (with_reducible ((with_reducible show wpAny _ _ (call (Value.ref 174) (Value.str (Str.ofString "BigInt") _ :: Value.int (-1) _ :: _)) _ _ _); k_here; k_dflt (refine' clm_use (moved_ok_c _ _ _) (by k_asm) (by k_asm) (by k_asm) (by k_asm) (by k_asm) (by first | exact rfl | assumption) (by ktr_room) (by ktr_units) ?_; k_whole); intro u'z h'z tk'z F'z N'z; (try dsimp only); (try k_fold); (try k_sweep)))
        | (with_reducible ((with_reducible show wpAny _ _ (call (Value.ref 174) (Value.str (Str.ofString "BigInt") _ :: Value.int 1 _ :: _)) _ _ _); k_here; k_dflt (refine' clr_use (moved_bad_c _ _ _) (by k_asm) (by k_asm) (by k_asm) (by k_asm) (by first | exact rfl | assumption) (by ktr_room) (by ktr_units) ?_; k_whole); intro e'z h'z tk'z R'z up'z; (try dsimp only)))
        | (with_reducible ((with_reducible show wpAny _ _ (call (Value.ref 153) (Value.str (Str.ofString "BigInt") _ :: Value.str (Str.ofString "*") _ :: _)) _ _ _); k_here; k_dflt (refine' clr_use (checked_mul_c _ _ _ _ _ _ (by assumption)) (by k_asm) (by k_asm) (by k_asm) (by k_asm) (by first | exact rfl | assumption) (by ktr_room) (by ktr_units) ?_; k_whole); intro e'z h'z tk'z R'z up'z; (try dsimp only)))
        | (with_reducible ((with_reducible show wpAny _ _ (call (Value.ref 153) (Value.str (Str.ofString "BigInt") _ :: Value.str (Str.ofString "+") _ :: _)) _ _ _); k_here; k_dflt (refine' clr_use (checked_add_c _ _ _ _ _ _ (by assumption)) (by k_asm) (by k_asm) (by k_asm) (by k_asm) (by first | exact rfl | assumption) (by ktr_room) (by ktr_units) ?_; k_whole); intro e'z h'z tk'z R'z up'z; (try dsimp only)))
        | ((with_reducible show wpAny _ _ (call (Value.ref 315) _) _ _ _); refine unhold ?_)
        | (with_reducible ((with_reducible show wpAny _ _ (call (Value.ref 139) (Value.str (Str.ofString "BigInt") _ :: _)) _ _ _); k_here; k_dflt (refine' clm_use (wrapped_big_c _ _ _ (by assumption)) (by k_asm) (by k_asm) (by k_asm) (by k_asm) (by k_asm) (by first | exact rfl | assumption) (by ktr_room) (by ktr_units) ?_; k_whole); intro u'z h'z tk'z F'z N'z; (try dsimp only); (try k_fold); (try k_sweep)))
        | fail)
      | ((with_reducible show wpAny _ _ (eval (Expr.Call (Expr.Name (Str.ofString "wrapped") _) _ _ _) _) _ _ _); k_here; refine Call_ ?_)
      | ((with_reducible show wpAny _ _ (eval (Expr.Call (Expr.Name (Str.ofString "moved_up") _) _ _ _) _) _ _ _); k_here; refine Call_ ?_)
      | ((with_reducible show wpAny _ _ (eval (Expr.Call (Expr.Name (Str.ofString "checked") _) _ _ _) _) _ _ _); k_here; refine Call_ ?_)
      | ((with_reducible show wpAny _ _ (eval (Expr.Call (Expr.Name (Str.ofString "_law_heard") _) _ _ _) _) _ _ _); k_here; refine Call_ ?_)
      | walk1
      | (dsimp only; walk1)
      | (leave1; walk_say "STEP leave1"; (try dsimp only))
      | fail "no step")
  rw [show ((-1 * 2 ^ 3999 : Int) == -(2 ^ Int.toNat 3999)) = true from beq_iff_eq.mpr pow_3999]
  (with_reducible rename Fr h0C _ _ _ => FC)
  (with_reducible rename News h0C L' _ _ => N10)
  exact big_end (env := envX cn cs L a ccd cl) hret B0 F N rfl hg' (TA.trans (TB.trans TC)) FC N10 (by k_mem)

/- FL -/

noncomputable abbrev HK0 := kmHook KF KAs (fun _ => by kernel_rfl) [324, 317]

local macro_rules | `(tactic| walk_at "ite") => `(tactic| ((with_reducible rename (_ ∧ _ ∧ _ ∧ ks _ = decide _ ∧ _) => kt9); refine ite_neg (by simp [kt9.2.2.2.1, kt9.2.2.2.2.1, kt9.2.2.2.2.2.1, kt9.2.2.2.2.2.2.1, kt9.2.2.2.2.2.2.2]; done) ?_))
local macro_rules | `(tactic| walk_at "eval Name") => `(tactic| (k_here; k_dflt (k_compLift; (try k_unmd); (try k_fold))))
set_option maxHeartbeats 40000000 in
theorem fin : PySem.Challenge.rw_pc0193_01.Holds := by
  w_on
  refine holds_law law_said fun said => ?_
  refine holds_open (q := vw) (loose := lse) (Xt := fun s => xlAt vw [] s && recOk (RowW.records PySem.Challenge.rw_pc0193_01.row.toRowW) s) (XP := XL vw []) (Yf := Hook.obs (kmHook KF KAs (fun _ => by kernel_rfl) [324, 317])) (Ya := Hook.val (kmHook KF KAs (fun _ => by kernel_rfl) [324, 317])) (YP := Hook.says (kmHook KF KAs (fun _ => by kernel_rfl) [324, 317])) (N := 3930) hl (Hook.of _) (Hook.keeps _) (fun s e => xl_of s (Bool.and_eq_true_iff.mp e).1) XL.keeps (by rfl) (by rfl) (by rfl) (fun s e => recFacts_of (Bool.and_eq_true_iff.mp e).2) (by rfl) (by first | assumption | decide +kernel) (by decide +kernel) ⟨rfl,rfl,rfl,rfl,rfl, by decide +kernel⟩ ?hw ?hc
  case hw => w_witness2
  k_go0
  all_goals try k_fold
  rename (PyData.list (List.map PyData.int _)).layable0 = true => hlay9
  have hB9 := fun (n : Int) hn => Nat.le_trans (PyData.bits_item_of_ints (n := n) hlay9 hn) (show 2 ^ 20 ≤ 1048576 by decide)
  have hL9 : ∀ {ns : List Int}, ¬ ((63 : Int) < (ns.length : Int)) → ns.length ≤ 63 := fun h => by omega
  rename ¬ _ < _ => hc9
  have hL8 := hL9 hc9
  have hk8 : Kind (Str.ofString "Int8") := by unfold Kind kindsL; exact .head _
  repeat' (first
      | (k_unfold; (try dsimp only))
      | (k_end; kc_close)
      | ((with_reducible show wpAny _ _ (call (Value.ref _) _) _ _ _); first
        | ((with_reducible show wpAny _ _ (call (Value.ref 308) _) _ _ _); k_here; (with_reducible rename News _ _ _ _ => lN9z); k_dflt (refine' clo_useI (by k_asm) (by k_asm) (by k_asm) (by exact no_news) (by trivial) (law_shifts_right_c _ _ (by assumption) _ _ (by assumption) _ _ (by omega)) (by k_asm) (by first | exact rfl | assumption) (by ktr_room) (by ktr_units) ?_; k_whole); intro u'z h'z tk'z F'z kN9z; (have N'z := kN9z _ lN9z); clear kN9z; (try dsimp only); (try k_fold); (try k_sweep))
        | ((with_reducible show wpAny _ _ (call (Value.ref 294) _) _ _ _); k_here; (with_reducible rename News _ _ _ _ => lN9z); k_dflt (refine' clo_useI (by k_asm) (by k_asm) (by k_asm) (by exact no_news) (by trivial) (law_bits_right_c _ _ (by assumption) _ _ (by assumption) _ _ (by assumption)) (by k_asm) (by first | exact rfl | assumption) (by ktr_room) (by ktr_units) ?_; k_whole); intro u'z h'z tk'z F'z kN9z; (have N'z := kN9z _ lN9z); clear kN9z; (try dsimp only); (try k_fold); (try k_sweep))
        | ((with_reducible show wpAny _ _ (call (Value.ref 329) _) _ _ _); k_here; (with_reducible rename News _ _ _ _ => lN9z); k_dflt (refine' clo0_useI (by k_asm) (by k_asm) (by k_asm) (by exact last_own lN9z (by k_mem)) (by assumption) (law_big_right_c _ _ (by exact last_fact (by assumption))) (by k_asm) (by first | exact rfl | assumption) (by ktr_room) (by ktr_units) ?_; k_whole); intro ps'z h'z tk'z F'z kN9z; (have N'z := last_back lN9z kN9z (by k_mem)); clear kN9z; (try dsimp only); (try k_fold); (try k_sweep))
        | ((with_reducible show wpAny _ _ (call (Value.ref 322) _) _ _ _); k_here; (with_reducible rename News _ _ _ _ => lN9z); (with_reducible rename LamOk _ _ _ => hT9z); (with_reducible rename Offs _ _ _ _ => hO8z); (with_reducible rename DOff _ _ _ _ => hD8z); k_dflt (refine' clo0_useI (by k_asm) (by k_asm) (by k_asm) (by exact lam_own lN9z (by k_mem) (by k_mem)) (by assumption) (law_converted_right_c _ _ _ hT9z _ _ (by assumption) _ _ (by walk_at "my bits")) (by k_asm) (by first | exact rfl | assumption) (by ktr_room) (by ktr_units) ?_; k_whole); (intro T'z d'z od'z h'z tk'z hT'z F'z kN9z kD9z); (have hD9z := lam_offs hD8z lN9z kD9z (by k_mem) (by k_mem) (by k_mem)); (have hd1z := hD9z.l); (have hd2z := hD9z.k); (have N'z := lam_back hO8z lN9z kN9z (by k_mem) (by k_mem) (by k_mem) (by k_mem) (by k_mem)); clear kN9z kD9z hT9z hD8z; (try dsimp only); (try k_fold); (try k_sweep))
        | ((with_reducible show wpAny _ _ (call (Value.ref 258) _) _ _ _); k_here; k_dflt (refine' clm_use (law_round_c _ _ (by assumption) _ _ (by walk_at "my bits")) (by k_asm) (by k_asm) (by k_asm) (by k_asm) (by k_asm) (by first | exact rfl | assumption) (by ktr_room) (by ktr_units) ?_; k_whole); intro u'z h'z tk'z F'z N'z; (try dsimp only); (try k_fold); (try k_sweep))
        | ((with_reducible show wpAny _ _ (call (Value.ref 237) _) _ _ _); k_here; (with_reducible rename News _ _ _ _ => lN9z); k_dflt (refine' clo_useI (by k_asm) (by k_asm) (by k_asm) (by exact no_news) (by (dsimp only; walk_at "my script")) (law_pot_c _ _ _ (by assumption) (by assumption) (by assumption)) (by k_asm) (by first | exact rfl | assumption) (by ktr_room) (by ktr_units) ?_; k_whole); intro q'z a'z b'z t1'z t2'z c'z h'z tk'z ha'z hb0'z hb1'z F'z kN9z o9z; (have N'z := kN9z _ lN9z); (have o1'z := o9z _ lN9z); clear kN9z o9z; (try simp only [LCg.Off1, and_true] at o1'z); (try dsimp only); (try k_fold); (try k_sweep); (try dsimp only); (try k_fold); (try k_sweep))
        | ((with_reducible show wpAny _ _ (call (Value.ref 265) _) _ _ _); k_here; (with_reducible rename News _ _ _ _ => lN9z); k_dflt (refine' clo_useI (by k_asm) (by k_asm) (by k_asm) (by walk_at "my own") (by trivial) (law_some_c _ _ _ _ _ _ (by assumption) (by assumption) (by assumption) _ _ (by assumption)) (by k_asm) (by first | exact rfl | assumption) (by ktr_room) (by ktr_units) ?_; k_whole); intro d'z a'z b'z t'z t1'z t2'z c'z h'z tk'z hd'z ha'z hb0'z hb1'z F'z kN9z; (walk_at "my back"); (try dsimp only); (try dsimp only); (try k_fold); (try k_sweep))
        | ((with_reducible show wpAny _ _ (call (Value.ref 244) _) _ _ _); k_here; (with_reducible rename News _ _ _ _ => lN9z); k_dflt (refine' clo_useI (by k_asm) (by k_asm) (by k_asm) (by walk_at "my own") (by trivial) (law_out_c _ _ _ _ _ _ (by assumption) (by assumption) (by assumption) _ _ (by walk_at "my pos") (by walk_at "my log")) (by k_asm) (by first | exact rfl | assumption) (by ktr_room) (by ktr_units) ?_; k_whole); intro d'z a'z b'z t'z t1'z t2'z c'z h'z tk'z hd'z ha'z hb0'z hb1'z F'z kN9z; (walk_at "my back"); (try dsimp only); (try dsimp only); (try k_fold); (try k_sweep))
        | ((with_reducible show wpAny _ _ (call (Value.ref 289) _) _ _ _); k_here; (with_reducible rename News _ _ _ _ => lN9z); k_dflt (refine' clo_useI (by k_asm) (by k_asm) (by k_asm) (by exact no_news) (by trivial) (law_sums_right_c _ _ (by assumption) _ _ (by assumption) _ _ (by assumption)) (by k_asm) (by first | exact rfl | assumption) (by ktr_room) (by ktr_units) ?_; k_whole); intro u'z h'z tk'z F'z kN9z; (have N'z := kN9z _ lN9z); clear kN9z; (try dsimp only); (try k_fold); (try k_sweep))
        | ((with_reducible show wpAny _ _ (call (Value.ref 258) _) _ _ _); k_here; k_dflt (refine' clm_use (law_round_c _ _ (by assumption) _ _ (by assumption)) (by k_asm) (by k_asm) (by k_asm) (by k_asm) (by k_asm) (by first | exact rfl | assumption) (by ktr_room) (by ktr_units) ?_; k_whole); intro u'z h'z tk'z F'z N'z; (try dsimp only); (try k_fold); (try k_sweep))
        | ((with_reducible show wpAny _ _ (call (Value.ref 139) _) _ _ _); k_here; k_dflt (refine' clm_use (wrapped_c _ _ (by assumption) _ _) (by k_asm) (by k_asm) (by k_asm) (by k_asm) (by k_asm) (by first | exact rfl | assumption) (by ktr_room) (by ktr_units) ?_; k_whole); intro u'z h'z tk'z F'z N'z; (try dsimp only); (try k_fold); (try k_sweep))
        | ((with_reducible show wpAny _ _ (call (Value.ref 118) _) _ _ _); k_here; k_dflt (refine' clm_use (greatest_c _ _ (by assumption)) (by k_asm) (by k_asm) (by k_asm) (by k_asm) (by k_asm) (by first | exact rfl | assumption) (by ktr_room) (by ktr_units) ?_; k_whole); intro u'z h'z tk'z F'z N'z; (try dsimp only); (try k_fold); (try k_sweep))
        | ((with_reducible show wpAny _ _ (call (Value.ref 111) _) _ _ _); k_here; k_dflt (refine' clm_use (least_c _ _ (by assumption)) (by k_asm) (by k_asm) (by k_asm) (by k_asm) (by k_asm) (by first | exact rfl | assumption) (by ktr_room) (by ktr_units) ?_; k_whole); intro u'z h'z tk'z F'z N'z; (try dsimp only); (try k_fold); (try k_sweep))
        | ((with_reducible show wpAny _ _ (call (Value.ref 251) _) _ _ _); k_here; k_dflt (refine' clm_use (law_ends_c _ _ (by assumption)) (by k_asm) (by k_asm) (by k_asm) (by k_asm) (by k_asm) (by first | exact rfl | assumption) (by ktr_room) (by ktr_units) ?_; k_whole); intro q'z t1'z t2'z h'z tk'z F'z N'z l1'z; (try k_lt l1'z); (try dsimp only); (try k_fold); (try k_sweep))
        | ((with_reducible show wpAny _ _ (call (Value.ref 277) _) _ _ _); k_here; k_dflt (refine' clm_use (law_width_c _ _ (by assumption)) (by k_asm) (by k_asm) (by k_asm) (by k_asm) (by k_asm) (by first | exact rfl | assumption) (by ktr_room) (by ktr_units) ?_; k_whole); intro u'z h'z tk'z F'z N'z; (try dsimp only); (try k_fold); (try k_sweep))
        | ((with_reducible show wpAny _ _ (call (Value.ref 97) _) _ _ _); k_here; k_dflt (refine' clm_use (bits_of_c _ _ (by assumption)) (by k_asm) (by k_asm) (by k_asm) (by k_asm) (by k_asm) (by first | exact rfl | assumption) (by ktr_room) (by ktr_units) ?_; k_whole); intro u'z h'z tk'z F'z N'z; (try dsimp only); (try k_fold); (try k_sweep))
        | ((with_reducible show wpAny _ _ (call (Value.ref 104) [Value.str _ _]) _ _ _); k_here; k_dflt (refine' clm_use (is_signed_c _ _ (by assumption)) (by k_asm) (by k_asm) (by k_asm) (by k_asm) (by k_asm) (by first | exact rfl | assumption) (by ktr_room) (by ktr_units) ?_; k_whole); intro u'z h'z tk'z F'z N'z; (try dsimp only); (try k_fold); (try k_sweep))
        | fail)
      | ((with_reducible show wpAny _ _ (pyIter (Value.ref _)) (fun it s₂ => LoopAtV _ _ _ _ _ _ _ _ _ it s₂) _ _); refine unhold ?_)
      | (with_reducible ((with_reducible show wpAny _ _ (binaryOp Operator.Mult (Value.int 5 _) _) _ _ _); k_here; with_reducible refine PyProof.Rows.mul_int ?_))
      | (with_reducible ((with_reducible show wpAny _ _ (callWith _ (Value.ref _) _ _ _) _ _ _); k_here; k_dflt (refine' callWith_K (by k_asm) (by k_is) ?_; k_whole)))
      | (with_reducible ((with_reducible show wpAny _ _ (eval (Expr.Name (Str.ofString "wrapped") _) (compEnvC _ _ _ _)) _ _ _); k_here; k_dflt (refine PySem.W.LCgL.ld_global (by k_asm) (by k_asm) (by k_asm) (by k_is) ?_)))
      | ((with_reducible show UnrEnd _ _ _ _ _ _ _); (with_reducible rename Fr _ _ _ _ => F9z); (with_reducible rename News _ _ _ _ => N9z); (with_reducible rename LamOk _ _ _ => hT9z); (with_reducible rename Offs _ _ _ _ => hO8z); (with_reducible rename DOff _ _ _ _ => hD8z); rename _ = Data.cell _ => hko9; exact turn_end hT9z hO8z hD8z hko9 F9z N9z (by assumption) (by assumption) (by assumption) rfl rfl (by assumption) (by assumption) (by assumption) (by assumption))
      | (with_reducible ((with_reducible show wpAny _ _ (storeName _ (Str.ofString "kind") (Value.str _ _)) _ _ _); k_here; k_dflt (refine' storeX_C (by k_asm) (by k_asm) (by rfl) (by k_updF) (by k_asm) ?_ (by rfl) (by rfl); k_whole; intro h'z o'z F'z N'z d'z; (try dsimp only at N'z); (try k_sweep))))
      | (with_reducible ((with_reducible show wpAny _ _ (subscriptTail (Expr.Name (Str.ofString "kinds") _) _ (Value.ref _) (Value.int _ _)) _ _ _); k_here; k_dflt (refine' item_kind (by walk_at "my list") (by assumption) ?_ (by with_unfolding_all rfl) (by (intro _; with_unfolding_all rfl)); k_whole); intro k'z u'z hk'z; (have hkw'z := kw_le _ hk'z); (have hkl'z := klen _ hk'z); (have hkb'z := kbig _ hk'z); (have hkt'z := turn_facts _ hk'z)))
      | (with_reducible ((with_reducible show wpAny _ _ (subscriptTail (Expr.Name (Str.ofString "kinds") _) _ (Value.ref _) (Value.int _ _)) _ _ _); k_here; k_dflt (refine' item_kind (by walk_at "my list") (by assumption) ?_ (by with_unfolding_all rfl) (by (intro _; with_unfolding_all rfl)); k_whole); intro k'z u'z hk'z; (have hkw'z := kw_le _ hk'z); (have hkl'z := klen _ hk'z); (have hkb'z := kbig _ hk'z); (have hkt'z := turn_facts _ hk'z)))
      | (with_reducible ((with_reducible show TupSrc _ _ _ _ _ _ _ (Expr.Call _ [Expr.Constant _ _ _, _] _ _) _ _ _ _ _ _); k_here; k_dflt (refine' tupSrc_wr (Str.ofString "Int8") (by rfl) (by k_asm) (by k_asm) (by k_mem) (by l_ints) (by first | decide | exact Nat.le_of_ble_eq_true rfl) (fun g'z k'z t'z I'z oI'z C'z oC'z D'z m'z ys'z h'z tk'z E'z hk'z hC'z hx'z F'z N'z off'z ne'z => ?_) (fun g'z ys'z hI'z => ?_); k_whole); (all_goals (try dsimp only))))
      | (with_reducible ((with_reducible show TupSrc _ _ _ _ _ _ _ (Expr.Call _ [Expr.Name _ _, _] _ _) _ _ _ _ _ _); k_here; (with_reducible rename Kind _ => kK9z); k_dflt (refine' tupSrc_wrK kK9z (by rfl) (by k_asm) (by k_asm) (by k_mem) (by l_ints) (by first | decide | exact Nat.le_of_ble_eq_true rfl) (fun g'z k'z t'z I'z oI'z C'z oC'z D'z m'z ys'z h'z tk'z E'z hk'z hC'z hx'z F'z N'z off'z ne'z => ?_) (fun g'z ys'z hI'z => ?_); k_whole); (all_goals (try dsimp only))))
      | (with_reducible ((with_reducible show wpAny _ _ (eval (Expr.ListComp _ [⟨Expr.Name _ _, Expr.Tuple _ _ _, [], 0⟩] _ _) _) _ _ _); k_here; k_dflt (refine tup_ListComp (by k_asm) (by with_unfolding_all rfl) (by decide) (by rfl) (by decide) (by rfl) ?_)))
      | ((with_reducible show LCg.CompEnd _ _ _ _ _ _ _ _ _ _ _ _ _ _); (with_reducible rename LCg.Off3 _ _ _ _ => off9z); (with_reducible rename Fr _ _ _ _ => lF9z); (with_reducible rename News _ _ _ _ => lN9z); (refine comp_endS lF9z lN9z off9z (by (try dsimp only); k_mem) ?_); first | with_reducible rfl | rfl)
      | walk1
      | (dsimp only; walk1)
      | (leave1; walk_say "STEP leave1"; (try dsimp only))
      | fail "no step")
  unfold Hold
  (with_reducible rename Fr _ _ _ _ => lF9)
  (with_reducible rename News _ _ _ _ => lN9)
  (with_reducible rename IsRange _ _ _ _ _ _ _ _ => rgX)
  (refine' law_turn (kc := _) rfl ?hh rgX lF9 lN9 ?hko ?ha ?hb ?hb2 ?h0 ?h1 ?h2 ?h3 ?h4 ?hne ?hp ?hk ?hn2 ?hn3 ?hn4 ?hn5 ?hn6 ?hn7 ?hn8 ?turn ?done)
  case hh => rfl
  case hp => exact rfl
  case hk => exact rfl
  case hko => assumption
  case h0 => k_mem
  case h1 => k_mem
  case h2 => k_mem
  case h3 => k_mem
  case h4 => k_mem
  case ha => assumption
  case hb => assumption
  case hb2 => assumption
  case hne => k_ne
  case hn2 => k_ne
  case hn3 => k_ne
  case hn4 => k_ne
  case hn5 => k_ne
  case hn6 => k_ne
  case hn7 => k_ne
  case hn8 => k_ne
  case turn => as_aux_lemma =>
    unfold Hold
    intro q l I a b t1 t2 c T d od ko kv m₁ t n it h tk hI1 hI5 hI2 hI3 hI4 e317q e317l e324l eql ekl e317k e324k ekq eIl e317I ha hb hb2 hT hO8 hD8 hdl hdk hko F' N'
    clear lF9 lN9 rgX
    (try dsimp only at F' N' ⊢)
    (try k_fold)
    repeat' (first
        | (k_unfold; (try dsimp only))
        | (k_end; kc_close)
        | ((with_reducible show wpAny _ _ (call (Value.ref _) _) _ _ _); first
          | ((with_reducible show wpAny _ _ (call (Value.ref 308) _) _ _ _); k_here; (with_reducible rename News _ _ _ _ => lN9z); k_dflt (refine' clo_useI (by k_asm) (by k_asm) (by k_asm) (by exact no_news) (by trivial) (law_shifts_right_c _ _ (by assumption) _ _ (by assumption) _ _ (by omega)) (by k_asm) (by first | exact rfl | assumption) (by ktr_room) (by ktr_units) ?_; k_whole); intro u'z h'z tk'z F'z kN9z; (have N'z := kN9z _ lN9z); clear kN9z; (try dsimp only); (try k_fold); (try k_sweep))
          | ((with_reducible show wpAny _ _ (call (Value.ref 294) _) _ _ _); k_here; (with_reducible rename News _ _ _ _ => lN9z); k_dflt (refine' clo_useI (by k_asm) (by k_asm) (by k_asm) (by exact no_news) (by trivial) (law_bits_right_c _ _ (by assumption) _ _ (by assumption) _ _ (by assumption)) (by k_asm) (by first | exact rfl | assumption) (by ktr_room) (by ktr_units) ?_; k_whole); intro u'z h'z tk'z F'z kN9z; (have N'z := kN9z _ lN9z); clear kN9z; (try dsimp only); (try k_fold); (try k_sweep))
          | ((with_reducible show wpAny _ _ (call (Value.ref 329) _) _ _ _); k_here; (with_reducible rename News _ _ _ _ => lN9z); k_dflt (refine' clo0_useI (by k_asm) (by k_asm) (by k_asm) (by exact last_own lN9z (by k_mem)) (by assumption) (law_big_right_c _ _ (by exact last_fact (by assumption))) (by k_asm) (by first | exact rfl | assumption) (by ktr_room) (by ktr_units) ?_; k_whole); intro ps'z h'z tk'z F'z kN9z; (have N'z := last_back lN9z kN9z (by k_mem)); clear kN9z; (try dsimp only); (try k_fold); (try k_sweep))
          | ((with_reducible show wpAny _ _ (call (Value.ref 322) _) _ _ _); k_here; (with_reducible rename News _ _ _ _ => lN9z); (with_reducible rename LamOk _ _ _ => hT9z); (with_reducible rename Offs _ _ _ _ => hO8z); (with_reducible rename DOff _ _ _ _ => hD8z); k_dflt (refine' clo0_useI (by k_asm) (by k_asm) (by k_asm) (by exact lam_own lN9z (by k_mem) (by k_mem)) (by assumption) (law_converted_right_c _ _ _ hT9z _ _ (by assumption) _ _ (by walk_at "my bits")) (by k_asm) (by first | exact rfl | assumption) (by ktr_room) (by ktr_units) ?_; k_whole); (intro T'z d'z od'z h'z tk'z hT'z F'z kN9z kD9z); (have hD9z := lam_offs hD8z lN9z kD9z (by k_mem) (by k_mem) (by k_mem)); (have hd1z := hD9z.l); (have hd2z := hD9z.k); (have N'z := lam_back hO8z lN9z kN9z (by k_mem) (by k_mem) (by k_mem) (by k_mem) (by k_mem)); clear kN9z kD9z hT9z hD8z; (try dsimp only); (try k_fold); (try k_sweep))
          | ((with_reducible show wpAny _ _ (call (Value.ref 258) _) _ _ _); k_here; k_dflt (refine' clm_use (law_round_c _ _ (by assumption) _ _ (by walk_at "my bits")) (by k_asm) (by k_asm) (by k_asm) (by k_asm) (by k_asm) (by first | exact rfl | assumption) (by ktr_room) (by ktr_units) ?_; k_whole); intro u'z h'z tk'z F'z N'z; (try dsimp only); (try k_fold); (try k_sweep))
          | ((with_reducible show wpAny _ _ (call (Value.ref 237) _) _ _ _); k_here; (with_reducible rename News _ _ _ _ => lN9z); k_dflt (refine' clo_useI (by k_asm) (by k_asm) (by k_asm) (by exact no_news) (by (dsimp only; walk_at "my script")) (law_pot_c _ _ _ (by assumption) (by assumption) (by assumption)) (by k_asm) (by first | exact rfl | assumption) (by ktr_room) (by ktr_units) ?_; k_whole); intro q'z a'z b'z t1'z t2'z c'z h'z tk'z ha'z hb0'z hb1'z F'z kN9z o9z; (have N'z := kN9z _ lN9z); (have o1'z := o9z _ lN9z); clear kN9z o9z; (try simp only [LCg.Off1, and_true] at o1'z); (try dsimp only); (try k_fold); (try k_sweep); (try dsimp only); (try k_fold); (try k_sweep))
          | ((with_reducible show wpAny _ _ (call (Value.ref 265) _) _ _ _); k_here; (with_reducible rename News _ _ _ _ => lN9z); k_dflt (refine' clo_useI (by k_asm) (by k_asm) (by k_asm) (by walk_at "my own") (by trivial) (law_some_c _ _ _ _ _ _ (by assumption) (by assumption) (by assumption) _ _ (by assumption)) (by k_asm) (by first | exact rfl | assumption) (by ktr_room) (by ktr_units) ?_; k_whole); intro d'z a'z b'z t'z t1'z t2'z c'z h'z tk'z hd'z ha'z hb0'z hb1'z F'z kN9z; (walk_at "my back"); (try dsimp only); (try dsimp only); (try k_fold); (try k_sweep))
          | ((with_reducible show wpAny _ _ (call (Value.ref 244) _) _ _ _); k_here; (with_reducible rename News _ _ _ _ => lN9z); k_dflt (refine' clo_useI (by k_asm) (by k_asm) (by k_asm) (by walk_at "my own") (by trivial) (law_out_c _ _ _ _ _ _ (by assumption) (by assumption) (by assumption) _ _ (by walk_at "my pos") (by walk_at "my log")) (by k_asm) (by first | exact rfl | assumption) (by ktr_room) (by ktr_units) ?_; k_whole); intro d'z a'z b'z t'z t1'z t2'z c'z h'z tk'z hd'z ha'z hb0'z hb1'z F'z kN9z; (walk_at "my back"); (try dsimp only); (try dsimp only); (try k_fold); (try k_sweep))
          | ((with_reducible show wpAny _ _ (call (Value.ref 289) _) _ _ _); k_here; (with_reducible rename News _ _ _ _ => lN9z); k_dflt (refine' clo_useI (by k_asm) (by k_asm) (by k_asm) (by exact no_news) (by trivial) (law_sums_right_c _ _ (by assumption) _ _ (by assumption) _ _ (by assumption)) (by k_asm) (by first | exact rfl | assumption) (by ktr_room) (by ktr_units) ?_; k_whole); intro u'z h'z tk'z F'z kN9z; (have N'z := kN9z _ lN9z); clear kN9z; (try dsimp only); (try k_fold); (try k_sweep))
          | ((with_reducible show wpAny _ _ (call (Value.ref 258) _) _ _ _); k_here; k_dflt (refine' clm_use (law_round_c _ _ (by assumption) _ _ (by assumption)) (by k_asm) (by k_asm) (by k_asm) (by k_asm) (by k_asm) (by first | exact rfl | assumption) (by ktr_room) (by ktr_units) ?_; k_whole); intro u'z h'z tk'z F'z N'z; (try dsimp only); (try k_fold); (try k_sweep))
          | ((with_reducible show wpAny _ _ (call (Value.ref 139) _) _ _ _); k_here; k_dflt (refine' clm_use (wrapped_c _ _ (by assumption) _ _) (by k_asm) (by k_asm) (by k_asm) (by k_asm) (by k_asm) (by first | exact rfl | assumption) (by ktr_room) (by ktr_units) ?_; k_whole); intro u'z h'z tk'z F'z N'z; (try dsimp only); (try k_fold); (try k_sweep))
          | ((with_reducible show wpAny _ _ (call (Value.ref 118) _) _ _ _); k_here; k_dflt (refine' clm_use (greatest_c _ _ (by assumption)) (by k_asm) (by k_asm) (by k_asm) (by k_asm) (by k_asm) (by first | exact rfl | assumption) (by ktr_room) (by ktr_units) ?_; k_whole); intro u'z h'z tk'z F'z N'z; (try dsimp only); (try k_fold); (try k_sweep))
          | ((with_reducible show wpAny _ _ (call (Value.ref 111) _) _ _ _); k_here; k_dflt (refine' clm_use (least_c _ _ (by assumption)) (by k_asm) (by k_asm) (by k_asm) (by k_asm) (by k_asm) (by first | exact rfl | assumption) (by ktr_room) (by ktr_units) ?_; k_whole); intro u'z h'z tk'z F'z N'z; (try dsimp only); (try k_fold); (try k_sweep))
          | ((with_reducible show wpAny _ _ (call (Value.ref 251) _) _ _ _); k_here; k_dflt (refine' clm_use (law_ends_c _ _ (by assumption)) (by k_asm) (by k_asm) (by k_asm) (by k_asm) (by k_asm) (by first | exact rfl | assumption) (by ktr_room) (by ktr_units) ?_; k_whole); intro q'z t1'z t2'z h'z tk'z F'z N'z l1'z; (try k_lt l1'z); (try dsimp only); (try k_fold); (try k_sweep))
          | ((with_reducible show wpAny _ _ (call (Value.ref 277) _) _ _ _); k_here; k_dflt (refine' clm_use (law_width_c _ _ (by assumption)) (by k_asm) (by k_asm) (by k_asm) (by k_asm) (by k_asm) (by first | exact rfl | assumption) (by ktr_room) (by ktr_units) ?_; k_whole); intro u'z h'z tk'z F'z N'z; (try dsimp only); (try k_fold); (try k_sweep))
          | ((with_reducible show wpAny _ _ (call (Value.ref 97) _) _ _ _); k_here; k_dflt (refine' clm_use (bits_of_c _ _ (by assumption)) (by k_asm) (by k_asm) (by k_asm) (by k_asm) (by k_asm) (by first | exact rfl | assumption) (by ktr_room) (by ktr_units) ?_; k_whole); intro u'z h'z tk'z F'z N'z; (try dsimp only); (try k_fold); (try k_sweep))
          | ((with_reducible show wpAny _ _ (call (Value.ref 104) [Value.str _ _]) _ _ _); k_here; k_dflt (refine' clm_use (is_signed_c _ _ (by assumption)) (by k_asm) (by k_asm) (by k_asm) (by k_asm) (by k_asm) (by first | exact rfl | assumption) (by ktr_room) (by ktr_units) ?_; k_whole); intro u'z h'z tk'z F'z N'z; (try dsimp only); (try k_fold); (try k_sweep))
          | fail)
        | ((with_reducible show wpAny _ _ (pyIter (Value.ref _)) (fun it s₂ => LoopAtV _ _ _ _ _ _ _ _ _ it s₂) _ _); refine unhold ?_)
        | (with_reducible ((with_reducible show wpAny _ _ (binaryOp Operator.Mult (Value.int 5 _) _) _ _ _); k_here; with_reducible refine PyProof.Rows.mul_int ?_))
        | (with_reducible ((with_reducible show wpAny _ _ (callWith _ (Value.ref _) _ _ _) _ _ _); k_here; k_dflt (refine' callWith_K (by k_asm) (by k_is) ?_; k_whole)))
        | (with_reducible ((with_reducible show wpAny _ _ (eval (Expr.Name (Str.ofString "wrapped") _) (compEnvC _ _ _ _)) _ _ _); k_here; k_dflt (refine PySem.W.LCgL.ld_global (by k_asm) (by k_asm) (by k_asm) (by k_is) ?_)))
        | ((with_reducible show UnrEnd _ _ _ _ _ _ _); (with_reducible rename Fr _ _ _ _ => F9z); (with_reducible rename News _ _ _ _ => N9z); (with_reducible rename LamOk _ _ _ => hT9z); (with_reducible rename Offs _ _ _ _ => hO8z); (with_reducible rename DOff _ _ _ _ => hD8z); rename _ = Data.cell _ => hko9; exact turn_end hT9z hO8z hD8z hko9 F9z N9z (by assumption) (by assumption) (by assumption) rfl rfl (by assumption) (by assumption) (by assumption) (by assumption))
        | (with_reducible ((with_reducible show wpAny _ _ (storeName _ (Str.ofString "kind") (Value.str _ _)) _ _ _); k_here; k_dflt (refine' storeX_C (by k_asm) (by k_asm) (by rfl) (by k_updF) (by k_asm) ?_ (by rfl) (by rfl); k_whole; intro h'z o'z F'z N'z d'z; (try dsimp only at N'z); (try k_sweep))))
        | (with_reducible ((with_reducible show wpAny _ _ (subscriptTail (Expr.Name (Str.ofString "kinds") _) _ (Value.ref _) (Value.int _ _)) _ _ _); k_here; k_dflt (refine' item_kind (by walk_at "my list") (by assumption) ?_ (by with_unfolding_all rfl) (by (intro _; with_unfolding_all rfl)); k_whole); intro k'z u'z hk'z; (have hkw'z := kw_le _ hk'z); (have hkl'z := klen _ hk'z); (have hkb'z := kbig _ hk'z); (have hkt'z := turn_facts _ hk'z)))
        | (with_reducible ((with_reducible show wpAny _ _ (subscriptTail (Expr.Name (Str.ofString "kinds") _) _ (Value.ref _) (Value.int _ _)) _ _ _); k_here; k_dflt (refine' item_kind (by walk_at "my list") (by assumption) ?_ (by with_unfolding_all rfl) (by (intro _; with_unfolding_all rfl)); k_whole); intro k'z u'z hk'z; (have hkw'z := kw_le _ hk'z); (have hkl'z := klen _ hk'z); (have hkb'z := kbig _ hk'z); (have hkt'z := turn_facts _ hk'z)))
        | (with_reducible ((with_reducible show TupSrc _ _ _ _ _ _ _ (Expr.Call _ [Expr.Constant _ _ _, _] _ _) _ _ _ _ _ _); k_here; k_dflt (refine' tupSrc_wr (Str.ofString "Int8") (by rfl) (by k_asm) (by k_asm) (by k_mem) (by l_ints) (by first | decide | exact Nat.le_of_ble_eq_true rfl) (fun g'z k'z t'z I'z oI'z C'z oC'z D'z m'z ys'z h'z tk'z E'z hk'z hC'z hx'z F'z N'z off'z ne'z => ?_) (fun g'z ys'z hI'z => ?_); k_whole); (all_goals (try dsimp only))))
        | (with_reducible ((with_reducible show TupSrc _ _ _ _ _ _ _ (Expr.Call _ [Expr.Name _ _, _] _ _) _ _ _ _ _ _); k_here; (with_reducible rename Kind _ => kK9z); k_dflt (refine' tupSrc_wrK kK9z (by rfl) (by k_asm) (by k_asm) (by k_mem) (by l_ints) (by first | decide | exact Nat.le_of_ble_eq_true rfl) (fun g'z k'z t'z I'z oI'z C'z oC'z D'z m'z ys'z h'z tk'z E'z hk'z hC'z hx'z F'z N'z off'z ne'z => ?_) (fun g'z ys'z hI'z => ?_); k_whole); (all_goals (try dsimp only))))
        | (with_reducible ((with_reducible show wpAny _ _ (eval (Expr.ListComp _ [⟨Expr.Name _ _, Expr.Tuple _ _ _, [], 0⟩] _ _) _) _ _ _); k_here; k_dflt (refine tup_ListComp (by k_asm) (by with_unfolding_all rfl) (by decide) (by rfl) (by decide) (by rfl) ?_)))
        | ((with_reducible show LCg.CompEnd _ _ _ _ _ _ _ _ _ _ _ _ _ _); (with_reducible rename LCg.Off3 _ _ _ _ => off9z); (with_reducible rename Fr _ _ _ _ => lF9z); (with_reducible rename News _ _ _ _ => lN9z); (refine comp_endS lF9z lN9z off9z (by (try dsimp only); k_mem) ?_); first | with_reducible rfl | rfl)
        | walk1
        | (dsimp only; walk1)
        | (leave1; walk_say "STEP leave1"; (try dsimp only))
        | fail "no step")
  case done => as_aux_lemma =>
    unfold Hold
    intro q l a b t1 t2 c ps m₁ h tk e317l e324l eql ha hb hb2 F' N'
    clear lF9 lN9 rgX
    (try dsimp only at F' N' ⊢)
    (try k_fold)
    repeat' (first
        | (k_unfold; (try dsimp only))
        | (k_end; kc_close)
        | ((with_reducible show wpAny _ _ (call (Value.ref _) _) _ _ _); first
          | ((with_reducible show wpAny _ _ (call (Value.ref 308) _) _ _ _); k_here; (with_reducible rename News _ _ _ _ => lN9z); k_dflt (refine' clo_useI (by k_asm) (by k_asm) (by k_asm) (by exact no_news) (by trivial) (law_shifts_right_c _ _ (by assumption) _ _ (by assumption) _ _ (by omega)) (by k_asm) (by first | exact rfl | assumption) (by ktr_room) (by ktr_units) ?_; k_whole); intro u'z h'z tk'z F'z kN9z; (have N'z := kN9z _ lN9z); clear kN9z; (try dsimp only); (try k_fold); (try k_sweep))
          | ((with_reducible show wpAny _ _ (call (Value.ref 294) _) _ _ _); k_here; (with_reducible rename News _ _ _ _ => lN9z); k_dflt (refine' clo_useI (by k_asm) (by k_asm) (by k_asm) (by exact no_news) (by trivial) (law_bits_right_c _ _ (by assumption) _ _ (by assumption) _ _ (by assumption)) (by k_asm) (by first | exact rfl | assumption) (by ktr_room) (by ktr_units) ?_; k_whole); intro u'z h'z tk'z F'z kN9z; (have N'z := kN9z _ lN9z); clear kN9z; (try dsimp only); (try k_fold); (try k_sweep))
          | ((with_reducible show wpAny _ _ (call (Value.ref 329) _) _ _ _); k_here; (with_reducible rename News _ _ _ _ => lN9z); k_dflt (refine' clo0_useI (by k_asm) (by k_asm) (by k_asm) (by exact last_own lN9z (by k_mem)) (by assumption) (law_big_right_c _ _ (by exact last_fact (by assumption))) (by k_asm) (by first | exact rfl | assumption) (by ktr_room) (by ktr_units) ?_; k_whole); intro ps'z h'z tk'z F'z kN9z; (have N'z := last_back lN9z kN9z (by k_mem)); clear kN9z; (try dsimp only); (try k_fold); (try k_sweep))
          | ((with_reducible show wpAny _ _ (call (Value.ref 322) _) _ _ _); k_here; (with_reducible rename News _ _ _ _ => lN9z); (with_reducible rename LamOk _ _ _ => hT9z); (with_reducible rename Offs _ _ _ _ => hO8z); (with_reducible rename DOff _ _ _ _ => hD8z); k_dflt (refine' clo0_useI (by k_asm) (by k_asm) (by k_asm) (by exact lam_own lN9z (by k_mem) (by k_mem)) (by assumption) (law_converted_right_c _ _ _ hT9z _ _ (by assumption) _ _ (by walk_at "my bits")) (by k_asm) (by first | exact rfl | assumption) (by ktr_room) (by ktr_units) ?_; k_whole); (intro T'z d'z od'z h'z tk'z hT'z F'z kN9z kD9z); (have hD9z := lam_offs hD8z lN9z kD9z (by k_mem) (by k_mem) (by k_mem)); (have hd1z := hD9z.l); (have hd2z := hD9z.k); (have N'z := lam_back hO8z lN9z kN9z (by k_mem) (by k_mem) (by k_mem) (by k_mem) (by k_mem)); clear kN9z kD9z hT9z hD8z; (try dsimp only); (try k_fold); (try k_sweep))
          | ((with_reducible show wpAny _ _ (call (Value.ref 258) _) _ _ _); k_here; k_dflt (refine' clm_use (law_round_c _ _ (by assumption) _ _ (by walk_at "my bits")) (by k_asm) (by k_asm) (by k_asm) (by k_asm) (by k_asm) (by first | exact rfl | assumption) (by ktr_room) (by ktr_units) ?_; k_whole); intro u'z h'z tk'z F'z N'z; (try dsimp only); (try k_fold); (try k_sweep))
          | ((with_reducible show wpAny _ _ (call (Value.ref 237) _) _ _ _); k_here; (with_reducible rename News _ _ _ _ => lN9z); k_dflt (refine' clo_useI (by k_asm) (by k_asm) (by k_asm) (by exact no_news) (by (dsimp only; walk_at "my script")) (law_pot_c _ _ _ (by assumption) (by assumption) (by assumption)) (by k_asm) (by first | exact rfl | assumption) (by ktr_room) (by ktr_units) ?_; k_whole); intro q'z a'z b'z t1'z t2'z c'z h'z tk'z ha'z hb0'z hb1'z F'z kN9z o9z; (have N'z := kN9z _ lN9z); (have o1'z := o9z _ lN9z); clear kN9z o9z; (try simp only [LCg.Off1, and_true] at o1'z); (try dsimp only); (try k_fold); (try k_sweep); (try dsimp only); (try k_fold); (try k_sweep))
          | ((with_reducible show wpAny _ _ (call (Value.ref 265) _) _ _ _); k_here; (with_reducible rename News _ _ _ _ => lN9z); k_dflt (refine' clo_useI (by k_asm) (by k_asm) (by k_asm) (by walk_at "my own") (by trivial) (law_some_c _ _ _ _ _ _ (by assumption) (by assumption) (by assumption) _ _ (by assumption)) (by k_asm) (by first | exact rfl | assumption) (by ktr_room) (by ktr_units) ?_; k_whole); intro d'z a'z b'z t'z t1'z t2'z c'z h'z tk'z hd'z ha'z hb0'z hb1'z F'z kN9z; (walk_at "my back"); (try dsimp only); (try dsimp only); (try k_fold); (try k_sweep))
          | ((with_reducible show wpAny _ _ (call (Value.ref 244) _) _ _ _); k_here; (with_reducible rename News _ _ _ _ => lN9z); k_dflt (refine' clo_useI (by k_asm) (by k_asm) (by k_asm) (by walk_at "my own") (by trivial) (law_out_c _ _ _ _ _ _ (by assumption) (by assumption) (by assumption) _ _ (by walk_at "my pos") (by walk_at "my log")) (by k_asm) (by first | exact rfl | assumption) (by ktr_room) (by ktr_units) ?_; k_whole); intro d'z a'z b'z t'z t1'z t2'z c'z h'z tk'z hd'z ha'z hb0'z hb1'z F'z kN9z; (walk_at "my back"); (try dsimp only); (try dsimp only); (try k_fold); (try k_sweep))
          | ((with_reducible show wpAny _ _ (call (Value.ref 289) _) _ _ _); k_here; (with_reducible rename News _ _ _ _ => lN9z); k_dflt (refine' clo_useI (by k_asm) (by k_asm) (by k_asm) (by exact no_news) (by trivial) (law_sums_right_c _ _ (by assumption) _ _ (by assumption) _ _ (by assumption)) (by k_asm) (by first | exact rfl | assumption) (by ktr_room) (by ktr_units) ?_; k_whole); intro u'z h'z tk'z F'z kN9z; (have N'z := kN9z _ lN9z); clear kN9z; (try dsimp only); (try k_fold); (try k_sweep))
          | ((with_reducible show wpAny _ _ (call (Value.ref 258) _) _ _ _); k_here; k_dflt (refine' clm_use (law_round_c _ _ (by assumption) _ _ (by assumption)) (by k_asm) (by k_asm) (by k_asm) (by k_asm) (by k_asm) (by first | exact rfl | assumption) (by ktr_room) (by ktr_units) ?_; k_whole); intro u'z h'z tk'z F'z N'z; (try dsimp only); (try k_fold); (try k_sweep))
          | ((with_reducible show wpAny _ _ (call (Value.ref 139) _) _ _ _); k_here; k_dflt (refine' clm_use (wrapped_c _ _ (by assumption) _ _) (by k_asm) (by k_asm) (by k_asm) (by k_asm) (by k_asm) (by first | exact rfl | assumption) (by ktr_room) (by ktr_units) ?_; k_whole); intro u'z h'z tk'z F'z N'z; (try dsimp only); (try k_fold); (try k_sweep))
          | ((with_reducible show wpAny _ _ (call (Value.ref 118) _) _ _ _); k_here; k_dflt (refine' clm_use (greatest_c _ _ (by assumption)) (by k_asm) (by k_asm) (by k_asm) (by k_asm) (by k_asm) (by first | exact rfl | assumption) (by ktr_room) (by ktr_units) ?_; k_whole); intro u'z h'z tk'z F'z N'z; (try dsimp only); (try k_fold); (try k_sweep))
          | ((with_reducible show wpAny _ _ (call (Value.ref 111) _) _ _ _); k_here; k_dflt (refine' clm_use (least_c _ _ (by assumption)) (by k_asm) (by k_asm) (by k_asm) (by k_asm) (by k_asm) (by first | exact rfl | assumption) (by ktr_room) (by ktr_units) ?_; k_whole); intro u'z h'z tk'z F'z N'z; (try dsimp only); (try k_fold); (try k_sweep))
          | ((with_reducible show wpAny _ _ (call (Value.ref 251) _) _ _ _); k_here; k_dflt (refine' clm_use (law_ends_c _ _ (by assumption)) (by k_asm) (by k_asm) (by k_asm) (by k_asm) (by k_asm) (by first | exact rfl | assumption) (by ktr_room) (by ktr_units) ?_; k_whole); intro q'z t1'z t2'z h'z tk'z F'z N'z l1'z; (try k_lt l1'z); (try dsimp only); (try k_fold); (try k_sweep))
          | ((with_reducible show wpAny _ _ (call (Value.ref 277) _) _ _ _); k_here; k_dflt (refine' clm_use (law_width_c _ _ (by assumption)) (by k_asm) (by k_asm) (by k_asm) (by k_asm) (by k_asm) (by first | exact rfl | assumption) (by ktr_room) (by ktr_units) ?_; k_whole); intro u'z h'z tk'z F'z N'z; (try dsimp only); (try k_fold); (try k_sweep))
          | ((with_reducible show wpAny _ _ (call (Value.ref 97) _) _ _ _); k_here; k_dflt (refine' clm_use (bits_of_c _ _ (by assumption)) (by k_asm) (by k_asm) (by k_asm) (by k_asm) (by k_asm) (by first | exact rfl | assumption) (by ktr_room) (by ktr_units) ?_; k_whole); intro u'z h'z tk'z F'z N'z; (try dsimp only); (try k_fold); (try k_sweep))
          | ((with_reducible show wpAny _ _ (call (Value.ref 104) [Value.str _ _]) _ _ _); k_here; k_dflt (refine' clm_use (is_signed_c _ _ (by assumption)) (by k_asm) (by k_asm) (by k_asm) (by k_asm) (by k_asm) (by first | exact rfl | assumption) (by ktr_room) (by ktr_units) ?_; k_whole); intro u'z h'z tk'z F'z N'z; (try dsimp only); (try k_fold); (try k_sweep))
          | fail)
        | ((with_reducible show wpAny _ _ (pyIter (Value.ref _)) (fun it s₂ => LoopAtV _ _ _ _ _ _ _ _ _ it s₂) _ _); refine unhold ?_)
        | (with_reducible ((with_reducible show wpAny _ _ (binaryOp Operator.Mult (Value.int 5 _) _) _ _ _); k_here; with_reducible refine PyProof.Rows.mul_int ?_))
        | (with_reducible ((with_reducible show wpAny _ _ (callWith _ (Value.ref _) _ _ _) _ _ _); k_here; k_dflt (refine' callWith_K (by k_asm) (by k_is) ?_; k_whole)))
        | (with_reducible ((with_reducible show wpAny _ _ (eval (Expr.Name (Str.ofString "wrapped") _) (compEnvC _ _ _ _)) _ _ _); k_here; k_dflt (refine PySem.W.LCgL.ld_global (by k_asm) (by k_asm) (by k_asm) (by k_is) ?_)))
        | ((with_reducible show UnrEnd _ _ _ _ _ _ _); (with_reducible rename Fr _ _ _ _ => F9z); (with_reducible rename News _ _ _ _ => N9z); (with_reducible rename LamOk _ _ _ => hT9z); (with_reducible rename Offs _ _ _ _ => hO8z); (with_reducible rename DOff _ _ _ _ => hD8z); rename _ = Data.cell _ => hko9; exact turn_end hT9z hO8z hD8z hko9 F9z N9z (by assumption) (by assumption) (by assumption) rfl rfl (by assumption) (by assumption) (by assumption) (by assumption))
        | (with_reducible ((with_reducible show wpAny _ _ (storeName _ (Str.ofString "kind") (Value.str _ _)) _ _ _); k_here; k_dflt (refine' storeX_C (by k_asm) (by k_asm) (by rfl) (by k_updF) (by k_asm) ?_ (by rfl) (by rfl); k_whole; intro h'z o'z F'z N'z d'z; (try dsimp only at N'z); (try k_sweep))))
        | (with_reducible ((with_reducible show wpAny _ _ (subscriptTail (Expr.Name (Str.ofString "kinds") _) _ (Value.ref _) (Value.int _ _)) _ _ _); k_here; k_dflt (refine' item_kind (by walk_at "my list") (by assumption) ?_ (by with_unfolding_all rfl) (by (intro _; with_unfolding_all rfl)); k_whole); intro k'z u'z hk'z; (have hkw'z := kw_le _ hk'z); (have hkl'z := klen _ hk'z); (have hkb'z := kbig _ hk'z); (have hkt'z := turn_facts _ hk'z)))
        | (with_reducible ((with_reducible show wpAny _ _ (subscriptTail (Expr.Name (Str.ofString "kinds") _) _ (Value.ref _) (Value.int _ _)) _ _ _); k_here; k_dflt (refine' item_kind (by walk_at "my list") (by assumption) ?_ (by with_unfolding_all rfl) (by (intro _; with_unfolding_all rfl)); k_whole); intro k'z u'z hk'z; (have hkw'z := kw_le _ hk'z); (have hkl'z := klen _ hk'z); (have hkb'z := kbig _ hk'z); (have hkt'z := turn_facts _ hk'z)))
        | (with_reducible ((with_reducible show TupSrc _ _ _ _ _ _ _ (Expr.Call _ [Expr.Constant _ _ _, _] _ _) _ _ _ _ _ _); k_here; k_dflt (refine' tupSrc_wr (Str.ofString "Int8") (by rfl) (by k_asm) (by k_asm) (by k_mem) (by l_ints) (by first | decide | exact Nat.le_of_ble_eq_true rfl) (fun g'z k'z t'z I'z oI'z C'z oC'z D'z m'z ys'z h'z tk'z E'z hk'z hC'z hx'z F'z N'z off'z ne'z => ?_) (fun g'z ys'z hI'z => ?_); k_whole); (all_goals (try dsimp only))))
        | (with_reducible ((with_reducible show TupSrc _ _ _ _ _ _ _ (Expr.Call _ [Expr.Name _ _, _] _ _) _ _ _ _ _ _); k_here; (with_reducible rename Kind _ => kK9z); k_dflt (refine' tupSrc_wrK kK9z (by rfl) (by k_asm) (by k_asm) (by k_mem) (by l_ints) (by first | decide | exact Nat.le_of_ble_eq_true rfl) (fun g'z k'z t'z I'z oI'z C'z oC'z D'z m'z ys'z h'z tk'z E'z hk'z hC'z hx'z F'z N'z off'z ne'z => ?_) (fun g'z ys'z hI'z => ?_); k_whole); (all_goals (try dsimp only))))
        | (with_reducible ((with_reducible show wpAny _ _ (eval (Expr.ListComp _ [⟨Expr.Name _ _, Expr.Tuple _ _ _, [], 0⟩] _ _) _) _ _ _); k_here; k_dflt (refine tup_ListComp (by k_asm) (by with_unfolding_all rfl) (by decide) (by rfl) (by decide) (by rfl) ?_)))
        | ((with_reducible show LCg.CompEnd _ _ _ _ _ _ _ _ _ _ _ _ _ _); (with_reducible rename LCg.Off3 _ _ _ _ => off9z); (with_reducible rename Fr _ _ _ _ => lF9z); (with_reducible rename News _ _ _ _ => lN9z); (refine comp_endS lF9z lN9z off9z (by (try dsimp only); k_mem) ?_); first | with_reducible rfl | rfl)
        | walk1
        | (dsimp only; walk1)
        | (leave1; walk_say "STEP leave1"; (try dsimp only))
        | fail "no step")
end Mine
theorem PySem.Challenge.cw_pc0193_01_holds : PySem.Challenge.rw_pc0193_01.Holds := by
  exact Mine.fin
