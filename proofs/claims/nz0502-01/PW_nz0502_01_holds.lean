import PyProof.Rows.All
import Wide.All
import OpenK.AllK
import Wide.FinOn
import PySem.Challenge.RW_nz0502_01
set_option Elab.async false
set_option maxRecDepth 100000
set_option linter.unusedVariables false
set_option maxHeartbeats 0
open PySem PySem.W PySem.Calls PyProof.Rows
namespace Mine
end Mine
namespace Mine
noncomputable def gx47 (P : Params) : Obj := { cls := Value.type "builtin_function_or_method", data := Data.fields #[Value.builtin "type.__prepare__", Value.type "type"] }
noncomputable def gx48 (P : Params) : Obj := { cls := Value.type "dict", data := Data.dict #[{ hash := PyData.keyHash P (Str.ofString "__module__"), key := Value.str (Str.ofString "__module__") 233, val := Value.str (Str.ofString "vectorcove.errors") 224 }, { hash := PyData.keyHash P (Str.ofString "__qualname__"), key := Value.str (Str.ofString "__qualname__") 235, val := Value.str (Str.ofString "CoveError") 234 }, { hash := PyData.keyHash P (Str.ofString "__firstlineno__"), key := Value.str (Str.ofString "__firstlineno__") 237, val := Value.int 36 236 }, { hash := PyData.keyHash P (Str.ofString "__static_attributes__"), key := Value.str (Str.ofString "__static_attributes__") 238, val := Value.ref 53 }] 4 }
noncomputable def gx49 (P : Params) : Obj := { cls := Value.type "tuple", data := Data.seq #[] }
noncomputable def gx50 (P : Params) : Obj := { cls := Value.none, data := Data.fields #[] }
noncomputable def gx51 (P : Params) : Obj := { cls := Value.type "code", data := Data.fields #[Value.str (Str.ofString "CoveError") 228, Value.str (Str.ofString "CoveError") 229, Value.str (Str.ofString "/claim/cut.py") 230, Value.int 36 0, Value.int 0 0, Value.int 0 0, Value.int 0 0, Value.int 0 0, Value.ref 49, Value.bool false, Value.int 181 0, Value.ref 50, Value.none, Value.none, Value.none, Value.none, Value.int 231 0, Value.int 36 0, Value.str (Str.ofString "/claim/cut.py") 232] }
noncomputable def gx52 (P : Params) : Obj := { cls := Value.type "frame", slots := #[some (Value.ref 51), some (Value.ref 3), some (Value.ref 48), none, some (Value.str (Str.ofString "vectorcove.errors") 224), none, some (Value.ref 0)] }
noncomputable def gx57 (P : Params) : Obj := { cls := Value.type "super", data := Data.fields #[Value.ref 55, Value.ref 55, Value.ref 55] }
noncomputable def gx58 (P : Params) : Obj := { cls := Value.type "builtin_function_or_method", data := Data.fields #[Value.builtin "object.__init_subclass__", Value.ref 55] }
noncomputable def gx60 (P : Params) : Obj := { cls := Value.type "builtin_function_or_method", data := Data.fields #[Value.builtin "type.__prepare__", Value.type "type"] }
noncomputable def gx61 (P : Params) : Obj := { cls := Value.type "dict", data := Data.dict #[{ hash := PyData.keyHash P (Str.ofString "__module__"), key := Value.str (Str.ofString "__module__") 253, val := Value.str (Str.ofString "vectorcove.errors") 224 }, { hash := PyData.keyHash P (Str.ofString "__qualname__"), key := Value.str (Str.ofString "__qualname__") 255, val := Value.str (Str.ofString "Refusal") 254 }, { hash := PyData.keyHash P (Str.ofString "__firstlineno__"), key := Value.str (Str.ofString "__firstlineno__") 257, val := Value.int 38 256 }, { hash := PyData.keyHash P (Str.ofString "__init__"), key := Value.str (Str.ofString "__init__") 265, val := Value.ref 72 }, { hash := PyData.keyHash P (Str.ofString "__static_attributes__"), key := Value.str (Str.ofString "__static_attributes__") 267, val := Value.ref 73 }] 5 }
noncomputable def gx62 (P : Params) : Obj := { cls := Value.type "tuple", data := Data.seq #[] }
noncomputable def gx63 (P : Params) : Obj := { cls := Value.none, data := Data.fields #[Value.int 40 0, Value.int 4 0, Value.ref 71] }
noncomputable def gx64 (P : Params) : Obj := { cls := Value.type "code", data := Data.fields #[Value.str (Str.ofString "Refusal") 248, Value.str (Str.ofString "Refusal") 249, Value.str (Str.ofString "/claim/cut.py") 250, Value.int 38 0, Value.int 0 0, Value.int 0 0, Value.int 0 0, Value.int 0 0, Value.ref 62, Value.bool false, Value.int 181 0, Value.ref 63, Value.none, Value.none, Value.none, Value.none, Value.int 251 0, Value.int 38 0, Value.str (Str.ofString "/claim/cut.py") 252] }
noncomputable def gx65 (P : Params) : Obj := { cls := Value.type "frame", slots := #[some (Value.ref 64), some (Value.ref 3), some (Value.ref 61), none, some (Value.str (Str.ofString "vectorcove.errors") 224), none, some (Value.ref 0)] }
noncomputable def gx76 (P : Params) : Obj := { cls := Value.type "super", data := Data.fields #[Value.ref 75, Value.ref 75, Value.ref 75] }
noncomputable def gx77 (P : Params) : Obj := { cls := Value.type "builtin_function_or_method", data := Data.fields #[Value.builtin "object.__init_subclass__", Value.ref 75] }
noncomputable def gx269 (P : Params) : Obj := { cls := Value.type "tuple", data := Data.seq #[] }
noncomputable def gx270 (P : Params) : Obj := { cls := Value.type "builtin_function_or_method", data := Data.fields #[Value.builtin "type.__prepare__", Value.type "type"] }
noncomputable def gx271 (P : Params) : Obj := { cls := Value.type "dict", data := Data.dict #[{ hash := PyData.keyHash P (Str.ofString "__module__"), key := Value.str (Str.ofString "__module__") 557, val := Value.str (Str.ofString "vectorcove.values") 548 }, { hash := PyData.keyHash P (Str.ofString "__qualname__"), key := Value.str (Str.ofString "__qualname__") 559, val := Value.str (Str.ofString "Null") 558 }, { hash := PyData.keyHash P (Str.ofString "__firstlineno__"), key := Value.str (Str.ofString "__firstlineno__") 561, val := Value.int 268 560 }, { hash := PyData.keyHash P (Str.ofString "__init__"), key := Value.str (Str.ofString "__init__") 568, val := Value.ref 282 }, { hash := PyData.keyHash P (Str.ofString "__static_attributes__"), key := Value.str (Str.ofString "__static_attributes__") 571, val := Value.ref 283 }] 5 }
noncomputable def gx272 (P : Params) : Obj := { cls := Value.type "tuple", data := Data.seq #[] }
noncomputable def gx273 (P : Params) : Obj := { cls := Value.none, data := Data.fields #[Value.int 270 0, Value.int 4 0, Value.ref 281] }
noncomputable def gx274 (P : Params) : Obj := { cls := Value.type "code", data := Data.fields #[Value.str (Str.ofString "Null") 552, Value.str (Str.ofString "Null") 553, Value.str (Str.ofString "/claim/cut.py") 554, Value.int 268 0, Value.int 0 0, Value.int 0 0, Value.int 0 0, Value.int 0 0, Value.ref 272, Value.bool false, Value.int 181 0, Value.ref 273, Value.none, Value.none, Value.none, Value.none, Value.int 555 0, Value.int 268 0, Value.str (Str.ofString "/claim/cut.py") 556] }
noncomputable def gx275 (P : Params) : Obj := { cls := Value.type "frame", slots := #[some (Value.ref 274), some (Value.ref 3), some (Value.ref 271), none, some (Value.str (Str.ofString "vectorcove.values") 548), none, some (Value.ref 0)] }
noncomputable def gx288 (P : Params) : Obj := { cls := Value.type "super", data := Data.fields #[Value.ref 285, Value.ref 285, Value.ref 285] }
noncomputable def gx289 (P : Params) : Obj := { cls := Value.type "builtin_function_or_method", data := Data.fields #[Value.builtin "object.__init_subclass__", Value.ref 285] }
noncomputable def gx290 (P : Params) : Obj := { cls := Value.type "tuple", data := Data.seq #[] }
noncomputable def gx291 (P : Params) : Obj := { cls := Value.type "builtin_function_or_method", data := Data.fields #[Value.builtin "type.__prepare__", Value.type "type"] }
noncomputable def gx292 (P : Params) : Obj := { cls := Value.type "dict", data := Data.dict #[{ hash := PyData.keyHash P (Str.ofString "__module__"), key := Value.str (Str.ofString "__module__") 586, val := Value.str (Str.ofString "vectorcove.values") 548 }, { hash := PyData.keyHash P (Str.ofString "__qualname__"), key := Value.str (Str.ofString "__qualname__") 588, val := Value.str (Str.ofString "Vector") 587 }, { hash := PyData.keyHash P (Str.ofString "__firstlineno__"), key := Value.str (Str.ofString "__firstlineno__") 590, val := Value.int 273 589 }, { hash := PyData.keyHash P (Str.ofString "__init__"), key := Value.str (Str.ofString "__init__") 600, val := Value.ref 304 }, { hash := PyData.keyHash P (Str.ofString "copy"), key := Value.str (Str.ofString "copy") 607, val := Value.ref 311 }, { hash := PyData.keyHash P (Str.ofString "__static_attributes__"), key := Value.str (Str.ofString "__static_attributes__") 613, val := Value.ref 312 }] 6 }
noncomputable def gx293 (P : Params) : Obj := { cls := Value.type "tuple", data := Data.seq #[] }
noncomputable def gx294 (P : Params) : Obj := { cls := Value.none, data := Data.fields #[Value.int 275 0, Value.int 4 0, Value.ref 303, Value.int 282 0, Value.int 4 0, Value.ref 310] }
noncomputable def gx295 (P : Params) : Obj := { cls := Value.type "code", data := Data.fields #[Value.str (Str.ofString "Vector") 581, Value.str (Str.ofString "Vector") 582, Value.str (Str.ofString "/claim/cut.py") 583, Value.int 273 0, Value.int 0 0, Value.int 0 0, Value.int 0 0, Value.int 0 0, Value.ref 293, Value.bool false, Value.int 181 0, Value.ref 294, Value.none, Value.none, Value.none, Value.none, Value.int 584 0, Value.int 273 0, Value.str (Str.ofString "/claim/cut.py") 585] }
noncomputable def gx296 (P : Params) : Obj := { cls := Value.type "frame", slots := #[some (Value.ref 295), some (Value.ref 3), some (Value.ref 292), none, some (Value.str (Str.ofString "vectorcove.values") 548), none, some (Value.ref 0)] }
noncomputable def gx317 (P : Params) : Obj := { cls := Value.type "super", data := Data.fields #[Value.ref 314, Value.ref 314, Value.ref 314] }
noncomputable def gx318 (P : Params) : Obj := { cls := Value.type "builtin_function_or_method", data := Data.fields #[Value.builtin "object.__init_subclass__", Value.ref 314] }
noncomputable def gdpre_2 (P : Params) : Obj := { cls := Value.none, data := Data.dict #[] }
noncomputable def gdpre_3 (P : Params) : Obj := { cls := Value.type "dict", data := Data.dict #[{ hash := PyData.keyHash P (Str.ofString "__name__"), key := Value.str (Str.ofString "__name__") 165, val := Value.str (Str.ofString "__main__") 164 }, { hash := PyData.keyHash P (Str.ofString "__doc__"), key := Value.str (Str.ofString "__doc__") 166, val := Value.none }, { hash := PyData.keyHash P (Str.ofString "__package__"), key := Value.str (Str.ofString "__package__") 167, val := Value.none }, { hash := PyData.keyHash P (Str.ofString "__loader__"), key := Value.str (Str.ofString "__loader__") 168, val := Value.builtin "__main__.__loader__#opaque" }, { hash := PyData.keyHash P (Str.ofString "__spec__"), key := Value.str (Str.ofString "__spec__") 169, val := Value.none }, { hash := PyData.keyHash P (Str.ofString "__annotations__"), key := Value.str (Str.ofString "__annotations__") 170, val := Value.ref 6 }, { hash := PyData.keyHash P (Str.ofString "__builtins__"), key := Value.str (Str.ofString "__builtins__") 171, val := Value.ref 4 }, { hash := PyData.keyHash P (Str.ofString "__file__"), key := Value.str (Str.ofString "__file__") 173, val := Value.str (Str.ofString "/claim/cut.py") 172 }, { hash := PyData.keyHash P (Str.ofString "__cached__"), key := Value.str (Str.ofString "__cached__") 174, val := Value.none }] 9 }
noncomputable def gdpre_12 (P : Params) : Obj := { cls := Value.none, data := Data.fields #[] }
noncomputable def extpre (P : Params) : List (Nat × Bool × Obj) := [(2, true, gdpre_2 P), (3, true, gdpre_3 P), (12, true, gdpre_12 P)]
noncomputable def gd38_3 (P : Params) : Obj := { cls := Value.type "dict", data := Data.dict #[{ hash := PyData.keyHash P (Str.ofString "__name__"), key := Value.str (Str.ofString "__name__") 165, val := Value.str (Str.ofString "vectorcove.numtext") 355 }, { hash := PyData.keyHash P (Str.ofString "__doc__"), key := Value.str (Str.ofString "__doc__") 166, val := Value.none }, { hash := PyData.keyHash P (Str.ofString "__package__"), key := Value.str (Str.ofString "__package__") 167, val := Value.none }, { hash := PyData.keyHash P (Str.ofString "__loader__"), key := Value.str (Str.ofString "__loader__") 168, val := Value.builtin "__main__.__loader__#opaque" }, { hash := PyData.keyHash P (Str.ofString "__spec__"), key := Value.str (Str.ofString "__spec__") 169, val := Value.none }, { hash := PyData.keyHash P (Str.ofString "__annotations__"), key := Value.str (Str.ofString "__annotations__") 170, val := Value.ref 6 }, { hash := PyData.keyHash P (Str.ofString "__builtins__"), key := Value.str (Str.ofString "__builtins__") 171, val := Value.ref 4 }, { hash := PyData.keyHash P (Str.ofString "__file__"), key := Value.str (Str.ofString "__file__") 173, val := Value.str (Str.ofString "/claim/cut.py") 172 }, { hash := PyData.keyHash P (Str.ofString "__cached__"), key := Value.str (Str.ofString "__cached__") 174, val := Value.none }, { hash := PyData.keyHash P (Str.ofString "_wall"), key := Value.str (Str.ofString "_wall") 193, val := Value.ref 21 }, { hash := PyData.keyHash P (Str.ofString "get_attr"), key := Value.str (Str.ofString "get_attr") 203, val := Value.ref 28 }, { hash := PyData.keyHash P (Str.ofString "names_of"), key := Value.str (Str.ofString "names_of") 209, val := Value.ref 33 }, { hash := PyData.keyHash P (Str.ofString "dim_of"), key := Value.str (Str.ofString "dim_of") 217, val := Value.ref 40 }, { hash := PyData.keyHash P (Str.ofString "dimnames_of"), key := Value.str (Str.ofString "dimnames_of") 223, val := Value.ref 45 }, { hash := PyData.keyHash P (Str.ofString "CoveError"), key := Value.str (Str.ofString "CoveError") 245, val := Value.ref 55 }, { hash := PyData.keyHash P (Str.ofString "Refusal"), key := Value.str (Str.ofString "Refusal") 270, val := Value.ref 75 }, { hash := PyData.keyHash P (Str.ofString "NAN"), key := Value.str (Str.ofString "NAN") 275, val := Value.ref 78 }, { hash := PyData.keyHash P (Str.ofString "INF"), key := Value.str (Str.ofString "INF") 278, val := Value.ref 79 }, { hash := PyData.keyHash P (Str.ofString "ZERO"), key := Value.str (Str.ofString "ZERO") 281, val := Value.ref 80 }, { hash := PyData.keyHash P (Str.ofString "gcd"), key := Value.str (Str.ofString "gcd") 289, val := Value.ref 87 }, { hash := PyData.keyHash P (Str.ofString "make"), key := Value.str (Str.ofString "make") 298, val := Value.ref 94 }, { hash := PyData.keyHash P (Str.ofString "from_int"), key := Value.str (Str.ofString "from_int") 305, val := Value.ref 101 }, { hash := PyData.keyHash P (Str.ofString "is_na"), key := Value.str (Str.ofString "is_na") 312, val := Value.ref 108 }, { hash := PyData.keyHash P (Str.ofString "is_finite"), key := Value.str (Str.ofString "is_finite") 319, val := Value.ref 115 }, { hash := PyData.keyHash P (Str.ofString "neg"), key := Value.str (Str.ofString "neg") 326, val := Value.ref 122 }, { hash := PyData.keyHash P (Str.ofString "to_whole"), key := Value.str (Str.ofString "to_whole") 334, val := Value.ref 129 }, { hash := PyData.keyHash P (Str.ofString "nearest_whole"), key := Value.str (Str.ofString "nearest_whole") 344, val := Value.ref 136 }, { hash := PyData.keyHash P (Str.ofString "exponent"), key := Value.str (Str.ofString "exponent") 354, val := Value.ref 143 }, { hash := PyData.keyHash P (Str.ofString "MOST_EXPONENT"), key := Value.str (Str.ofString "MOST_EXPONENT") 358, val := Value.int 4096 357 }, { hash := PyData.keyHash P (Str.ofString "whole_text"), key := Value.str (Str.ofString "whole_text") 368, val := Value.ref 150 }, { hash := PyData.keyHash P (Str.ofString "special_text"), key := Value.str (Str.ofString "special_text") 375, val := Value.ref 157 }, { hash := PyData.keyHash P (Str.ofString "scaled"), key := Value.str (Str.ofString "scaled") 385, val := Value.ref 164 }, { hash := PyData.keyHash P (Str.ofString "significant"), key := Value.str (Str.ofString "significant") 395, val := Value.ref 171 }, { hash := PyData.keyHash P (Str.ofString "without_tail"), key := Value.str (Str.ofString "without_tail") 403, val := Value.ref 178 }, { hash := PyData.keyHash P (Str.ofString "scientific_text"), key := Value.str (Str.ofString "scientific_text") 415, val := Value.ref 185 }, { hash := PyData.keyHash P (Str.ofString "fixed_text"), key := Value.str (Str.ofString "fixed_text") 425, val := Value.ref 192 }, { hash := PyData.keyHash P (Str.ofString "measures"), key := Value.str (Str.ofString "measures") 438, val := Value.ref 199 }, { hash := PyData.keyHash P (Str.ofString "chosen_form"), key := Value.str (Str.ofString "chosen_form") 455, val := Value.ref 206 }, { hash := PyData.keyHash P (Str.ofString "formed"), key := Value.str (Str.ofString "formed") 464, val := Value.ref 213 }, { hash := PyData.keyHash P (Str.ofString "common_texts"), key := Value.str (Str.ofString "common_texts") 470, val := Value.ref 218 }, { hash := PyData.keyHash P (Str.ofString "number_text"), key := Value.str (Str.ofString "number_text") 479, val := Value.ref 226 }, { hash := PyData.keyHash P (Str.ofString "digits_value"), key := Value.str (Str.ofString "digits_value") 489, val := Value.ref 233 }, { hash := PyData.keyHash P (Str.ofString "digit_run"), key := Value.str (Str.ofString "digit_run") 498, val := Value.ref 240 }] 43 }
noncomputable def gd38_12 (P : Params) : Obj := { cls := Value.none, data := Data.fields #[Value.int 1 0, Value.int 0 0, Value.ref 20, Value.int 5 0, Value.int 0 0, Value.ref 27, Value.int 9 0, Value.int 0 0, Value.ref 32, Value.int 25 0, Value.int 0 0, Value.ref 39, Value.int 30 0, Value.int 0 0, Value.ref 44, Value.int 36 0, Value.int 0 0, Value.ref 51, Value.int 38 0, Value.int 0 0, Value.ref 64, Value.int 46 0, Value.int 0 0, Value.ref 86, Value.int 50 0, Value.int 0 0, Value.ref 93, Value.int 60 0, Value.int 0 0, Value.ref 100, Value.int 64 0, Value.int 0 0, Value.ref 107, Value.int 66 0, Value.int 0 0, Value.ref 114, Value.int 68 0, Value.int 0 0, Value.ref 121, Value.int 72 0, Value.int 0 0, Value.ref 128, Value.int 77 0, Value.int 0 0, Value.ref 135, Value.int 83 0, Value.int 0 0, Value.ref 142, Value.int 96 0, Value.int 0 0, Value.ref 149, Value.int 107 0, Value.int 0 0, Value.ref 156, Value.int 115 0, Value.int 0 0, Value.ref 163, Value.int 120 0, Value.int 0 0, Value.ref 170, Value.int 129 0, Value.int 0 0, Value.ref 177, Value.int 134 0, Value.int 0 0, Value.ref 184, Value.int 141 0, Value.int 0 0, Value.ref 191, Value.int 149 0, Value.int 0 0, Value.ref 198, Value.int 156 0, Value.int 0 0, Value.ref 205, Value.int 176 0, Value.int 0 0, Value.ref 212, Value.int 183 0, Value.int 0 0, Value.ref 217, Value.int 187 0, Value.int 0 0, Value.ref 225, Value.int 189 0, Value.int 0 0, Value.ref 232, Value.int 194 0, Value.int 0 0, Value.ref 239] }
noncomputable def ext38 (P : Params) : List (Nat × Bool × Obj) := [(3, true, gd38_3 P), (12, true, gd38_12 P), (47, false, gx47 P), (48, false, gx48 P), (49, false, gx49 P), (50, false, gx50 P), (51, false, gx51 P), (52, false, gx52 P), (57, false, gx57 P), (58, false, gx58 P), (60, false, gx60 P), (61, false, gx61 P), (62, false, gx62 P), (63, false, gx63 P), (64, false, gx64 P), (65, false, gx65 P), (76, false, gx76 P), (77, false, gx77 P)]
noncomputable def gd60_3 (P : Params) : Obj := { cls := Value.type "dict", data := Data.dict #[{ hash := PyData.keyHash P (Str.ofString "__name__"), key := Value.str (Str.ofString "__name__") 165, val := Value.str (Str.ofString "vectorcove.coerce") 684 }, { hash := PyData.keyHash P (Str.ofString "__doc__"), key := Value.str (Str.ofString "__doc__") 166, val := Value.none }, { hash := PyData.keyHash P (Str.ofString "__package__"), key := Value.str (Str.ofString "__package__") 167, val := Value.none }, { hash := PyData.keyHash P (Str.ofString "__loader__"), key := Value.str (Str.ofString "__loader__") 168, val := Value.builtin "__main__.__loader__#opaque" }, { hash := PyData.keyHash P (Str.ofString "__spec__"), key := Value.str (Str.ofString "__spec__") 169, val := Value.none }, { hash := PyData.keyHash P (Str.ofString "__annotations__"), key := Value.str (Str.ofString "__annotations__") 170, val := Value.ref 6 }, { hash := PyData.keyHash P (Str.ofString "__builtins__"), key := Value.str (Str.ofString "__builtins__") 171, val := Value.ref 4 }, { hash := PyData.keyHash P (Str.ofString "__file__"), key := Value.str (Str.ofString "__file__") 173, val := Value.str (Str.ofString "/claim/cut.py") 172 }, { hash := PyData.keyHash P (Str.ofString "__cached__"), key := Value.str (Str.ofString "__cached__") 174, val := Value.none }, { hash := PyData.keyHash P (Str.ofString "_wall"), key := Value.str (Str.ofString "_wall") 193, val := Value.ref 21 }, { hash := PyData.keyHash P (Str.ofString "get_attr"), key := Value.str (Str.ofString "get_attr") 203, val := Value.ref 28 }, { hash := PyData.keyHash P (Str.ofString "names_of"), key := Value.str (Str.ofString "names_of") 209, val := Value.ref 33 }, { hash := PyData.keyHash P (Str.ofString "dim_of"), key := Value.str (Str.ofString "dim_of") 217, val := Value.ref 40 }, { hash := PyData.keyHash P (Str.ofString "dimnames_of"), key := Value.str (Str.ofString "dimnames_of") 223, val := Value.ref 45 }, { hash := PyData.keyHash P (Str.ofString "CoveError"), key := Value.str (Str.ofString "CoveError") 245, val := Value.ref 55 }, { hash := PyData.keyHash P (Str.ofString "Refusal"), key := Value.str (Str.ofString "Refusal") 270, val := Value.ref 75 }, { hash := PyData.keyHash P (Str.ofString "NAN"), key := Value.str (Str.ofString "NAN") 275, val := Value.ref 78 }, { hash := PyData.keyHash P (Str.ofString "INF"), key := Value.str (Str.ofString "INF") 278, val := Value.ref 79 }, { hash := PyData.keyHash P (Str.ofString "ZERO"), key := Value.str (Str.ofString "ZERO") 281, val := Value.ref 80 }, { hash := PyData.keyHash P (Str.ofString "gcd"), key := Value.str (Str.ofString "gcd") 289, val := Value.ref 87 }, { hash := PyData.keyHash P (Str.ofString "make"), key := Value.str (Str.ofString "make") 298, val := Value.ref 94 }, { hash := PyData.keyHash P (Str.ofString "from_int"), key := Value.str (Str.ofString "from_int") 305, val := Value.ref 101 }, { hash := PyData.keyHash P (Str.ofString "is_na"), key := Value.str (Str.ofString "is_na") 312, val := Value.ref 108 }, { hash := PyData.keyHash P (Str.ofString "is_finite"), key := Value.str (Str.ofString "is_finite") 319, val := Value.ref 115 }, { hash := PyData.keyHash P (Str.ofString "neg"), key := Value.str (Str.ofString "neg") 326, val := Value.ref 122 }, { hash := PyData.keyHash P (Str.ofString "to_whole"), key := Value.str (Str.ofString "to_whole") 334, val := Value.ref 129 }, { hash := PyData.keyHash P (Str.ofString "nearest_whole"), key := Value.str (Str.ofString "nearest_whole") 344, val := Value.ref 136 }, { hash := PyData.keyHash P (Str.ofString "exponent"), key := Value.str (Str.ofString "exponent") 354, val := Value.ref 143 }, { hash := PyData.keyHash P (Str.ofString "MOST_EXPONENT"), key := Value.str (Str.ofString "MOST_EXPONENT") 358, val := Value.int 4096 357 }, { hash := PyData.keyHash P (Str.ofString "whole_text"), key := Value.str (Str.ofString "whole_text") 368, val := Value.ref 150 }, { hash := PyData.keyHash P (Str.ofString "special_text"), key := Value.str (Str.ofString "special_text") 375, val := Value.ref 157 }, { hash := PyData.keyHash P (Str.ofString "scaled"), key := Value.str (Str.ofString "scaled") 385, val := Value.ref 164 }, { hash := PyData.keyHash P (Str.ofString "significant"), key := Value.str (Str.ofString "significant") 395, val := Value.ref 171 }, { hash := PyData.keyHash P (Str.ofString "without_tail"), key := Value.str (Str.ofString "without_tail") 403, val := Value.ref 178 }, { hash := PyData.keyHash P (Str.ofString "scientific_text"), key := Value.str (Str.ofString "scientific_text") 415, val := Value.ref 185 }, { hash := PyData.keyHash P (Str.ofString "fixed_text"), key := Value.str (Str.ofString "fixed_text") 425, val := Value.ref 192 }, { hash := PyData.keyHash P (Str.ofString "measures"), key := Value.str (Str.ofString "measures") 438, val := Value.ref 199 }, { hash := PyData.keyHash P (Str.ofString "chosen_form"), key := Value.str (Str.ofString "chosen_form") 455, val := Value.ref 206 }, { hash := PyData.keyHash P (Str.ofString "formed"), key := Value.str (Str.ofString "formed") 464, val := Value.ref 213 }, { hash := PyData.keyHash P (Str.ofString "common_texts"), key := Value.str (Str.ofString "common_texts") 470, val := Value.ref 218 }, { hash := PyData.keyHash P (Str.ofString "number_text"), key := Value.str (Str.ofString "number_text") 479, val := Value.ref 226 }, { hash := PyData.keyHash P (Str.ofString "digits_value"), key := Value.str (Str.ofString "digits_value") 489, val := Value.ref 233 }, { hash := PyData.keyHash P (Str.ofString "digit_run"), key := Value.str (Str.ofString "digit_run") 498, val := Value.ref 240 }, { hash := PyData.keyHash P (Str.ofString "exponent_value"), key := Value.str (Str.ofString "exponent_value") 507, val := Value.ref 247 }, { hash := PyData.keyHash P (Str.ofString "powered"), key := Value.str (Str.ofString "powered") 516, val := Value.ref 254 }, { hash := PyData.keyHash P (Str.ofString "unsigned_number"), key := Value.str (Str.ofString "unsigned_number") 535, val := Value.ref 261 }, { hash := PyData.keyHash P (Str.ofString "parse_number"), key := Value.str (Str.ofString "parse_number") 547, val := Value.ref 268 }, { hash := PyData.keyHash P (Str.ofString "Null"), key := Value.str (Str.ofString "Null") 578, val := Value.ref 285 }, { hash := PyData.keyHash P (Str.ofString "Vector"), key := Value.str (Str.ofString "Vector") 620, val := Value.ref 314 }, { hash := PyData.keyHash P (Str.ofString "null"), key := Value.str (Str.ofString "null") 626, val := Value.ref 325 }, { hash := PyData.keyHash P (Str.ofString "integer"), key := Value.str (Str.ofString "integer") 633, val := Value.ref 332 }, { hash := PyData.keyHash P (Str.ofString "character"), key := Value.str (Str.ofString "character") 640, val := Value.ref 339 }, { hash := PyData.keyHash P (Str.ofString "named"), key := Value.str (Str.ofString "named") 648, val := Value.ref 346 }, { hash := PyData.keyHash P (Str.ofString "list_of"), key := Value.str (Str.ofString "list_of") 654, val := Value.ref 352 }, { hash := PyData.keyHash P (Str.ofString "length"), key := Value.str (Str.ofString "length") 662, val := Value.ref 359 }, { hash := PyData.keyHash P (Str.ofString "is_vector"), key := Value.str (Str.ofString "is_vector") 669, val := Value.ref 366 }, { hash := PyData.keyHash P (Str.ofString "is_atomic"), key := Value.str (Str.ofString "is_atomic") 676, val := Value.ref 373 }, { hash := PyData.keyHash P (Str.ofString "share"), key := Value.str (Str.ofString "share") 683, val := Value.ref 380 }, { hash := PyData.keyHash P (Str.ofString "MOST_INTEGER"), key := Value.str (Str.ofString "MOST_INTEGER") 687, val := Value.int 2147483647 686 }, { hash := PyData.keyHash P (Str.ofString "kind_order"), key := Value.str (Str.ofString "kind_order") 695, val := Value.ref 387 }, { hash := PyData.keyHash P (Str.ofString "common_kind"), key := Value.str (Str.ofString "common_kind") 705, val := Value.ref 394 }, { hash := PyData.keyHash P (Str.ofString "note"), key := Value.str (Str.ofString "note") 713, val := Value.ref 401 }, { hash := PyData.keyHash P (Str.ofString "as_logical_text"), key := Value.str (Str.ofString "as_logical_text") 720, val := Value.ref 408 }] 63 }
noncomputable def gd60_12 (P : Params) : Obj := { cls := Value.none, data := Data.fields #[Value.int 1 0, Value.int 0 0, Value.ref 20, Value.int 5 0, Value.int 0 0, Value.ref 27, Value.int 9 0, Value.int 0 0, Value.ref 32, Value.int 25 0, Value.int 0 0, Value.ref 39, Value.int 30 0, Value.int 0 0, Value.ref 44, Value.int 36 0, Value.int 0 0, Value.ref 51, Value.int 38 0, Value.int 0 0, Value.ref 64, Value.int 46 0, Value.int 0 0, Value.ref 86, Value.int 50 0, Value.int 0 0, Value.ref 93, Value.int 60 0, Value.int 0 0, Value.ref 100, Value.int 64 0, Value.int 0 0, Value.ref 107, Value.int 66 0, Value.int 0 0, Value.ref 114, Value.int 68 0, Value.int 0 0, Value.ref 121, Value.int 72 0, Value.int 0 0, Value.ref 128, Value.int 77 0, Value.int 0 0, Value.ref 135, Value.int 83 0, Value.int 0 0, Value.ref 142, Value.int 96 0, Value.int 0 0, Value.ref 149, Value.int 107 0, Value.int 0 0, Value.ref 156, Value.int 115 0, Value.int 0 0, Value.ref 163, Value.int 120 0, Value.int 0 0, Value.ref 170, Value.int 129 0, Value.int 0 0, Value.ref 177, Value.int 134 0, Value.int 0 0, Value.ref 184, Value.int 141 0, Value.int 0 0, Value.ref 191, Value.int 149 0, Value.int 0 0, Value.ref 198, Value.int 156 0, Value.int 0 0, Value.ref 205, Value.int 176 0, Value.int 0 0, Value.ref 212, Value.int 183 0, Value.int 0 0, Value.ref 217, Value.int 187 0, Value.int 0 0, Value.ref 225, Value.int 189 0, Value.int 0 0, Value.ref 232, Value.int 194 0, Value.int 0 0, Value.ref 239, Value.int 198 0, Value.int 0 0, Value.ref 246, Value.int 208 0, Value.int 0 0, Value.ref 253, Value.int 218 0, Value.int 0 0, Value.ref 260, Value.int 250 0, Value.int 0 0, Value.ref 267, Value.int 268 0, Value.int 0 0, Value.ref 274, Value.int 273 0, Value.int 0 0, Value.ref 295, Value.int 284 0, Value.int 0 0, Value.ref 324, Value.int 286 0, Value.int 0 0, Value.ref 331, Value.int 288 0, Value.int 0 0, Value.ref 338, Value.int 290 0, Value.int 0 0, Value.ref 345, Value.int 294 0, Value.int 0 0, Value.ref 351, Value.int 296 0, Value.int 0 0, Value.ref 358, Value.int 307 0, Value.int 0 0, Value.ref 365, Value.int 309 0, Value.int 0 0, Value.ref 372, Value.int 311 0, Value.int 0 0, Value.ref 379, Value.int 317 0, Value.int 0 0, Value.ref 386, Value.int 322 0, Value.int 0 0, Value.ref 393, Value.int 328 0, Value.int 0 0, Value.ref 400, Value.int 331 0, Value.int 0 0, Value.ref 407] }
noncomputable def ext60 (P : Params) : List (Nat × Bool × Obj) := [(3, true, gd60_3 P), (12, true, gd60_12 P), (47, false, gx47 P), (48, false, gx48 P), (49, false, gx49 P), (50, false, gx50 P), (51, false, gx51 P), (52, false, gx52 P), (57, false, gx57 P), (58, false, gx58 P), (60, false, gx60 P), (61, false, gx61 P), (62, false, gx62 P), (63, false, gx63 P), (64, false, gx64 P), (65, false, gx65 P), (76, false, gx76 P), (77, false, gx77 P), (269, false, gx269 P), (270, false, gx270 P), (271, false, gx271 P), (272, false, gx272 P), (273, false, gx273 P), (274, false, gx274 P), (275, false, gx275 P), (288, false, gx288 P), (289, false, gx289 P), (290, false, gx290 P), (291, false, gx291 P), (292, false, gx292 P), (293, false, gx293 P), (294, false, gx294 P), (295, false, gx295 P), (296, false, gx296 P), (317, false, gx317 P), (318, false, gx318 P)]
noncomputable def ext91 (P : Params) : List (Nat × Bool × Obj) := [(47, false, gx47 P), (48, false, gx48 P), (49, false, gx49 P), (50, false, gx50 P), (51, false, gx51 P), (52, false, gx52 P), (57, false, gx57 P), (58, false, gx58 P), (60, false, gx60 P), (61, false, gx61 P), (62, false, gx62 P), (63, false, gx63 P), (64, false, gx64 P), (65, false, gx65 P), (76, false, gx76 P), (77, false, gx77 P), (269, false, gx269 P), (270, false, gx270 P), (271, false, gx271 P), (272, false, gx272 P), (273, false, gx273 P), (274, false, gx274 P), (275, false, gx275 P), (288, false, gx288 P), (289, false, gx289 P), (290, false, gx290 P), (291, false, gx291 P), (292, false, gx292 P), (293, false, gx293 P), (294, false, gx294 P), (295, false, gx295 P), (296, false, gx296 P), (317, false, gx317 P), (318, false, gx318 P)]
end Mine
namespace Mine
/-- the objects by their places: the frag's, and those that it does not hold -/
noncomputable def fill : Nat → Nat → List (Option Obj) → List (Nat × Bool × Obj) → List Obj
  | 0, _, _, _ => []
  | n + 1, a, vs, [] => match vs with
    | some v :: vs => v :: fill n (a + 1) vs []
    | _ => []
  | n + 1, a, vs, (b, k, o) :: g => match Nat.beq a b with
    | true => o :: fill n (a + 1) (match k with | true => vs.tail | false => vs) g
    | false => match vs with
      | some v :: vs => v :: fill n (a + 1) vs ((b, k, o) :: g)
      | _ => []
noncomputable def treeFrom : List Obj → Nat → BT → BT
  | [], _, t => t
  | o :: r, i, t => treeFrom r (i + 1) (t.ins i o)
noncomputable def alt : Bool → List Obj → List Obj
  | _, [] => []
  | true, a :: r => a :: alt false r
  | false, _ :: r => alt true r
noncomputable def bt : Nat → List Obj → BT
  | 0, _ => .nil
  | _ + 1, [] => .nil
  | f + 1, x :: r => .node x (bt f (alt true r)) (bt f (alt false r))
noncomputable def bootT (P : Params) : BT := treeFrom (boot_heap P).objs.toList 0 .nil
noncomputable def boot0 (w : World) (os : OsState) : SharedT := ⟨bootT w.params, 11, {}, #[], boot_drawn, boot_toks, os⟩
noncomputable def stT (n tk : Nat) (e : Params → List (Nat × Bool × Obj)) (V : World → List (Option Obj)) (w : World) (os : OsState) : SharedT := ⟨bt 11 (fill n 0 (V w) (e w.params)), n, {}, #[], {}, tk, os⟩
noncomputable def pw0 : Program := PySem.Challenge.pw_nz0502_01
noncomputable def topE : Env := { scope := pw0.main.scope, locals := mainNs, globals := mainNs, cells := [], code := .ref 13, frame := some 14 }
noncomputable def p00 : Pos := ⟨0, 0, 0, 0⟩
noncomputable def topC : Code := .body (behindTheImports pw0) topE
noncomputable def topB : List Frame := [topFrame p00]
noncomputable def topGoT (tb : String → Option Builtin) (p : Program) (w : World) (n₀ : Nat) (ann : Option Value) : Nat → SharedT → Thread → Option (SharedT × Thread)
  | 0, s, t => some (s, t)
  | n + 1, s, t => match through t with
    | true => none
    | false => match stepOk n₀ ann t with
      | false => none
      | true => match stepT (denote tb) p w s t with
        | some (s', t') => topGoT tb p w n₀ ann n s' t'
        | none => none
theorem topGoT_of {tb : String → Option Builtin} {p : Program} {w : World} {n₀ : Nat} {ann : Option Value} : ∀ {n : Nat} {s s' : SharedT} {t t' : Thread}, topGoT tb p w n₀ ann n s t = some (s', t') → topGo tb p w n₀ ann n s.abs t = some (s'.abs, t')
  | 0, s, s', t, t', h => by
    obtain ⟨rfl, rfl⟩ : s = s' ∧ t = t' := by simpa [topGoT] using h
    rfl
  | n + 1, s, s', t, t', h => by
    unfold topGoT at h
    unfold topGo
    cases ht : through t with
    | true => rw [ht] at h; cases h
    | false =>
      rw [ht] at h
      dsimp only at h ⊢
      cases hk : stepOk n₀ ann t with
      | false => rw [hk] at h; cases h
      | true =>
        rw [hk] at h
        dsimp only at h ⊢
        cases hs : stepT (denote tb) p w s t with
        | none => rw [hs] at h; cases h
        | some r =>
          obtain ⟨s₂, t₂⟩ := r
          rw [hs] at h
          rw [stepT_spec hs]
          exact topGoT_of h
abbrev ann0 : Option Value := some (.ref 6)
/-- a run of some statements of the top -/
noncomputable def Ran (w : World) (n : Nat) (l : List Stmt) (p1 p2 : Pos) (S1 S2 : OsState → SharedT) : Prop :=
  (fun os => segRunT treeTable pw0 w 11 ann0 1 n (S1 os) (piecesOf l topE topC p1 topB)) = fun os => some (.next, S2 os, topC, p2)
theorem fin_two (tb : String → Option Builtin) (p : Program) (w : World) (n₀ : Nat) (ann : Option Value) (s : Shared) (c : Code) (q q' : Pos) : topRun tb p w n₀ ann 2 s ⟨doneF .next, c, q, [topFrame q']⟩ = some s := by
  cases s
  rfl
theorem blk (w : World) : ∀ s : Shared, segRun treeTable pw0 w 11 ann0 1 1 s (blockOf (behindTheImports pw0) topE topC p00 topB) = some (.next, s, topC, p00) := fun s => by kernel_rfl
theorem ran_all {w : World} {os : OsState} {n1 n2 n3 : Nat} {l1 l2 l3 : List Stmt} {q1 q2 q3 : Pos} {Sa S1 S2 S3 : OsState → SharedT} {N : Nat}
    (hb : behindTheImports pw0 = l1 ++ (l2 ++ (l3 ++ [])))
    (ha : (fun os => topGoT treeTable pw0 w 11 ann0 12 (boot0 w os) (topStub pw0)) = fun os => some (Sa os, ⟨denote treeTable topC, topC, p00, topB⟩))
    (r1 : Ran w n1 l1 p00 q1 Sa S1) (r2 : Ran w n2 l2 q1 q2 S1 S2) (r3 : Ran w n3 l3 q2 q3 S2 S3) (hN : Nat.ble (12 + (1 + (n1 + (n2 + (n3 + 2))))) N = true) :
    topRun treeTable pw0 w 11 ann0 N (boot0 w os).abs (topStub pw0) = some (S3 os).abs := by
  have a := topGoT_of (congrFun ha os)
  have s1 := segRun_of (congrFun r1 os)
  have s2 := segRun_of (congrFun r2 os)
  have s3 := segRun_of (congrFun r3 os)
  have f : topRun treeTable pw0 w 11 ann0 2 (S3 os).abs (restOf [] topE topC q3 topB) = some (S3 os).abs := piece_nil (fin_two _ _ _ _ _ _ _ _ _)
  have k3 := piece_app s3 f
  have k2 := piece_app s2 k3
  have k1 := piece_app s1 k2
  rw [← hb] at k1
  have b : segRun treeTable pw0 w 11 ann0 1 1 (Sa os).abs (blockOf (behindTheImports pw0) topE topC p00 topB) = some (.next, (Sa os).abs, topC, p00) := blk w _
  have kb := piece_block b k1
  have kt := go_top a kb
  have := topRun_mono (N - (12 + (1 + (n1 + (n2 + (n3 + 2)))))) _ _ _ _ kt
  rwa [show 12 + (1 + (n1 + (n2 + (n3 + 2)))) + (N - (12 + (1 + (n1 + (n2 + (n3 + 2)))))) = N by have := Nat.le_of_ble_eq_true hN; omega] at this
theorem left_of {q : Program} {loose : List Str} {Xt : Shared → Bool} {α : Type} {Yf : Shared → α} {Ya : World → α} {N : Nat} {S : World → OsState → SharedT}
    (open_ : ∀ w : World, (fencedOpening treeTable pw0 w N).map (fun s => (s.heap, s.gens, s.drawn, s.toks)) = some (boot_heap w.params, #[], boot_drawn, boot_toks))
    (size : ∀ w : World, ((boot_heap w.params).isNs mainGlobals && (#[] : Array GenState).size == 0, (boot_heap w.params).objs.size, (boot_heap w.params).nsMap mainGlobals "__annotations__") = (true, 11, ann0))
    (tree : ∀ P, absHeap (bootT P) 11 {} = boot_heap P)
    (run : ∀ w os, topRun treeTable pw0 w 11 ann0 N (boot0 w os).abs (topStub pw0) = some (S w os).abs)
    (look1 : ∀ w os, (staticsOk (importedModules pw0.main.body) (boot_heap w.params) (S w os).abs.heap && namesBound pw0 (S w os).abs.heap && gensDone (S w os).abs && laidKept (boot_heap w.params) (S w os).abs.heap) = true)
    (look2 : ∀ w os, openSeen q loose (importedModules pw0.main.body) Xt true (S w os).abs = openGood q loose)
    (look3 : ∀ w os, Yf (S w os).abs = Ya w) : LeftO pw0 q loose Xt Yf Ya N true := fun w => by
  obtain ⟨⟨h, gs, d, k, os⟩, e, e'⟩ := Option.map_eq_some_iff.mp (open_ w)
  obtain ⟨rfl, rfl, rfl, rfl⟩ : h = boot_heap w.params ∧ gs = #[] ∧ d = boot_drawn ∧ k = boot_toks := by simpa using e'
  obtain ⟨z1, z2, z3⟩ : _ ∧ _ ∧ _ := by simpa only [Prod.mk.injEq] using size w
  have l1 := look1 w os
  have r := run w os
  have ea : (boot0 w os).abs = ⟨boot_heap w.params, #[], boot_drawn, boot_toks, os⟩ := by unfold SharedT.abs boot0; rw [tree]
  rw [ea] at r
  have t : topFrom treeTable pw0 w N ⟨boot_heap w.params, #[], boot_drawn, boot_toks, os⟩ = some (S w os).abs := by
    unfold topFrom
    dsimp only
    rw [z1, z2, z3, r]
    show (match staticsOk (importedModules pw0.main.body) (boot_heap w.params) (S w os).abs.heap && namesBound pw0 (S w os).abs.heap && gensDone (S w os).abs && laidKept (boot_heap w.params) (S w os).abs.heap with | true => _ | false => _) = _
    rw [l1]
  unfold openEnds
  rw [e]
  show (topFrom treeTable pw0 w N _).map _ = _
  rw [t]
  exact congrArg some (Prod.ext (look2 w os) (look3 w os))
noncomputable def dropped : List Nat := [1, 6, 9, 22, 35, 42, 49, 54, 73, 79]
noncomputable def viewQ : Program := { PySem.Challenge.pw_nz0502_01 with main := { PySem.Challenge.pw_nz0502_01.main with body := (PySem.Challenge.pw_nz0502_01.main.body.zipIdx.filter fun x => !dropped.contains x.2).map (·.1) } }
noncomputable def looseQ : List Str := [Str.ofString "number_text", Str.ofString "list_of"]
theorem boot_tree : ∀ P, absHeap (bootT P) 11 {} = boot_heap P := fun P => by kernel_rfl
theorem opened : opening pw0 = plainProg pw0.main.scope.names := by kernel_rfl
theorem fenced : ∀ s, fenceModules? pw0 s = some s := fun s => by kernel_rfl
theorem sized : ∀ w : World, ((boot_heap w.params).isNs mainGlobals && (#[] : Array GenState).size == 0, (boot_heap w.params).objs.size, (boot_heap w.params).nsMap mainGlobals "__annotations__") = (true, 11, ann0) := fun w => by kernel_rfl
noncomputable def cutL (a b : Nat) : List Stmt := ((behindTheImports pw0).drop a).take (b - a)
theorem cut_all : behindTheImports pw0 = cutL 0 38 ++ (cutL 38 60 ++ (cutL 60 91 ++ [])) := by kernel_rfl
noncomputable def q38 : Pos := ⟨194, 0, 197, 13⟩
noncomputable def q60 : Pos := ⟨331, 0, 336, 15⟩
noncomputable def q91 : Pos := ⟨546, 0, 597, 41⟩
end Mine

local macro_rules | `(tactic| o_head $_H) => `(tactic| assumption)
namespace Mine
theorem hp (h : OpenRow.Holds PySem.Challenge.rw_nz0502_01.row) : OpenRow.Holds PySem.Challenge.rw_nz0502_01.row := by x_head
noncomputable def hpA : List Nat := [0, 1, 2, 3, 4, 5, 6, 7, 8, 9, 10, 11, 12, 13, 14, 15, 16, 17, 18, 19, 20, 21, 22, 23, 24, 25, 26, 27, 28, 29, 30, 31, 32, 33, 34, 35, 36, 37, 38, 39, 40, 41, 42, 43, 44, 45, 46, 53, 54, 55, 56, 59, 66, 67, 68, 69, 70, 71, 72, 73, 74, 75, 78, 79, 80, 81, 82, 83, 84, 85, 86, 87, 88, 89, 90, 91, 92, 93, 94, 95, 96, 97, 98, 99, 100, 101, 102, 103, 104, 105, 106, 107, 108, 109, 110, 111, 112, 113, 114, 115, 116, 117, 118, 119, 120, 121, 122, 123, 124, 125, 126, 127, 128, 129, 130, 131, 132, 133, 134, 135, 136, 137, 138, 139, 140, 141, 142, 143, 144, 145, 146, 147, 148, 149, 150, 151, 152, 153, 154, 155, 156, 157, 158, 159, 160, 161, 162, 163, 164, 165, 166, 167, 168, 169, 170, 171, 172, 173, 174, 175, 176, 177, 178, 179, 180, 181, 182, 183, 184, 185, 186, 187, 188, 189, 190, 191, 192, 193, 194, 195, 196, 197, 198, 199, 200, 201, 202, 203, 204, 205, 206, 207, 208, 209, 210, 211, 212, 213, 214, 215, 216, 217, 218, 219, 220, 221, 222, 223, 224, 225, 226, 227, 228, 229, 230, 231, 232, 233, 234, 235, 236, 237, 238, 239, 240, 241, 242, 243, 244, 245, 246, 247, 248, 249, 250, 251, 252, 253, 254, 255, 256, 257, 258, 259, 260, 261, 262, 263, 264, 265, 266, 267, 268, 276, 277, 278, 279, 280, 281, 282, 283, 284, 285, 286, 287, 297, 298, 299, 300, 301, 302, 303, 304, 305, 306, 307, 308, 309, 310, 311, 312, 313, 314, 315, 316, 319, 320, 321, 322, 323, 324, 325, 326, 327, 328, 329, 330, 331, 332, 333, 334, 335, 336, 337, 338, 339, 340, 341, 342, 343, 344, 345, 346, 347, 348, 349, 350, 351, 352, 353, 354, 355, 356, 357, 358, 359, 360, 361, 362, 363, 364, 365, 366, 367, 368, 369, 370, 371, 372, 373, 374, 375, 376, 377, 378, 379, 380, 381, 382, 383, 384, 385, 386, 387, 388, 389, 390, 391, 392, 393, 394, 395, 396, 397, 398, 399, 400, 401, 402, 403, 404, 405, 406, 407, 408, 409, 410, 411, 412, 413, 414, 415, 416, 417, 418, 419, 420, 421, 422, 423, 424, 425, 426, 427, 428, 429, 430, 431, 432, 433, 434, 435, 436, 437, 438, 439, 440, 441, 442, 443, 444, 445, 446, 447, 448, 449, 450, 451, 452, 453, 454, 455, 456, 457, 458, 459, 460, 461, 462, 463, 464, 465, 466, 467, 468, 469, 470, 471, 472, 473, 474, 475, 476, 477, 478, 479, 480, 481, 482, 483, 484, 485, 486, 487, 488, 489, 490, 491, 492, 493, 494, 495, 496, 497, 498, 499, 500, 501, 502, 503, 504, 505, 506, 507, 508, 509, 510, 511, 512, 513, 514, 515, 516, 517, 518, 519, 520, 521, 522, 523, 524, 525, 526, 527, 528, 529, 530, 531, 532, 533, 534, 535, 536, 537, 538, 539, 540, 541, 542, 543, 544, 545, 546, 547, 548, 549, 550, 551, 552, 553, 554, 555, 556, 557, 558, 559, 560, 561, 562, 563, 564, 565, 566, 567, 568, 569, 570, 571, 572, 573, 574, 575, 576, 577, 578, 579, 580, 581, 582, 583, 584, 585, 586, 587, 588, 589, 590, 591, 592, 593, 594, 595, 596, 597]
noncomputable def H0 : Hook := kHook hp.heap_1 hpA (fun _ => by kernel_rfl)
noncomputable def VV (w : World) : List (Option Obj) := (hp.heap_1 w.params).map fun p => some p.2
theorem run0 (w : World) : (fun os => topGoT treeTable pw0 w 11 ann0 12 (boot0 w os) (topStub pw0)) = fun os => some (stT 15 187 extpre VV w os, ⟨denote treeTable topC, topC, p00, topB⟩) := by kernel_rfl
theorem run1 (w : World) : Ran w 1382 (cutL 0 38) p00 q38 (stT 15 187 extpre VV w) (stT 241 499 ext38 VV w) := by unfold Ran; kernel_rfl
theorem run2 (w : World) : Ran w 1028 (cutL 38 60) q38 q60 (stT 241 499 ext38 VV w) (stT 409 721 ext60 VV w) := by unfold Ran; kernel_rfl
theorem run3 (w : World) : Ran w 873 (cutL 60 91) q60 q91 (stT 409 721 ext60 VV w) (stT 598 955 ext91 VV w) := by unfold Ran; kernel_rfl
theorem runs (w : World) (os : OsState) : topRun treeTable pw0 w 11 ann0 6686 (boot0 w os).abs (topStub pw0) = some (stT 598 955 ext91 VV w os).abs :=
  ran_all cut_all (run0 w) (run1 w) (run2 w) (run3 w) (by decide)
theorem look1a (w : World) (os : OsState) : staticsOk (importedModules pw0.main.body) (boot_heap w.params) (stT 598 955 ext91 VV w os).abs.heap = true := by kernel_rfl
theorem look1b (w : World) (os : OsState) : namesBound pw0 (stT 598 955 ext91 VV w os).abs.heap = true := by kernel_rfl
theorem look1c (w : World) (os : OsState) : gensDone (stT 598 955 ext91 VV w os).abs = true := by kernel_rfl
theorem look1d (w : World) (os : OsState) : laidKept (boot_heap w.params) (stT 598 955 ext91 VV w os).abs.heap = true := by kernel_rfl
noncomputable def Xt0 : Shared → Bool := fun s => xlAt viewQ [] s && recOk (RowW.records PySem.Challenge.rw_nz0502_01.row.toRowW) s
theorem mk9 {A B C D E F G H I : Type} {a a' : A} {b b' : B} {c c' : C} {d d' : D} {e e' : E} {f f' : F} {g g' : G} {h h' : H} {i i' : I} (ha : a = a') (hb : b = b') (hc : c = c') (hd : d = d') (he : e = e') (hf : f = f') (hg : g = g') (hh : h = h') (hi : i = i') : (a, b, c, d, e, f, g, h, i) = (a', b', c', d', e', f', g', h', i') := by
  rw [ha, hb, hc, hd, he, hf, hg, hh, hi]
theorem and7 {a b c d e f g : Bool} (ha : a = true) (hb : b = true) (hc : c = true) (hd : d = true) (he : e = true) (hf : f = true) (hg : g = true) : (a && b && c && d && e && f && g) = true := by
  rw [ha, hb, hc, hd, he, hf, hg]; rfl
theorem look2a (w : World) (os : OsState) : seen ((recsOf viewQ).map (·.name)) (ownsOf viewQ) [] { (stT 598 955 ext91 VV w os).abs with gens := #[] } = expectedOf viewQ := by kernel_rfl
theorem look2b (w : World) (os : OsState) : (stT 598 955 ext91 VV w os).abs.heap.bltView = bltViewBooted := by kernel_rfl
theorem look2c1 (w : World) (os : OsState) : (stT 598 955 ext91 VV w os).abs.heap.keysOk (looseW viewQ looseQ) ((recsOf viewQ).map (·.name)) ((litsOf viewQ).map (·.1)) ((clssOf viewQ (looseW viewQ looseQ)).map (·.name)) = true := by kernel_rfl
theorem look2c2 (w : World) (os : OsState) : (stT 598 955 ext91 VV w os).abs.heap.accountedOkI (importedModules pw0.main.body) = true := by kernel_rfl
theorem look2c3 (w : World) (os : OsState) : (stT 598 955 ext91 VV w os).abs.heap.isNs mainGlobals = true := by kernel_rfl
theorem look2c4 (w : World) (os : OsState) : (stT 598 955 ext91 VV w os).abs.heap.isNs builtinsNs = true := by kernel_rfl
theorem look2c5 (w : World) (os : OsState) : tablesOk viewQ (stT 598 955 ext91 VV w os).abs.heap = true := by kernel_rfl
theorem look2c6 (w : World) (os : OsState) : Xt0 (stT 598 955 ext91 VV w os).abs = true := by kernel_rfl
theorem look2c7 (w : World) (os : OsState) : (if true then (stT 598 955 ext91 VV w os).abs.gens.size == 0 else !leftWithCleanup (stT 598 955 ext91 VV w os).abs.gens) = true := by kernel_rfl
theorem look2d (w : World) (os : OsState) : tabsOk viewQ (stT 598 955 ext91 VV w os).abs = true := by kernel_rfl
theorem look2e (w : World) (os : OsState) : pinSeenD viewQ (drecsOf viewQ) (stT 598 955 ext91 VV w os).abs = pinGoodD (drecsOf viewQ) := by kernel_rfl
theorem look2f (w : World) (os : OsState) : plainSeenE viewQ (looseW viewQ looseQ) (stT 598 955 ext91 VV w os).abs = plainGoodE viewQ (looseW viewQ looseQ) := by kernel_rfl
theorem look2g (w : World) (os : OsState) : plainSeenD viewQ looseQ (stT 598 955 ext91 VV w os).abs = plainGoodD viewQ looseQ := by kernel_rfl
theorem look2h (w : World) (os : OsState) : wideSeen viewQ (stT 598 955 ext91 VV w os).abs = wideGood viewQ := by kernel_rfl
theorem look2i (w : World) (os : OsState) : clsSeenW viewQ looseQ (stT 598 955 ext91 VV w os).abs = clsGoodW viewQ looseQ := by kernel_rfl
theorem look2 (w : World) (os : OsState) : openSeen viewQ looseQ (importedModules pw0.main.body) Xt0 true (stT 598 955 ext91 VV w os).abs = openGood viewQ looseQ :=
  mk9 (look2a w os) (look2b w os) (and7 (look2c1 w os) (look2c2 w os) (look2c3 w os) (look2c4 w os) (look2c5 w os) (look2c6 w os) (look2c7 w os)) (look2d w os) (look2e w os) (look2f w os) (look2g w os) (look2h w os) (look2i w os)
theorem look3 (w : World) (os : OsState) : Hook.obs H0 (stT 598 955 ext91 VV w os).abs = Hook.val H0 w := by kernel_rfl
theorem left0 : LeftO pw0 viewQ looseQ Xt0 (Hook.obs H0) (Hook.val H0) 6686 true :=
  left_of (boot_open opened (by decide) fenced) sized boot_tree runs (fun w os => by rw [look1a, look1b, look1c, look1d]; rfl) look2 look3
theorem said0 : OpenLaw.wellSaid PySem.Challenge.rw_nz0502_01 = true := by
  repeat' (first | with_reducible refine look_both ?_ ?_ | unfold OpenLaw.wellSaid | unfold OpenRow.wellSaid | unfold OpenRow.partSaid | unfold looksOpen)
  all_goals (as_aux_lemma => decide +kernel)
end Mine
namespace Mine
end Mine
open PySem.Spec
set_option maxHeartbeats 8000000
/-! NA -/
section
namespace Mine

abbrev Led := List (Addr × Obj)

/-- no exception leaves: the error side is False -/
abbrev wp {α : Type} (prog : Program) (w : World) (A : Around) (t : Sem α) (Q : α → Shared → Prop) (s : Shared) : Prop :=
  wpAny (model prog w) A t Q (fun _ _ => False) s

/-- what holds all around a running frame -/
structure Am (K : Frag) (d : Nat) (A : Around) (fe : Env) (h₀ : Heap) : Prop where
  below : ∃ A₀ base outer, Below A₀ base outer h₀ ∧ A.frames = some (fe :: outer)
  X : K.In h₀
  top : ∃ p loose mean mg mb, Top p loose mean mg mb h₀
  ff : fe.frame = some fe.locals
  fk : fe.scope.kind = .function
  depth : A.depth + 100 + 2 * d < recursionLimit
  units : A.units + 100 + 16 * d < cLine
  hh : A.handled = none

/-- the state: the frame's names, what may still be changed, what stands -/
structure Sta (h₀ : Heap) (L : Addr) (h : Heap) (m : Str → Option Value) (mu nv : Led) : Prop where
  F : Fr h₀ L h m
  N : News h₀ L h (mu ++ nv)
  D : ((mu ++ nv).map Prod.fst).Nodup

/-- the frame's names by their places -/
noncomputable def mV (vr : List Str) (vs : List (Option Value)) : Str → Option Value := fun y => (vs[vr.idxOf y]?).join

structure IsLoc (env : Env) (vr : List Str) (x : Str) (i : Nat) : Prop where
  kind : env.kindOf x = some .local
  ix : vr.idxOf x = i
  lt : i < vr.length
  nd : (x == ("__debug__" : Str)) = false
structure IsGlb (env : Env) (x : Str) : Prop where
  kind : env.kindOf x = some .globalImplicit
  nd : (x == ("__debug__" : Str)) = false
theorem kof {env : Env} {sc : Scope} {x : Str} {k : NameKind} (h : env.scope = sc) (e : sc.names.lookup x = some k) : env.kindOf x = some k := by
  subst h
  exact e
noncomputable def locOk (vr : List Str) (x : Str) (i : Nat) : Bool := Nat.beq (vr.idxOf x) i && (Nat.ble (i + 1) vr.length && !(x == ("__debug__" : Str)))
theorem IsLoc.of {env : Env} {sc : Scope} {vr : List Str} {x : Str} {i : Nat} (h : env.scope = sc) (e : sc.names.lookup x = some .local) (k : locOk vr x i = true) : IsLoc env vr x i := by
  unfold locOk at k
  rw [Bool.and_eq_true, Bool.and_eq_true, Bool.not_eq_true'] at k
  exact ⟨kof h e, Nat.eq_of_beq_eq_true k.1, Nat.le_of_ble_eq_true k.2.1, k.2.2⟩
theorem IsGlb.of {env : Env} {sc : Scope} {x : Str} (h : env.scope = sc) (e : sc.names.lookup x = some .globalImplicit) (k : (x == ("__debug__" : Str)) = false) : IsGlb env x := ⟨kof h e, k⟩
structure EnvG (env : Env) : Prop where
  g : env.globals = mainGlobals
  b : env.builtins = builtinsNs
  k : env.scope.kind = .function

theorem mV_at {vr : List Str} {vs : List (Option Value)} {x : Str} {i : Nat} {v : Value} (ix : vr.idxOf x = i) (hv : (vs[i]?).join = some v) : mV vr vs x = some v := by
  unfold mV; rw [ix]; exact hv
theorem mV_set {vr : List Str} {vs : List (Option Value)} {x : Str} {i : Nat} (v : Value) (ix : vr.idxOf x = i) (lt : i < vr.length) (hl : Nat.blt i vs.length = true) :
    (fun y => if y = x then some v else mV vr vs y) = mV vr (vs.set i (some v)) := by
  have hl' : i < vs.length := Nat.le_of_ble_eq_true hl
  funext y
  unfold mV
  by_cases h : y = x
  · subst h
    rw [if_pos rfl, ix]
    simp [hl']
  · rw [if_neg h]
    have hne : i ≠ vr.idxOf y := by
      intro e
      apply h
      have h1 : vr[vr.idxOf y]'(e ▸ lt) = y := List.getElem_idxOf (e ▸ lt)
      have h2 : vr[vr.idxOf x]'(ix ▸ lt) = x := List.getElem_idxOf (ix ▸ lt)
      rw [← h1, ← h2]
      congr 1
      rw [← e, ix]
    rw [List.getElem?_set_ne hne]

section
variable {prog : Program} {w : World} {K : Frag} {d : Nat} {A : Around} {env fe : Env} {s : Shared} {h₀ h : Heap} {L : Addr} {m : Str → Option Value} {mu nv mu' nv' : Led} {vr : List Str} {vs : List (Option Value)}

theorem Sta.up (S : Sta h₀ L h m mu nv) : ∀ p ∈ mu ++ nv, h.get? p.1 = some p.2 := fun p hp => (S.N p hp).1
theorem Sta.mem (S : Sta h₀ L h m mu nv) {a : Addr} {o : Obj} (hm : (a, o) ∈ mu ++ nv) : h.get? a = some o := (S.N _ hm).1

/-- another order of the ledger -/
theorem Sta.perm (S : Sta h₀ L h m mu nv) (hp : (mu' ++ nv').Perm (mu ++ nv)) : Sta h₀ L h m mu' nv' :=
  ⟨S.F, fun p h => S.N p (hp.mem_iff.mp h), (hp.map Prod.fst).nodup_iff.mpr S.D⟩
/-- less of the ledger -/
theorem Sta.sub (S : Sta h₀ L h m mu nv) (hp : (mu' ++ nv').Sublist (mu ++ nv)) : Sta h₀ L h m mu' nv' :=
  ⟨S.F, fun p h => S.N p (hp.mem h), S.D.sublist (hp.map Prod.fst)⟩
theorem Sta.drop {p : Addr × Obj} (S : Sta h₀ L h m (p :: mu) nv) : Sta h₀ L h m mu nv := S.sub (by exact List.sublist_cons_self p (mu ++ nv))
theorem Sta.keep1 {p : Addr × Obj} (S : Sta h₀ L h m (p :: mu) nv) : Sta h₀ L h m mu (p :: nv) := S.perm (by exact List.perm_middle)
theorem Sta.take1 {p : Addr × Obj} (S : Sta h₀ L h m mu (p :: nv)) : Sta h₀ L h m (p :: mu) nv := S.perm (by exact List.perm_middle.symm)
theorem Sta.swap {p q : Addr × Obj} (S : Sta h₀ L h m (p :: q :: mu) nv) : Sta h₀ L h m (q :: p :: mu) nv := S.perm (List.Perm.swap ..)
theorem Sta.rot3 {p q r : Addr × Obj} (S : Sta h₀ L h m (p :: q :: r :: mu) nv) : Sta h₀ L h m (r :: p :: q :: mu) nv := S.perm (by
  exact (List.Perm.swap p r _).trans ((List.Perm.swap q r _).cons p))

theorem Sta.ne {p : Addr × Obj} (S : Sta h₀ L h m (p :: mu) nv) : ∀ q ∈ mu ++ nv, q.1 ≠ p.1 := fun q hq e => by
  have := S.D
  simp only [List.cons_append, List.map_cons, List.nodup_cons] at this
  exact this.1 (List.mem_map.mpr ⟨q, hq, e⟩)
theorem Sta.fun {a : Addr} {o o' : Obj} (S : Sta h₀ L h m mu nv) (h1 : (a, o) ∈ mu ++ nv) (h2 : (a, o') ∈ mu ++ nv) : o = o' := Option.some.inj ((S.mem h1).symm.trans (S.mem h2))

/-- a new object -/
theorem Sta.push (S : Sta h₀ L h m mu nv) (o : Obj) (hf : o.isFreed = false := by rfl) : Sta h₀ L (h.push o) m ((h.objs.size, o) :: mu) nv := by
  refine ⟨S.F.push o, S.N.push S.F o hf, ?_⟩
  simp only [List.cons_append, List.map_cons, List.nodup_cons]
  refine ⟨fun hm => ?_, S.D⟩
  obtain ⟨q, hq, e⟩ := List.mem_map.mp hm
  exact absurd (Heap.lt_size (S.N q hq).1) (by rw [e]; exact Nat.lt_irrefl _)
/-- the first changed object is changed -/
theorem Sta.upd {a : Addr} {o o' : Obj} {h' : Heap} (S : Sta h₀ L h m ((a, o) :: mu) nv) (hs : Heap.SameBut a h h') (ho : h'.get? a = some o') : Sta h₀ L h' m ((a, o') :: mu) nv := by
  have hne := S.ne
  have ha := S.N (a, o) (.head _)
  obtain ⟨oL, es, ep, hL, r⟩ := S.F.ns
  refine ⟨⟨⟨oL, es, ep, (hs.2 _ (Ne.symm ha.2.1)).trans hL, r⟩, fun b x q => (hs.2 b fun z => ?_).trans (S.F.keep b x q), S.F.above⟩, fun p hp => ?_, S.D⟩
  · have := ha.2.2; rw [← z, q] at this; cases this
  · rcases List.mem_cons.mp hp with rfl | hp
    · exact ⟨ho, ha.2⟩
    · have hN := S.N p (.tail _ hp)
      exact ⟨(hs.2 _ (hne p hp)).trans hN.1, hN.2⟩
theorem Sta.upd' {a : Addr} {o : Obj} {f : Obj → Obj} (S : Sta h₀ L h m ((a, o) :: mu) nv) (hf : (f o).isFreed = false) : Sta h₀ L (h.update a f) m ((a, f o) :: mu) nv :=
  S.upd (Heap.SameBut.update ..) (Heap.get?_update_self f (S.mem (.head _)) hf)

theorem Am.inS (M : Am K d A fe h₀) (S : Sta h₀ fe.locals h m mu nv) : K.In h := M.X.keeps S.F.keep
theorem Am.less {d' : Nat} (M : Am K d A fe h₀) (h : d' ≤ d) : Am K d' A fe h₀ := { M with depth := by have := M.depth; omega, units := by have := M.units; omega }
theorem Am.mark (M : Am K (d + 1) A fe h₀) : Am K d A.in1 fe h₀ where
  below := M.below
  X := M.X
  top := M.top
  ff := M.ff
  fk := M.fk
  depth := by have := M.depth; simp only [Around.in1_depth]; omega
  units := by have := M.units; simp only [Around.in1_units]; omega
  hh := M.hh

/-! names -/
theorem ld_loc {x : Str} {pos : Pos} {i : Nat} {v : Value} {Q : Value → Shared → Prop} (n : IsLoc env vr x i) (G : EnvG env) (S : Sta h₀ env.locals s.heap (mV vr vs) mu nv) (hv : (vs[i]?).join = some v) (q : Q v s) :
    wp prog w A (eval (.Name x pos) env) Q s := wpAny_Name (wpAny_loadName_local G.k n.kind S.F.ns (mV_at n.ix hv) q) n.nd
theorem ldn_loc {x : Str} {i : Nat} {v : Value} {Q : Value → Shared → Prop} (n : IsLoc env vr x i) (G : EnvG env) (S : Sta h₀ env.locals s.heap (mV vr vs) mu nv) (hv : (vs[i]?).join = some v) (q : Q v s) :
    wp prog w A (loadName env x) Q s := wpAny_loadName_local G.k n.kind S.F.ns (mV_at n.ix hv) q
theorem st_loc {x : Str} {i : Nat} {v : Value} {Q : Unit → Shared → Prop} (n : IsLoc env vr x i) (G : EnvG env) (S : Sta h₀ env.locals s.heap (mV vr vs) mu nv) (hl : Nat.blt i vs.length = true)
    (q : ∀ h', Sta h₀ env.locals h' (mV vr (vs.set i (some v))) mu nv → Q () { s with heap := h', toks := s.toks + 1 }) : wp prog w A (storeName env x v) Q s := by
  refine wpAny_storeName_local n.kind S.F.ns (fun h' hn hs => q h' ⟨?_, S.N.set hs, S.D⟩) (by rw [G.k]; rfl)
  rw [← mV_set v n.ix n.lt hl]
  exact S.F.set hn hs
theorem ld_glb {x : Str} {pos : Pos} {v : Value} {Q : Value → Shared → Prop} (n : IsGlb env x) (G : EnvG env) (M : Am K d A fe h₀) (S : Sta h₀ L s.heap m mu nv) (e : nsIn K mainGlobals x = some (some v)) (q : Q v s) :
    wp prog w A (eval (.Name x pos) env) Q s := by
  obtain ⟨p, loose, mean, mg, mb, T⟩ := M.top
  exact nameG_K S.F M.X (topRead_of T) e q G.g G.k n.kind n.nd
theorem ld_bi {x : Str} {pos : Pos} {v : Value} {Q : Value → Shared → Prop} (n : IsGlb env x) (G : EnvG env) (M : Am K d A fe h₀) (S : Sta h₀ L s.heap m mu nv) (e : nsIn K mainGlobals x = some none) (hv : bootBuiltins x = some v) (hn : x ≠ "__name__") (q : Q v s) :
    wp prog w A (eval (.Name x pos) env) Q s := by
  obtain ⟨p, loose, mean, mg, mb, T⟩ := M.top
  have T' := topRead_of T
  refine Name_function_global G.k n.kind (loadGlobal_builtin (env := env) (by rw [G.g]; exact T'.g.keeps S.F.keep) (mg_none_of M.X T'.g e) (by rw [G.b]; exact T'.b.keeps S.F.keep) ((T'.builtins x hn).trans hv) q) n.nd
/-- a name held in a cell: own or of the block around -/
theorem ld_cel {x : Str} {pos : Pos} {c : Addr} {o : Obj} {v : Value} {Q : Value → Shared → Prop} (hk : env.kindOf x = some .cell ∨ env.kindOf x = some .free) (nd : (x == ("__debug__" : Str)) = false) (nc : (x == ("__classdict__" : Str)) = false) (hc : env.cells.lookup x = some c) (G : EnvG env)
    (S : Sta h₀ L s.heap m mu nv) (hm : (c, o) ∈ mu ++ nv) (ho : o.data = .cell (some v)) (q : Q v s) : wp prog w A (eval (.Name x pos) env) Q s := by
  rcases hk with hk | hk
  · exact wpAny_Name (wpAny_loadName_cell G.k hk hc ⟨o, S.mem hm, ho⟩ q) nd
  · exact wpAny_Name (wpAny_loadName_free G.k hk hc ⟨o, S.mem hm, ho⟩ q nc) nd
theorem st_cel {x : Str} {c : Addr} {o : Obj} {v₀ : Option Value} {v : Value} {Q : Unit → Shared → Prop} (hk : env.kindOf x = some .cell) (hc : env.cells.lookup x = some c) (G : EnvG env)
    (S : Sta h₀ L s.heap m ((c, o) :: mu) nv) (ho : o.data = .cell v₀) (q : ∀ h' o', o'.data = .cell (some v) → Sta h₀ L h' m ((c, o') :: mu) nv → Q () { s with heap := h' }) : wp prog w A (storeName env x v) Q s := by
  refine wpAny_storeName_cell G.k hk hc ⟨o, S.mem (.head _), ho⟩ fun h' hv hs => ?_
  obtain ⟨o', ho', hd'⟩ := hv
  exact q h' o' hd' (S.upd hs ho')
end
end Mine
end
/-! NB -/
section
namespace Mine

noncomputable def retOf : Flow → Value
  | .ret v => v
  | _ => .none

/-- a contract: what a call hands back, and what it leaves -/
noncomputable def Spec (K : Frag) (w : World) (d : Nat) (f : Value) (args : List Value) (mu nv : Led) (Post : Value → Led → Led → Prop) : Prop :=
  ∀ (prog : Program) (A : Around) (fe : Env) (h₀ : Heap) (m : Str → Option Value) (s : Shared) (Q : Value → Shared → Prop), Am K d A fe h₀ → Sta h₀ fe.locals s.heap m mu nv →
    (∀ v h' tk mu' nv', Sta h₀ fe.locals h' m mu' nv' → Post v mu' nv' → Q v { s with heap := h', toks := tk }) → wp prog w A (call f args) Q s

theorem Spec.less {K : Frag} {w : World} {d d' : Nat} {f : Value} {args : List Value} {mu nv : Led} {Post : Value → Led → Led → Prop} (H : Spec K w d f args mu nv Post) (h : d ≤ d') : Spec K w d' f args mu nv Post :=
  fun prog A fe h₀ m s Q M S q => H prog A fe h₀ m s Q (M.less h) S q
theorem Spec.mono {K : Frag} {w : World} {d : Nat} {f : Value} {args : List Value} {mu nv : Led} {Post Post' : Value → Led → Led → Prop} (H : Spec K w d f args mu nv Post) (h : ∀ v mu' nv', Post v mu' nv' → Post' v mu' nv') : Spec K w d f args mu nv Post' :=
  fun prog A fe h₀ m s Q M S q => H prog A fe h₀ m s Q M S fun v h' tk mu' nv' S' P => q v h' tk mu' nv' S' (h _ _ _ P)

theorem lookup_notin {x : Str} : ∀ {ns : List Str} {vals : List Value}, x ∉ ns → (ns.zip vals).lookup x = none
  | [], _, _ => by simp
  | n :: ns, [], _ => by simp
  | n :: ns, v :: vals, h => by
    simp only [List.zip_cons_cons, List.lookup_cons]
    have h1 : (x == n) = false := by simpa using fun e : x = n => h (by simp [e])
    rw [h1]
    exact lookup_notin fun q => h (List.mem_cons_of_mem _ q)
theorem lookup_app {x : Str} {a b : List (Str × Value)} : (a ++ b).lookup x = (a.lookup x).or (b.lookup x) := by
  induction a with
  | nil => simp
  | cons p r ih =>
    obtain ⟨n, v⟩ := p
    simp only [List.cons_append, List.lookup_cons]
    cases h : x == n <;> simp [ih]
theorem lookup_rev {x : Str} : ∀ {ns : List Str} {vals : List Value}, ns.Nodup → (ns.zip vals).reverse.lookup x = (ns.zip vals).lookup x
  | [], _, _ => by simp
  | n :: ns, [], _ => by simp
  | n :: ns, v :: vals, h => by
    simp only [List.zip_cons_cons, List.reverse_cons, lookup_app, List.lookup_cons, List.lookup_nil]
    rw [lookup_rev (List.nodup_cons.mp h).2]
    cases hx : x == n with
    | false => simp
    | true =>
      have e : x = n := by simpa using hx
      subst e
      rw [lookup_notin (List.nodup_cons.mp h).1]
      rfl
theorem mV_nil {vr : List Str} {k : Nat} {x : Str} : mV vr (List.replicate k none) x = none := by
  unfold mV
  rw [List.getElem?_replicate]
  split <;> rfl
theorem mV_zip : ∀ {ns more : List Str} {vals : List Value} {k : Nat}, ns.length = vals.length → ∀ x, (ns.zip vals).lookup x = mV (ns ++ more) (vals.map some ++ List.replicate k none) x
  | [], more, [], k, _, x => by simpa using mV_nil.symm
  | n :: ns, more, v :: vals, k, hl, x => by
    simp only [List.zip_cons_cons, List.lookup_cons]
    unfold mV
    simp only [List.cons_append, List.map_cons]
    by_cases h : n = x
    · subst h; simp
    · have h1 : (x == n) = false := by simpa using fun e : x = n => h e.symm
      have h2 : (n == x) = false := by simpa using h
      rw [h1, List.idxOf_cons, h2]
      simp only [cond_false, List.getElem?_cons_succ]
      exact mV_zip (by simpa using hl) x
/-- the binds as places -/
theorem binds_mV {ns more : List Str} {vals : List Value} {k : Nat} (hl : ns.length = vals.length) (hn : ns.Nodup) :
    (fun y => (ns.zip vals).reverse.lookup y) = mV (ns ++ more) (vals.map some ++ List.replicate k none) := by
  funext y; rw [lookup_rev hn]; exact mV_zip hl y

section
variable {w : World} {K : Frag} {d : Nat} {mu nv : Led} {vr : List Str} {vs : List (Option Value)} {Post : Value → Led → Led → Prop}
  {name qual : Str} {params : Arguments} {body : List Stmt} {scope : Scope} {dV kV doc pm cdv ct oc : Value} {an od : Option Addr} {osl : Array (Option Value)} {f : Addr} {args : Args} {binds : List (Str × Value)}

theorem Spec.plainK (ho : K.lookup f = some ⟨oc, od, .func (fnX name qual params body scope [] dV kV doc pm an cdv ct), osl⟩) (hcd : codeIn K cdv qual = true)
    (hbind : ∀ s : Shared, K.In s.heap → BindsTo s (fnX name qual params body scope [] dV kV doc pm an cdv ct) args binds) (hloc : ∀ y ∈ binds, scope.names.lookup y.1 = some .local)
    (hm : (fun y => binds.reverse.lookup y) = mV vr vs) (hcell : ∀ x ∈ scope.names, x.2 ≠ .cell) (hco : scope.isCoroutine = false) (hgen : scope.isGenerator = false) (hk : scope.kind = .function)
    (B : ∀ (prog : Program) (A : Around) (env : Env) (g : Heap) (s : Shared) (Q : Flow → Shared → Prop), env.scope = scope → EnvG env → Am K d A env g → Sta g env.locals s.heap (mV vr vs) mu nv →
      (∀ fl h' tk m' mu' nv', Sta g env.locals h' m' mu' nv' → Post (retOf fl) mu' nv' → Q fl { s with heap := h', toks := tk }) → wp prog w A (execs body env) Q s) :
    ∀ (prog : Program) (A : Around) (fe : Env) (h₀ : Heap) (m : Str → Option Value) (s : Shared) (R : Result → Shared → Prop), Am K (d + 1) A fe h₀ → Sta h₀ fe.locals s.heap m mu nv →
      (∀ v h' tk mu' nv', Sta h₀ fe.locals h' m mu' nv' → Post v mu' nv' → R (.ok (.ret v)) { s with heap := h', toks := tk }) → codeAny (model prog w) A (.call (.ref f) args) R s := by
  intro prog A fe h₀ m s R M S q
  obtain ⟨A₀, base, outer, Bl, hA⟩ := M.below
  obtain ⟨p, loose, mean, mg, mb, T⟩ := M.top
  have hd := M.depth
  have hu := M.units
  refine callX_plain Bl S.F S.N T.nolimit hA M.ff M.fk (M.inS S _ _ ho) rfl (codeRec_of (M.inS S) hcd) (by omega) (hbind s (M.inS S)) hloc (fun g L' h₁ FG F' N' B' st _ => ?_) hcell hco hgen hk
  refine wpAny_mono (B prog _ (envX qual scope L' f cdv []) g _ _ rfl ⟨rfl, rfl, hk⟩ ⟨⟨_, _, _, B', Around.frames_deeper hA⟩, M.X.keeps st, ⟨_, _, _, _, _, T.keeps st⟩, rfl, hk, by rw [depth_deeper]; omega, by rw [units_deeper]; omega, M.hh⟩
    ⟨by rw [← hm]; exact F', N', S.D⟩ fun fl h' tk m' mu' nv' S' P' => ?_) (fun _ _ x => x) fun _ _ x => x.elim
  refine leaveK_ S'.F S'.N fun F N => ?_
  have z := q _ _ tk _ _ ⟨F, N, S'.D⟩ P'
  cases fl <;> exact z

theorem Spec.plain (ho : K.lookup f = some ⟨oc, od, .func (fnX name qual params body scope [] dV kV doc pm an cdv ct), osl⟩) (hcd : codeIn K cdv qual = true) {vals : List Value}
    (hbind : ∀ s : Shared, K.In s.heap → BindsTo s (fnX name qual params body scope [] dV kV doc pm an cdv ct) ⟨vals, []⟩ binds) (hloc : ∀ y ∈ binds, scope.names.lookup y.1 = some .local)
    (hm : (fun y => binds.reverse.lookup y) = mV vr vs) (hcell : ∀ x ∈ scope.names, x.2 ≠ .cell) (hco : scope.isCoroutine = false) (hgen : scope.isGenerator = false) (hk : scope.kind = .function)
    (B : ∀ (prog : Program) (A : Around) (env : Env) (g : Heap) (s : Shared) (Q : Flow → Shared → Prop), env.scope = scope → EnvG env → Am K d A env g → Sta g env.locals s.heap (mV vr vs) mu nv →
      (∀ fl h' tk m' mu' nv', Sta g env.locals h' m' mu' nv' → Post (retOf fl) mu' nv' → Q fl { s with heap := h', toks := tk }) → wp prog w A (execs body env) Q s) :
    Spec K w (d + 1) (.ref f) vals mu nv Post := fun prog A fe h₀ m s Q M S q =>
  wpAny_call (Spec.plainK ho hcd hbind hloc hm hcell hco hgen hk B prog A fe h₀ m s _ M S fun v h' tk mu' nv' S' P' => q v h' tk mu' nv' S' P')

theorem cells_addr {cm : Str → Option Value} : ∀ {cl : List (Str × Addr)} {cells : Led}, CellsAre cm cl cells → cells.map Prod.fst = cl.map Prod.snd
  | _, _, .nil => rfl
  | _, _, .cons _ r => by simp [cells_addr r]

theorem Spec.cellsK {cl : List (Str × Nat)} (ho : K.lookup f = some ⟨oc, od, .func (fnX name qual params body scope [] dV kV doc pm an cdv ct), osl⟩) (hcd : codeIn K cdv qual = true)
    (hbind : ∀ s : Shared, K.In s.heap → BindsTo s (fnX name qual params body scope [] dV kV doc pm an cdv ct) args binds)
    (hkind : (binds.all fun y => scope.names.lookup y.1 == some .local || scope.names.lookup y.1 == some .cell) = true)
    (hcl : ∀ n, cellsFrom n scope.names [] = cl.map fun p => (p.1, n + p.2)) (hcl1 : (cl.map (·.1)).Nodup) (hcl2 : (cl.map (·.2)).Nodup)
    (hm : bindL (fun x => scope.names.lookup x) binds (fun _ => none) = mV vr vs) (hco : scope.isCoroutine = false) (hgen : scope.isGenerator = false) (hk : scope.kind = .function)
    (B : ∀ (prog : Program) (A : Around) (env : Env) (g : Heap) (s : Shared) (Q : Flow → Shared → Prop) (cells : Led), env.scope = scope → EnvG env → Am K d A env g → env.cells = (cl.map fun p => (p.1, env.locals + 1 + p.2)) →
      CellsAre (bindC (fun x => scope.names.lookup x) binds fun _ => none) (cl.map fun p => (p.1, env.locals + 1 + p.2)) cells → Sta g env.locals s.heap (mV vr vs) (cells ++ mu) nv →
      (∀ fl h' tk m' mu' nv', Sta g env.locals h' m' mu' nv' → Post (retOf fl) mu' nv' → Q fl { s with heap := h', toks := tk }) → wp prog w A (execs body env) Q s) :
    ∀ (prog : Program) (A : Around) (fe : Env) (h₀ : Heap) (m : Str → Option Value) (s : Shared) (R : Result → Shared → Prop), Am K (d + 1) A fe h₀ → Sta h₀ fe.locals s.heap m mu nv →
      (∀ v h' tk mu' nv', Sta h₀ fe.locals h' m mu' nv' → Post v mu' nv' → R (.ok (.ret v)) { s with heap := h', toks := tk }) → codeAny (model prog w) A (.call (.ref f) args) R s := by
  intro prog A fe h₀ m s R M S q
  obtain ⟨A₀, base, outer, Bl, hA⟩ := M.below
  obtain ⟨p, loose, mean, mg, mb, T⟩ := M.top
  have hd := M.depth
  have hu := M.units
  have hnd : ((cellsFrom 0 scope.names []).map (·.1)).Nodup := by
    rw [hcl 0, List.map_map]; exact hcl1
  refine callX_cells Bl S.F S.N T.nolimit hA M.ff M.fk (M.inS S _ _ ho) rfl (codeRec_of (M.inS S) hcd) (by omega) (hbind s (M.inS S)) (kindsX hkind) hnd (fun g L' h₁ tk cells FG F' N' Y B' st lt => ?_) hco hgen hk
  rw [hcl] at Y
  have Nd : ((cells ++ (mu ++ nv)).map Prod.fst).Nodup := by
    rw [List.map_append, cells_addr Y]
    refine List.nodup_append.mpr ⟨?_, S.D, ?_⟩
    · rw [List.map_map]
      have : (Prod.snd ∘ fun p : Str × Nat => (p.1, L' + 1 + p.2)) = (fun k => L' + 1 + k) ∘ Prod.snd := rfl
      rw [this, ← List.map_map]
      exact List.Pairwise.map _ (fun a b h e => h (Nat.add_left_cancel e)) hcl2
    · intro a ha b hb e
      subst e
      obtain ⟨c, hc, rfl⟩ := List.mem_map.mp ha
      obtain ⟨r, hr, rfl⟩ := List.mem_map.mp hc
      obtain ⟨t, ht, e⟩ := List.mem_map.mp hb
      have h1 : t.1 < L' := lt t ht
      have h2 : t.1 = L' + 1 + r.2 := e
      rw [h2] at h1
      exact absurd h1 (Nat.not_lt.mpr (Nat.le_trans (Nat.le_add_right L' 1) (Nat.le_add_right _ _)))
  refine wpAny_mono (B prog _ (envOfC qual scope L' f cdv) g _ _ cells rfl ⟨rfl, rfl, hk⟩ ⟨⟨_, _, _, B', Around.frames_deeper hA⟩, M.X.keeps st, ⟨_, _, _, _, _, T.keeps st⟩, rfl, hk, by rw [depth_deeper]; omega, by rw [units_deeper]; omega, M.hh⟩
    (hcl _) Y ⟨by rw [← hm]; exact F', by rw [List.append_assoc]; exact N', by rw [List.append_assoc]; exact Nd⟩ fun fl h' tk m' mu' nv' S' P' => ?_) (fun _ _ x => x) fun _ _ x => x.elim
  refine leaveK_ S'.F S'.N fun F N => ?_
  have z := q _ _ tk _ _ ⟨F, N, S'.D⟩ P'
  cases fl <;> exact z

theorem Spec.cells {cl : List (Str × Nat)} {vals : List Value} (ho : K.lookup f = some ⟨oc, od, .func (fnX name qual params body scope [] dV kV doc pm an cdv ct), osl⟩) (hcd : codeIn K cdv qual = true)
    (hbind : ∀ s : Shared, K.In s.heap → BindsTo s (fnX name qual params body scope [] dV kV doc pm an cdv ct) ⟨vals, []⟩ binds)
    (hkind : (binds.all fun y => scope.names.lookup y.1 == some .local || scope.names.lookup y.1 == some .cell) = true)
    (hcl : ∀ n, cellsFrom n scope.names [] = cl.map fun p => (p.1, n + p.2)) (hcl1 : (cl.map (·.1)).Nodup) (hcl2 : (cl.map (·.2)).Nodup)
    (hm : bindL (fun x => scope.names.lookup x) binds (fun _ => none) = mV vr vs) (hco : scope.isCoroutine = false) (hgen : scope.isGenerator = false) (hk : scope.kind = .function)
    (B : ∀ (prog : Program) (A : Around) (env : Env) (g : Heap) (s : Shared) (Q : Flow → Shared → Prop) (cells : Led), env.scope = scope → EnvG env → Am K d A env g → env.cells = (cl.map fun p => (p.1, env.locals + 1 + p.2)) →
      CellsAre (bindC (fun x => scope.names.lookup x) binds fun _ => none) (cl.map fun p => (p.1, env.locals + 1 + p.2)) cells → Sta g env.locals s.heap (mV vr vs) (cells ++ mu) nv →
      (∀ fl h' tk m' mu' nv', Sta g env.locals h' m' mu' nv' → Post (retOf fl) mu' nv' → Q fl { s with heap := h', toks := tk }) → wp prog w A (execs body env) Q s) :
    Spec K w (d + 1) (.ref f) vals mu nv Post := fun prog A fe h₀ m s Q M S q =>
  wpAny_call (Spec.cellsK ho hcd hbind hkind hcl hcl1 hcl2 hm hco hgen hk B prog A fe h₀ m s _ M S fun v h' tk mu' nv' S' P' => q v h' tk mu' nv' S' P')
end

section
variable {prog : Program} {w : World} {K : Frag} {d : Nat} {A : Around} {env fe : Env} {s : Shared} {h₀ h : Heap} {L : Addr} {m : Str → Option Value} {mu nv mu' nv' : Led}
/-- a call of a def, a class or a bound thing by its global name -/
theorem call_glb {x : Str} {p pos : Pos} {e : Expr} {args : List Expr} {f : Addr} {Q : Value → Shared → Prop} (n : IsGlb env x) (G : EnvG env) (M : Am K d A fe h₀) (S : Sta h₀ L s.heap m mu nv) (hf : nsIn K mainGlobals x = some (some (.ref f))) (hk : keepIn K (.ref f) = true)
    (q : wp prog w A (spliced (backTo pos (starEach (e :: args) env))) (fun vs s₁ => K.In s₁.heap ∧ wp prog w A (call (.ref f) vs) Q s₁) s) (hplain : (backTo pos (starEach args env)).any (·.1) = false := by rfl)
    (he : starEach (e :: args) env = (false, eval e env) :: starEach args env := by rfl)
    (hc : eval (.Call (.Name x p) (e :: args) [] pos) env = (do callWith pos (← eval (.Name x p) env) [] (backTo pos (starEach (e :: args) env)) (backToKw pos (keywordEach [] env))) := by rfl) :
    wp prog w A (eval (.Call (.Name x p) (e :: args) [] pos) env) Q s :=
  Call_ (ld_glb n G M S hf (callWith_K (h₀ := h₀) M.X hk q he hplain)) hc
theorem call_glb0 {x : Str} {p pos : Pos} {f : Addr} {Q : Value → Shared → Prop} (n : IsGlb env x) (G : EnvG env) (M : Am K d A fe h₀) (S : Sta h₀ L s.heap m mu nv) (hf : nsIn K mainGlobals x = some (some (.ref f))) (hk : keepIn K (.ref f) = true)
    (q : wp prog w A (call (.ref f) []) Q s)
    (hc : eval (.Call (.Name x p) [] [] pos) env = (do callWith pos (← eval (.Name x p) env) [] (backTo pos (starEach [] env)) (backToKw pos (keywordEach [] env))) := by rfl) :
    wp prog w A (eval (.Call (.Name x p) [] [] pos) env) Q s :=
  Call_ (ld_glb n G M S hf (callWith_K0 (M.X.keeps S.F.keep) hk q)) hc
theorem args_more {e : Expr} {rest : List Expr} {pos : Pos} {Q : List Value → Shared → Prop} (h : wp prog w A (eval e env) (fun v s₁ => wp prog w A (spliced (backTo pos (starEach rest env))) (fun vs s₂ => Q (v :: vs) s₂) s₁) s)
    (he : starEach (e :: rest) env = (false, eval e env) :: starEach rest env := by rfl) : wp prog w A (spliced (backTo pos (starEach (e :: rest) env))) Q s := spliced_more h he
theorem args_none {pos : Pos} {Q : List Value → Shared → Prop} (h : Q [] s) : wp prog w A (spliced (backTo pos (starEach [] env))) Q s := spliced_none h
end
end Mine
end
/-! NC -/
section
namespace Mine
noncomputable abbrev KK (w : World) : Frag := Mine.hp.heap_1 w.params
end Mine
end
/-! ND -/
section
namespace Mine

section
variable {prog : Program} {w : World} {K : Frag} {d : Nat} {A : Around} {env fe : Env} {s : Shared} {h₀ h : Heap} {L : Addr} {m : Str → Option Value} {mu nv mu' nv' : Led} {vr : List Str} {vs : List (Option Value)}

/-- the first changed object, and nothing else that stood, is changed -/
theorem Sta.updK {a : Addr} {o o' : Obj} {h' : Heap} (S : Sta h₀ L h m ((a, o) :: mu) nv) (hs : ∀ b ob, b ≠ a → h.get? b = some ob → h'.get? b = some ob) (ho : h'.get? a = some o') : Sta h₀ L h' m ((a, o') :: mu) nv := by
  have hne := S.ne
  have ha := S.N (a, o) (.head _)
  obtain ⟨oL, es, ep, hL, r⟩ := S.F.ns
  refine ⟨⟨⟨oL, es, ep, hs _ _ (Ne.symm ha.2.1) hL, r⟩, fun b x q => hs b x (fun z => ?_) (S.F.keep b x q), S.F.above⟩, fun p hp => ?_, S.D⟩
  · have := ha.2.2; rw [← z, q] at this; cases this
  · rcases List.mem_cons.mp hp with rfl | hp
    · exact ⟨ho, ha.2⟩
    · have hN := S.N p (.tail _ hp)
      exact ⟨hs _ _ (hne p hp) hN.1, hN.2⟩
theorem Sta.newNs (S : Sta h₀ L h m mu nv) {m' : Str → Option Value} {h' : Heap} (hn : h'.Ns L m') (hs : Heap.SameBut L h h') : Sta h₀ L h' m' mu nv := ⟨S.F.set hn hs, S.N.set hs, S.D⟩

/-! statements -/
noncomputable def thenK (prog : Program) (w : World) (A : Around) (rest : List Stmt) (env : Env) (Q : Flow → Shared → Prop) (f : Flow) (s : Shared) : Prop := match f with
  | .next => wp prog w A (execs rest env) Q s
  | f => Q f s
theorem x_next {rest : List Stmt} {Q : Flow → Shared → Prop} (h : wp prog w A (execs rest env) Q s) : thenK prog w A rest env Q .next s := h
theorem x_retd {rest : List Stmt} {Q : Flow → Shared → Prop} {v : Value} (h : Q (.ret v) s) : thenK prog w A rest env Q (.ret v) s := h
theorem x_cons {st : Stmt} {rest : List Stmt} {Q : Flow → Shared → Prop} (h : wp prog w A (exec st env) (thenK prog w A rest env Q) s) : wp prog w A (execs (st :: rest) env) Q s :=
  wpAny_execs_cons (wpAny_mono h (fun f s' h' => by cases f <;> exact h') fun _ _ e => e)
theorem x_nil {Q : Flow → Shared → Prop} (h : Q .next s) : wp prog w A (execs [] env) Q s := wpAny_execs_nil h
theorem x_ret {e : Expr} {pos : Pos} {rest : List Stmt} {Q : Flow → Shared → Prop} (h : wp prog w A (eval e env) (fun v s' => Q (.ret v) s') s) : wp prog w A (execs (.Return (some e) pos :: rest) env) Q s :=
  x_cons (wpAny_Return_some h)
theorem x_asg {x : Str} {pos' pos : Pos} {value : Expr} {rest : List Stmt} {Q : Flow → Shared → Prop} (h : wp prog w A (eval value env) (fun v s₁ => wp prog w A (storeName env x v) (fun _ s₂ => wp prog w A (execs rest env) Q s₂) s₁) s)
    (hs : swapsWith value (some (.Name x pos')) pos.line env = pure false := by rfl) : wp prog w A (execs (.Assign [.Name x pos'] value pos :: rest) env) Q s := x_cons (wpAny_Assign_Name h hs)
theorem x_aug {x : Str} {pos' pos : Pos} {op : Operator} {value : Expr} {rest : List Stmt} {Q : Flow → Shared → Prop}
    (h : wp prog w A (loadName env x) (fun old s₁ => wp prog w A (eval value env) (fun v s₂ => wp prog w A (inplaceOp op old v) (fun r s₃ => wp prog w A (storeName env x r) (fun _ s₄ => wp prog w A (execs rest env) Q s₄) s₃) s₂) s₁) s) :
    wp prog w A (execs (.AugAssign (.Name x pos') op value pos :: rest) env) Q s := x_cons (wpAny_AugAssign_Name h)
theorem x_if {test : Expr} {body orelse : List Stmt} {pos : Pos} {rest : List Stmt} {Q : Flow → Shared → Prop}
    (h : wp prog w A (isTrue test env (eval test env)) (fun b s₂ => if b = true then wp prog w A (execs body env) (thenK prog w A rest env Q) s₂ else wp prog w A (execs orelse env) (thenK prog w A rest env Q) s₂) s) :
    wp prog w A (execs (.If test body orelse pos :: rest) env) Q s := x_cons (wpAny_If h)
theorem x_expr {e : Expr} {pos : Pos} {rest : List Stmt} {Q : Flow → Shared → Prop} (h : wp prog w A (eval e env) (fun v s' => match v with | .ref _ => False | _ => wp prog w A (execs rest env) Q s') s)
    (hi : interactive env = false) (hs : swapsWith e none pos.line env = pure false := by rfl) : wp prog w A (execs (.Expr e pos :: rest) env) Q s := x_cons (wpAny_Expr h hi hs)
theorem EnvG.quiet (G : EnvG env) : interactive env = false := by unfold interactive; rw [G.k]; rfl
theorem ite_t {P Q : Prop} (h : P) : if true = true then P else Q := by rw [if_pos rfl]; exact h
theorem ite_f {P Q : Prop} (h : Q) : if false = true then P else Q := by rw [if_neg Bool.false_ne_true]; exact h
theorem ite_T {P Q : Prop} {b : Bool} (e : b = true) (h : P) : if b = true then P else Q := by rw [if_pos e]; exact h
theorem ite_F {P Q : Prop} {b : Bool} (e : b = false) (h : Q) : if b = true then P else Q := by rw [if_neg (by rw [e]; exact Bool.false_ne_true)]; exact h

/-! what a loop goes over -/
structure Src (prog : Program) (w : World) (A : Around) (I : Addr) (fp : List Addr) (n : Nat) (P : Nat → Value → Prop) (SI : Nat → Heap → Prop) : Prop where
  W : Walks prog w A I fp [I] n P SI
  live : ∀ i h, SI i h → ∃ o, h.get? I = some o
theorem Src.list (hh : A.handled = none) (I l : Addr) (hne : l ≠ I) (items : Array Value) :
    Src prog w A I [I, l] items.size (fun i v => items[i]? = some v) (fun i h => h.IsListIter I l i ∧ h.IsList l items) :=
  ⟨Walks.list hh I l hne items, fun _ _ h => let ⟨o, ho, _⟩ := h.1; ⟨o, ho⟩⟩
theorem Src.range (hh : A.handled = none) (I : Addr) (n : Nat) :
    Src prog w A I [I] n (fun i v => ∃ t, v = .int (i : Int) t) (fun i h => IsRangeIter h I (i : Int) ((n : Int) - (i : Nat)) 1) := by
  have W := Walks.range (prog := prog) (w := w) hh I 0 1 n
  simp only [Int.mul_one, Int.zero_add] at W
  exact ⟨W, fun _ _ h => ⟨_, h⟩⟩

/-- what the loop's source stands on stays -/
noncomputable def FpOk (h₀ : Heap) (I : Addr) (fp : List Addr) (h : Heap) (Keep : Addr × Obj → Prop) : Prop := ∀ b ∈ fp, b = I ∨ ∃ o, h.get? b = some o ∧ (h₀.get? b = some o ∨ Keep (b, o))

/-! for -/
inductive ForEnd (h₀ : Heap) (env : Env) (vr : List Str) (Ie : Addr × Obj) (J : List (Option Value) → Led → Led → Prop) (s' s'' : Shared) : Prop
  | mk (h : Heap) (tk : Nat) (vs : List (Option Value)) (mu nv : Led) (e : s'' = { s' with heap := h, toks := tk }) (S : Sta h₀ env.locals h (mV vr vs) (Ie :: mu) nv) (j : J vs mu nv) : ForEnd h₀ env vr Ie J s' s''
noncomputable def ForQ (h₀ : Heap) (env : Env) (vr : List Str) (Ie : Addr × Obj) (J : List (Option Value) → Led → Led → Prop) (Q : Flow → Shared → Prop) (s' : Shared) (f : Flow) (s'' : Shared) : Prop := match f with
  | .ret v => Q (.ret v) s''
  | .brk => Q .next s''
  | _ => ForEnd h₀ env vr Ie J s' s''
theorem ForQ.next {Ie : Addr × Obj} {J : List (Option Value) → Led → Led → Prop} {Q : Flow → Shared → Prop} {s' : Shared} {tk : Nat} (S : Sta h₀ env.locals h (mV vr vs) (Ie :: mu) nv) (j : J vs mu nv) : ForQ h₀ env vr Ie J Q s' .next { s' with heap := h, toks := tk } :=
  ⟨h, tk, vs, mu, nv, rfl, S, j⟩


theorem for_core {x : Str} {ix : Nat} {px : Pos} {body : List Stmt} {I : Addr} {io : Obj} {fp : List Addr} {n : Nat} {P : Nat → Value → Prop} {SI : Nat → Heap → Prop} {Q : Flow → Shared → Prop} (J : Nat → List (Option Value) → Led → Led → Prop)
    (nx : IsLoc env vr x ix) (G : EnvG env) (W : Src prog w A I fp n P SI) (S : Sta h₀ env.locals s.heap (mV vr vs) ((I, io) :: mu) nv) (h0 : SI 0 s.heap) (hfp : FpOk h₀ I fp s.heap fun p => ∀ i vs mu nv, i ≤ n → J i vs mu nv → p ∈ mu ++ nv)
    (hj : J 0 vs mu nv) (hJl : ∀ i vs mu nv, J i vs mu nv → vs.length = vr.length)
    (turn : ∀ i v vs mu nv io' h tk, i < n → P i v → J i vs mu nv → Sta h₀ env.locals h (mV vr (vs.set ix (some v))) ((I, io') :: mu) nv →
      wp prog w A (execs body env) (ForQ h₀ env vr (I, io') (J (i + 1)) Q { s with heap := h, toks := tk }) { s with heap := h, toks := tk })
    (done : ∀ vs mu nv h tk, J n vs mu nv → Sta h₀ env.locals h (mV vr vs) mu nv → Q .next { s with heap := h, toks := tk }) :
    codeAny (model prog w) A (.forLoop (.Name x px) (.ref I) body [] env) (fun r s' => match r with | .ok f => Q f s' | .error _ => False) s := by
  have hLI : env.locals ≠ I := Ne.symm (S.N _ (.head _)).2.1
  refine codeAny_forLoop_any
    (fun k s' => ∃ h tk vs mu nv io' i, s' = { s with heap := h, toks := tk } ∧ SI i h ∧ Sta h₀ env.locals h (mV vr vs) ((I, io') :: mu) nv ∧ J i vs mu nv ∧ i ≤ n ∧ k = n + 1 - i) ?_ (n + 1)
    ⟨s.heap, s.toks, vs, mu, nv, io, 0, rfl, h0, S, hj, Nat.zero_le _, rfl⟩
  rintro k s' ⟨h, tk, vs, mu, nv, io', i, rfl, hsi, S, hJ, hi, rfl⟩
  by_cases hlt : i < n
  · refine W.W.item i _ _ _ hlt hsi fun v h₁ tk₁ hP hsi₁ hk₁ => ?_
    refine wpAny_pure ?_
    obtain ⟨io₁, hio₁⟩ := W.live _ _ hsi₁
    have S₁ : Sta h₀ env.locals h₁ (mV vr vs) ((I, io₁) :: mu) nv := S.updK (fun b ob hb e => hk₁ b ob (by simpa using hb) e) hio₁
    refine wpAny_assign_Name (wpAny_storeName_local nx.kind S₁.F.ns (fun h₂ hn₂ hs₂ => ?_) (by rw [G.k]; rfl))
    rw [mV_set v nx.ix nx.lt (by rw [hJl _ _ _ _ hJ]; exact Nat.ble_eq_true_of_le nx.lt)] at hn₂
    have S₂ := S₁.newNs hn₂ hs₂
    have hsi₂ : SI (i + 1) h₂ := W.W.frame _ _ _ hsi₁ fun b hb o e => by
      rcases hfp b hb with rfl | ⟨ob, hob, hst⟩
      · exact (hs₂.2 _ (Ne.symm hLI)).trans e
      · by_cases hbL : b = env.locals
        · exfalso
          subst hbL
          rcases hst with hst | hst
          · exact absurd (Nat.lt_of_lt_of_le (Heap.lt_size hst) S.F.above) (Nat.lt_irrefl _)
          · exact (S.N _ (.tail _ (hst i vs mu nv hi hJ))).2.1 rfl
        · exact (hs₂.2 _ hbL).trans e
    refine wpAny_mono (turn i v vs mu nv io₁ h₂ _ hlt hP hJ S₂) (fun f s₃ h₃ => ?_) fun _ _ e => e.elim
    have fin : ForEnd h₀ env vr (I, io₁) (J (i + 1)) { s with heap := h₂, toks := tk₁ + 1 } s₃ → ∃ m, m < n + 1 - i ∧ ∃ h tk vs mu nv io' i, s₃ = { s with heap := h, toks := tk } ∧ SI i h ∧ Sta h₀ env.locals h (mV vr vs) ((I, io') :: mu) nv ∧ J i vs mu nv ∧ i ≤ n ∧ m = n + 1 - i := by
      rintro ⟨h₄, tk₄, vs₄, mu₄, nv₄, rfl, S₄, hJ₄⟩
      refine ⟨n + 1 - (i + 1), by omega, h₄, tk₄, vs₄, mu₄, nv₄, io₁, i + 1, rfl, ?_, S₄, hJ₄, hlt, rfl⟩
      refine W.W.frame _ _ _ hsi₂ fun b hb o e => ?_
      rcases hfp b hb with rfl | ⟨ob, hob, hst⟩
      · have e1 := S₂.mem (List.mem_append_left _ (.head _))
        rw [e] at e1
        cases e1
        exact S₄.mem (List.mem_append_left _ (.head _))
      · rcases hst with hst | hst
        · have e1 := S₂.F.keep _ _ hst
          rw [e] at e1
          cases e1
          exact S₄.F.keep _ _ hst
        · have e1 := (S₂.N _ (.tail _ (hst i vs mu nv hi hJ))).1
          rw [e] at e1
          cases e1
          exact (S₄.N _ (.tail _ (hst (i + 1) vs₄ mu₄ nv₄ hlt hJ₄))).1
    cases f with
    | next => exact fin h₃
    | cont => exact fin h₃
    | brk => exact h₃
    | ret v => exact h₃
  · have hin : i = n := by omega
    subst hin
    refine W.W.done _ _ _ hsi fun h₁ tk₁ hk₁ => wpAny_execs_nil ?_
    have hne := S.ne
    have hIm := S.N (I, io') (.head _)
    have S' := S.drop
    refine done vs mu nv h₁ tk₁ hJ ⟨⟨?_, fun b x q => hk₁ b x ?_ (S'.F.keep b x q), S'.F.above⟩, fun p hp => ⟨hk₁ _ _ ?_ (S'.N p hp).1, (S'.N p hp).2⟩, S'.D⟩
    · obtain ⟨oL, es, ep, hL, r⟩ := S'.F.ns
      exact ⟨oL, es, ep, hk₁ _ _ (by simpa using hLI) hL, r⟩
    · intro hb
      have hb' : b = I := by simpa using hb
      have := hIm.2.2
      rw [← hb', q] at this
      cases this
    · intro hb
      exact hne p hp (by simpa using hb)

/-- what a loop over a list asks once its source is there -/
inductive ForLs (prog : Program) (w : World) (A : Around) (h₀ : Heap) (env : Env) (vr : List Str) (ix : Nat) (body rest : List Stmt) (Q : Flow → Shared → Prop) (J : Nat → List (Option Value) → Led → Led → Prop) (xv : Value) (s₁ : Shared) : Prop
  | mk (l : Addr) (items : Array Value) (k : Nat) (vs : List (Option Value)) (mu nv : Led) (e : xv = .ref l) (S : Sta h₀ env.locals s₁.heap (mV vr vs) mu nv) (j : J 0 vs mu nv) (hl : s₁.heap.get? l = some (listOf items k)) (hst : h₀.get? l = some (listOf items k) ∨ ∀ i vs mu nv, i ≤ items.size → J i vs mu nv → (l, listOf items k) ∈ mu ++ nv)
      (turn : ∀ I i v vs mu nv io h tk, let Q' := ForQ h₀ env vr (I, io) (J (i + 1)) (thenK prog w A rest env Q) { s₁ with heap := h, toks := tk }; i < items.size → items[i]? = some v → J i vs mu nv → Sta h₀ env.locals h (mV vr (vs.set ix (some v))) ((I, io) :: mu) nv → wp prog w A (execs body env) Q' { s₁ with heap := h, toks := tk })
      (done : ∀ vs mu nv h tk, J items.size vs mu nv → Sta h₀ env.locals h (mV vr vs) mu nv → wp prog w A (execs rest env) Q { s₁ with heap := h, toks := tk }) : ForLs prog w A h₀ env vr ix body rest Q J xv s₁
/-- what a loop over range(n) asks -/
inductive ForRs (prog : Program) (w : World) (A : Around) (h₀ : Heap) (env : Env) (vr : List Str) (ix : Nat) (body rest : List Stmt) (Q : Flow → Shared → Prop) (J : Nat → List (Option Value) → Led → Led → Prop) (xv : Value) (s₁ : Shared) : Prop
  | mk (r : Addr) (n : Nat) (t u v : Tok) (vs : List (Option Value)) (mu nv : Led) (e : xv = .ref r) (hr : IsRange s₁.heap r 0 (n : Nat) 1 t u v) (hsm : Builtin.Range.small 0 (n : Nat) 1 = true) (S : Sta h₀ env.locals s₁.heap (mV vr vs) mu nv) (j : J 0 vs mu nv)
      (turn : ∀ I i t vs mu nv io h tk, let Q' := ForQ h₀ env vr (I, io) (J (i + 1)) (thenK prog w A rest env Q) { s₁ with heap := h, toks := tk }; i < n → J i vs mu nv → Sta h₀ env.locals h (mV vr (vs.set ix (some (.int (i : Nat) t)))) ((I, io) :: mu) nv → wp prog w A (execs body env) Q' { s₁ with heap := h, toks := tk })
      (done : ∀ vs mu nv h tk, J n vs mu nv → Sta h₀ env.locals h (mV vr vs) mu nv → wp prog w A (execs rest env) Q { s₁ with heap := h, toks := tk }) : ForRs prog w A h₀ env vr ix body rest Q J xv s₁
/-- a loop over a list of the ledger's (or of what stood before) -/
theorem x_forL {x : Str} {ix : Nat} {px pos : Pos} {iter : Expr} {body rest : List Stmt} {Q : Flow → Shared → Prop} (J : Nat → List (Option Value) → Led → Led → Prop)
    (nx : IsLoc env vr x ix) (G : EnvG env) (M : Am K d A fe h₀) (hJl : ∀ i vs mu nv, J i vs mu nv → vs.length = vr.length)
    (h : wp prog w A (eval iter env) (ForLs prog w A h₀ env vr ix body rest Q J) s)
    (hs : ∀ x, foldedSetIterable iter env x = pure x := by intro _; rfl) : wp prog w A (execs (.For (.Name x px) iter body [] pos :: rest) env) Q s := by
  refine x_cons (wpAny_For (wpAny_mono h (fun xv s₁ h₁ => ?_) fun _ _ e => e) hs)
  obtain ⟨l, items, k, vs, mu, nv, rfl, S, hj, hl, hst, turn, done⟩ := h₁
  have hil : s₁.heap.IsList l items := ⟨_, hl, rfl, k, rfl⟩
  refine wpAny_pyIter_list hil ?_
  have hne : l ≠ s₁.heap.objs.size := Nat.ne_of_lt (Heap.lt_size hl)
  refine codeAny_mono (for_core J nx G (Src.list M.hh s₁.heap.objs.size l hne items) (S.push _) ⟨⟨_, Heap.get?_push_size _ rfl, rfl, rfl⟩, hil.at fun o e => Heap.get?_push_of_some _ e⟩ ?_ hj hJl
    (fun i v vs mu nv io h tk hi hP hJ S' => turn s₁.heap.objs.size i v vs mu nv io h tk hi hP hJ S') (fun vs mu nv h tk hJ S' => x_next (done vs mu nv h tk hJ S'))) ?_
  · intro b hb
    rcases List.mem_cons.mp hb with rfl | hb
    · exact .inl rfl
    · rw [List.mem_singleton.mp hb]
      exact .inr ⟨_, Heap.get?_push_of_some _ hl, hst⟩
  · intro r s' hr
    cases r with
    | ok f => exact hr
    | error e => exact hr.elim

/-- a loop over range(n) -/
theorem x_forR {x : Str} {ix : Nat} {px pos : Pos} {iter : Expr} {body rest : List Stmt} {Q : Flow → Shared → Prop} (J : Nat → List (Option Value) → Led → Led → Prop)
    (nx : IsLoc env vr x ix) (G : EnvG env) (M : Am K d A fe h₀) (hJl : ∀ i vs mu nv, J i vs mu nv → vs.length = vr.length)
    (h : wp prog w A (eval iter env) (ForRs prog w A h₀ env vr ix body rest Q J) s)
    (hs : ∀ x, foldedSetIterable iter env x = pure x := by intro _; rfl) : wp prog w A (execs (.For (.Name x px) iter body [] pos :: rest) env) Q s := by
  refine x_cons (wpAny_For (wpAny_mono h (fun xv s₁ h₁ => ?_) fun _ _ e => e) hs)
  obtain ⟨r, n, t, u, v, vs, mu, nv, rfl, hr, hsm, S, hj, turn, done⟩ := h₁
  refine wpAny_pyIter_range hr hsm ?_
  have hsz : Builtin.Range.rangeSize 0 (n : Nat) 1 = (n : Int) := by unfold Builtin.Range.rangeSize; (repeat' split) <;> omega
  refine codeAny_mono (for_core J nx G (Src.range M.hh s₁.heap.objs.size n) (S.push _) (by show IsRangeIter _ _ _ _ _; rw [hsz]; simpa using Heap.get?_push_size _ rfl) ?_ hj hJl
    (fun i v vs mu nv io h tk hi hP hJ S' => by obtain ⟨t, rfl⟩ := hP; exact turn s₁.heap.objs.size i t vs mu nv io h tk hi hJ S') (fun vs mu nv h tk hJ S' => x_next (done vs mu nv h tk hJ S'))) ?_
  · intro b hb
    exact .inl (List.mem_singleton.mp hb)
  · intro r s' hr
    cases r with
    | ok f => exact hr
    | error e => exact hr.elim
end
end Mine
end
/-! NE -/
section
namespace Mine

section
variable {prog : Program} {w : World} {K : Frag} {d : Nat} {A : Around} {env fe : Env} {s : Shared} {h₀ h : Heap} {L : Addr} {m : Str → Option Value} {mu nv mu' nv' : Led} {vr : List Str} {vs : List (Option Value)}

/-- where a comprehension's turn ends: the list so far, the places -/
inductive CompEnd (h₀ : Heap) (L : Addr) (m : Str → Option Value) (Ce De : Addr × Obj) (Ie : Addr × Obj) (J : Led → Led → Prop) (s' s'' : Shared) : Prop
  | mk (h : Heap) (tk : Nat) (mu nv : Led) (e : s'' = { s' with heap := h, toks := tk }) (S : Sta h₀ L h m (Ce :: De :: Ie :: mu) nv) (j : J mu nv) : CompEnd h₀ L m Ce De Ie J s' s''
theorem CompEnd.mk' {Ce De Ie : Addr × Obj} {J : Led → Led → Prop} {s' : Shared} {tk : Nat} (S : Sta h₀ L h m (Ce :: De :: Ie :: mu) nv) (j : J mu nv) : CompEnd h₀ L m Ce De Ie J s' { s' with heap := h, toks := tk } :=
  ⟨h, tk, mu, nv, rfl, S, j⟩

/-- the block's own name -/
noncomputable def InC (C : Addr) (oC : Obj) (x : Str) (v : Value) : Prop := ∀ h : Heap, h.get? C = some oC → ∃ m, h.Ns C m ∧ m x = some v

/-- the comprehension's block -/
structure CEnv (env env' : Env) (scope : Scope) (cl : List (Str × Addr)) (C : Addr) : Prop where
  scope : env'.scope = relabel scope env
  locals : env'.locals = C
  globals : env'.globals = env.globals
  builtins : env'.builtins = env.builtins
  cells : env'.cells = cl

theorem ld_comp {x : Str} {pos : Pos} {C : Addr} {oC : Obj} {v : Value} {Q : Value → Shared → Prop} (hL : env.locals = C) (hx : env.kindOf x = some .local) (nd : (x == ("__debug__" : Str)) = false) (G : EnvG env) (i : InC C oC x v) (S : Sta h₀ L s.heap m mu nv) (hm : (C, oC) ∈ mu ++ nv) (q : Q v s) :
    wp prog w A (eval (.Name x pos) env) Q s := by
  obtain ⟨mC, hn, hv⟩ := i _ (S.mem hm)
  exact wpAny_Name (wpAny_loadName_local G.k hx (by rw [hL]; exact hn) hv q) nd

theorem comp_core {x : Str} {px : Pos} {elt iter : Expr} {ifs : List Expr} {scope : Scope} {pos : Pos} {cl : List (Str × Addr)} {I : Addr} {io : Obj} {fp : List Addr} {n : Nat} {P : Nat → Value → Prop} {SI : Nat → Heap → Prop} {R : Value → Addr → Shared → Prop} (J : Nat → List Value → Led → Led → Prop)
    (W : Src prog w A I fp n P SI) (S : Sta h₀ L s.heap m ((I, io) :: mu) nv) (h0 : SI 0 s.heap) (hfp : FpOk h₀ I fp s.heap fun p => ∀ i acc mu nv, i ≤ n → J i acc mu nv → p ∈ mu ++ nv) (hn : n ≤ sizeLine)
    (hcell : ∀ y ∈ scope.names, y.2 ≠ .cell) (hkind : scope.kind = .function) (hx : scope.names.lookup x = some .local)
    (hj : J 0 [] mu nv)
    (turn : ∀ i v acc mu nv C oC D k io' env' h tk, i < n → P i v → J i acc mu nv → acc.length ≤ i → CEnv env env' scope cl C → env'.scope.kind = .function → InC C oC x v → Sta h₀ L h m ((C, oC) :: (D, listOf acc.toArray k) :: (I, io') :: mu) nv →
      wp prog w A (forIn ifs true fun c r => if r = true then do let ok ← isTrue c env' (eval c env'); pure (ForInStep.yield ok) else pure (ForInStep.yield r)) (fun ok s₃ => if ok = true
        then wp prog w A (eval elt env') (fun y s₄ => CompEnd h₀ L m (C, oC) (D, listOf acc.toArray k) (I, io') (J (i + 1) (acc ++ [y])) { s with heap := h, toks := tk } s₄) s₃
        else CompEnd h₀ L m (C, oC) (D, listOf acc.toArray k) (I, io') (J (i + 1) acc) { s with heap := h, toks := tk } s₃) { s with heap := h, toks := tk })
    (done : ∀ acc mu nv C oC D k h tk, J n acc mu nv → acc.length ≤ n → (∃ m', h.Ns C m') → Sta h₀ L h m ((C, oC) :: (D, listOf acc.toArray k) :: mu) nv → R (.ref D) C { s with heap := h, toks := tk }) :
    wp prog w A (newList []) (fun acc s₃ => wp prog w A (newFunctionEnv scope env.globals cl [] env.qual none .none (some env)) (fun cenv s₄ =>
      codeAny (model prog w) A (.compStart (.ListComp elt [⟨.Name x px, iter, ifs, 0⟩] scope pos) 0 (.ref I) acc { cenv with scope := relabel scope env }) (fun r s' => match r with | .ok _ => R acc cenv.locals s' | .error _ => False) s₄) s₃) s := by
  refine wpAny_newObj_type (wpAny_newFunctionEnv hcell (by intro y hy; simp at hy) (fun h₁ hns₁ hsb₁ => ?_) hkind) (by size_fits)
  dsimp only at hns₁ hsb₁ ⊢
  have SD := S.push { cls := .type "list", dict := none, data := .seq ([] : List Value).toArray }
  generalize hD : s.heap.objs.size = D at SD hns₁ hsb₁ ⊢
  generalize hH2 : s.heap.push { cls := .type "list", dict := none, data := .seq ([] : List Value).toArray } = H2 at SD hns₁ hsb₁ ⊢
  have SC := SD.push { cls := .type (if (some env).isSome then "dict" else "frame"), data := .dict #[] }
  obtain ⟨oC₁, hoC₁⟩ : ∃ o, h₁.get? H2.objs.size = some o := let ⟨o, _, _, ho, _⟩ := hns₁; ⟨o, ho⟩
  have S₁ := SC.upd hsb₁ hoC₁
  generalize hC : H2.objs.size = C at S₁ hns₁ hsb₁ hoC₁ SC ⊢
  have key : ∀ s₃ : Shared, s₃ = { s with heap := h₁, toks := s.toks + ([] : List (Str × Value)).length } → SI 0 h₁ →
      codeAny (model prog w) A (.compLoop (.ListComp elt [⟨.Name x px, iter, ifs, 0⟩] scope pos) 0 (.ref I) (.ref D) (compEnvC scope cl C env)) (fun r s' => match r with | .ok _ => R (.ref D) C s' | .error _ => False) s₃ := by
    rintro s₃ rfl hsi₁
    have hlx : (compEnvC scope cl C env).kindOf x = some .local := lookup_relabel_local hx
    have hkx : (compEnvC scope cl C env).scope.kind = .function := by simp [compEnvC, relabel, hkind]
    refine codeAny_compLoop_tests
      (fun kk s' => ∃ h tk acc mu nv oC k io' i, s' = { s with heap := h, toks := tk } ∧ SI i h ∧ (∃ m', h.Ns C m') ∧ Sta h₀ L h m ((C, oC) :: (D, listOf acc.toArray k) :: (I, io') :: mu) nv ∧ J i acc mu nv ∧ acc.length ≤ i ∧ i ≤ n ∧ kk = n + 1 - i) ?_ (n + 1)
      ⟨h₁, _, [], mu, nv, oC₁, 0, io, 0, rfl, hsi₁, ⟨_, hns₁⟩, S₁, hj, Nat.le_refl _, Nat.zero_le _, rfl⟩
    rintro kk s' ⟨h, tk, acc, mu, nv, oC, k, io', i, rfl, hsi, ⟨mC, hnC⟩, S, hJ, hacc, hi, rfl⟩
    have hCI : C ≠ I := Ne.symm (S.ne (I, io') (by simp))
    have keepI : ∀ {h' : Heap} {i : Nat} {Ce De : Addr × Obj} {mu' nv' : Led} {h : Heap} {mu nv : Led} {oC : Obj} {io' io'' : Obj} {De' : Addr × Obj} {i' : Nat} {acc acc' : List Value}, SI i' h → Sta h₀ L h m ((C, oC) :: De :: (I, io') :: mu) nv → J i acc mu nv → i ≤ n → Sta h₀ L h' m (Ce :: De' :: (I, io') :: mu') nv' → (J (i + 1) acc' mu' nv' ∧ i + 1 ≤ n ∨ J i acc' mu' nv') → SI i' h' := by
      intro h' i Ce De mu' nv' h mu nv oC io' io'' De' i' acc acc' hsi S hJ hi S' hJ'
      refine W.W.frame _ _ _ hsi fun b hb o e => ?_
      rcases hfp b hb with rfl | ⟨ob, hob, hst⟩
      · have e1 := S.mem (a := b) (o := io') (by simp)
        rw [e] at e1; cases e1
        exact S'.mem (by simp)
      · rcases hst with hst | hst
        · have e1 := S.F.keep _ _ hst
          rw [e] at e1; cases e1
          exact S'.F.keep _ _ hst
        · have e1 := S.mem (a := b) (o := ob) (by have := hst i acc mu nv hi hJ; simp only [List.cons_append, List.mem_cons]; exact .inr (.inr (.inr this)))
          rw [e] at e1; cases e1
          refine S'.mem ?_
          simp only [List.cons_append, List.mem_cons]
          rcases hJ' with ⟨hJ', hi'⟩ | hJ'
          · exact .inr (.inr (.inr (hst _ _ _ _ hi' hJ')))
          · exact .inr (.inr (.inr (hst _ _ _ _ hi hJ')))
    by_cases hlt : i < n
    · refine W.W.item i _ _ _ hlt hsi fun v h₂ tk₂ hP hsi₂ hk₂ => ?_
      obtain ⟨io₂, hio₂⟩ := W.live _ _ hsi₂
      have Sr := S.rot3
      have S₂ := (Sr.updK (fun b ob hb e => hk₂ b ob (by simpa using hb) e) hio₂).swap.perm (mu' := (C, oC) :: (D, listOf acc.toArray k) :: (I, io₂) :: mu) (nv' := nv) (by exact ((List.Perm.swap (D, listOf acc.toArray k) (I, io₂) _).cons _).symm.trans (List.Perm.refl _))
      have hnC₂ : h₂.Ns C mC := hnC.at' fun o e => hk₂ C o (by simpa using hCI) e
      refine wpAny_assign_Name (wpAny_storeName_local hlx (by exact hnC₂) (fun h₃ hn₃ hs₃ => ?_) (by rw [hkx]; rfl))
      have hn₃' : h₃.Ns C (fun y => if y = x then some v else mC y) := hn₃
      obtain ⟨oC₃, hoC₃⟩ : ∃ o, h₃.get? C = some o := let ⟨o, _, _, ho, _⟩ := hn₃'; ⟨o, ho⟩
      have S₃ : Sta h₀ L h₃ m ((C, oC₃) :: (D, listOf acc.toArray k) :: (I, io₂) :: mu) nv := S₂.upd hs₃ hoC₃
      have hin : InC C oC₃ x v := fun h' e => by
        obtain ⟨o, es, ep, ho, r1, r2, r3⟩ := hn₃'
        rw [hoC₃] at ho; cases ho
        exact ⟨_, ⟨oC₃, es, ep, e, r1, r2, r3⟩, by simp⟩
      have keepC : ∀ {h' : Heap} {De Ie : Addr × Obj} {mu' nv' : Led}, Sta h₀ L h' m ((C, oC₃) :: De :: Ie :: mu') nv' → ∃ m', h'.Ns C m' := fun S' => let ⟨m', a, _⟩ := hin _ (S'.mem (by simp)); ⟨m', a⟩
      have hsi₃ : SI (i + 1) h₃ := W.W.frame _ _ _ hsi₂ fun b hb o e => by
        by_cases hbC : b = C
        · exfalso
          subst hbC
          rcases hfp b hb with rfl | ⟨ob, hob, hst⟩
          · exact hCI rfl
          · rcases hst with hst | hst
            · have := (S.N (b, oC) (by simp)).2.2; rw [hst] at this; cases this
            · exact (S.ne (b, ob) (by have := hst i acc mu nv hi hJ; simp only [List.cons_append, List.mem_cons]; exact .inr (.inr this))) rfl
        · exact (hs₃.2 b hbC).trans e
      refine wpAny_mono (turn i v acc mu nv C oC₃ D k io₂ (compEnvC scope cl C env) h₃ _ hlt hP hJ hacc ⟨rfl, rfl, rfl, rfl, rfl⟩ hkx hin S₃) (fun ok s₃ h₃' => ?_) fun _ _ e => e.elim
      cases ok with
      | false =>
        simp only [Bool.false_eq_true, if_false] at h₃' ⊢
        obtain ⟨h₄, tk₄, mu₄, nv₄, rfl, S₄, hJ₄⟩ := h₃'
        exact ⟨n + 1 - (i + 1), by omega, h₄, tk₄, acc, mu₄, nv₄, oC₃, k, io₂, i + 1, rfl, keepI (io'' := io₂) hsi₃ S₃ hJ hi S₄ (.inl ⟨hJ₄, hlt⟩), keepC S₄, S₄, hJ₄, by omega, hlt, rfl⟩
      | true =>
        simp only [if_true] at h₃' ⊢
        refine wpAny_mono h₃' (fun y s₄ h₄' => ?_) fun _ _ e => e.elim
        obtain ⟨h₄, tk₄, mu₄, nv₄, rfl, S₄, hJ₄⟩ := h₄'
        have hDm : h₄.PlainList D acc.toArray := ⟨k, S₄.mem (by simp)⟩
        refine wpAny_list_append_plain hDm (fun h₅ hl₅ hs₅ => ?_) (by rw [List.size_toArray]; exact Nat.le_trans hacc (Nat.le_trans hi hn))
        obtain ⟨k₅, hk₅⟩ := hl₅
        have S₅ := (S₄.swap.upd hs₅ (o' := listOf (acc ++ [y]).toArray k₅) (by rw [hk₅]; simp)).swap
        exact ⟨n + 1 - (i + 1), by omega, h₅, tk₄, acc ++ [y], mu₄, nv₄, oC₃, k₅, io₂, i + 1, rfl, keepI (io'' := io₂) hsi₃ S₃ hJ hi S₅ (.inl ⟨hJ₄, hlt⟩), keepC S₅, S₅, hJ₄, by simp; omega, hlt, rfl⟩
    · have hin : i = n := by omega
      subst hin
      refine W.W.done _ _ _ hsi fun h₂ tk₂ hk₂ => ?_
      have Sr := S.rot3
      have hne := Sr.ne
      have hIm := Sr.N (I, io') (.head _)
      have S' := Sr.drop
      refine done acc mu nv C oC D k h₂ tk₂ hJ hacc ⟨mC, hnC.at' fun o e => hk₂ C o (by simpa using hCI) e⟩ ⟨⟨?_, fun b x q => hk₂ b x ?_ (S'.F.keep b x q), S'.F.above⟩, fun p hp => ⟨hk₂ _ _ ?_ (S'.N p hp).1, (S'.N p hp).2⟩, S'.D⟩
      · obtain ⟨oL, es, ep, hL, r⟩ := S'.F.ns
        exact ⟨oL, es, ep, hk₂ _ _ (by simpa using Ne.symm hIm.2.1) hL, r⟩
      · intro hb
        have hb' : b = I := by simpa using hb
        have := hIm.2.2
        rw [← hb', q] at this
        cases this
      · intro hb
        exact hne p hp (by simpa using hb)
  have hsi₁ : SI 0 h₁ := W.W.frame _ _ _ h0 fun b hb o e => by
    have hb1 : b ≠ C := by
      rintro rfl
      have := Heap.lt_size e
      rw [← hC, ← hH2, Heap.size_push] at this
      exact absurd this (Nat.not_lt.mpr (Nat.le_succ _))
    refine (hsb₁.2 b hb1).trans ?_
    refine Heap.get?_push_of_some _ ?_
    rw [← hH2]
    exact Heap.get?_push_of_some _ e
  exact codeAny_compStart_list (key _ rfl hsi₁) (W.W.self 0 _ _ _ hsi₁ (key _ rfl hsi₁))

theorem Sta.gone {a : Addr} {o : Obj} {h' : Heap} (S : Sta h₀ L h m ((a, o) :: mu) nv) (hs : Heap.SameBut a h h') : Sta h₀ L h' m mu nv := by
  have hne := S.ne
  have ha := S.N (a, o) (.head _)
  have S' := S.drop
  obtain ⟨oL, es, ep, hL, r⟩ := S'.F.ns
  refine ⟨⟨⟨oL, es, ep, (hs.2 _ (Ne.symm ha.2.1)).trans hL, r⟩, fun b x q => (hs.2 b fun z => ?_).trans (S'.F.keep b x q), S'.F.above⟩, fun p hp => ⟨(hs.2 _ (hne p hp)).trans (S'.N p hp).1, (S'.N p hp).2⟩, S'.D⟩
  have := ha.2.2; rw [← z, q] at this; cases this

/-- what a comprehension goes over: a list, or range(n) -/
inductive Over (h₀ : Heap) (J : Nat → List Value → Led → Led → Prop) (xv : Value) (s₁ : Shared) : Nat → (Nat → Value → Prop) → Prop
  | list {l : Addr} {items : Array Value} {k : Nat} (e : xv = .ref l) (hl : s₁.heap.get? l = some (listOf items k)) (st : h₀.get? l = some (listOf items k) ∨ ∀ i acc mu nv, i ≤ items.size → J i acc mu nv → (l, listOf items k) ∈ mu ++ nv) : Over h₀ J xv s₁ items.size (fun i v => items[i]? = some v)
  | range {r : Addr} {n : Nat} {t u v : Tok} (e : xv = .ref r) (hr : IsRange s₁.heap r 0 (n : Nat) 1 t u v) (sm : Builtin.Range.small 0 (n : Nat) 1 = true) : Over h₀ J xv s₁ n (fun i v => ∃ t, v = .int (i : Int) t)

noncomputable def CompTurn (prog : Program) (w : World) (A : Around) (h₀ : Heap) (L : Addr) (m : Str → Option Value) (env : Env) (scope : Scope) (cl : List (Str × Addr)) (x : Str) (elt : Expr) (ifs : List Expr) (J : Nat → List Value → Led → Led → Prop) (n : Nat) (P : Nat → Value → Prop) (s : Shared) : Prop :=
  ∀ I i v acc mu nv C oC D k io' env' h tk, i < n → P i v → J i acc mu nv → acc.length ≤ i → CEnv env env' scope cl C → env'.scope.kind = .function → InC C oC x v → Sta h₀ L h m ((C, oC) :: (D, listOf acc.toArray k) :: (I, io') :: mu) nv →
      wp prog w A (forIn ifs true fun c r => if r = true then do let ok ← isTrue c env' (eval c env'); pure (ForInStep.yield ok) else pure (ForInStep.yield r)) (fun ok s₃ => if ok = true
        then wp prog w A (eval elt env') (fun y s₄ => CompEnd h₀ L m (C, oC) (D, listOf acc.toArray k) (I, io') (J (i + 1) (acc ++ [y])) { s with heap := h, toks := tk } s₄) s₃
        else CompEnd h₀ L m (C, oC) (D, listOf acc.toArray k) (I, io') (J (i + 1) acc) { s with heap := h, toks := tk } s₃) { s with heap := h, toks := tk }
theorem CompTurn.plain {scope : Scope} {cl : List (Str × Addr)} {x : Str} {elt : Expr} {J : Nat → List Value → Led → Led → Prop} {n : Nat} {P : Nat → Value → Prop}
    (H : ∀ I i v acc mu nv C oC D k io' env' h tk, let Q' := (fun y s₄ => CompEnd h₀ L m (C, oC) (D, listOf acc.toArray k) (I, io') (J (i + 1) (acc ++ [y])) { s with heap := h, toks := tk } s₄); i < n → P i v → J i acc mu nv → acc.length ≤ i → CEnv env env' scope cl C → env'.scope.kind = .function → InC C oC x v → Sta h₀ L h m ((C, oC) :: (D, listOf acc.toArray k) :: (I, io') :: mu) nv →
      wp prog w A (eval elt env') Q' { s with heap := h, toks := tk }) :
    CompTurn prog w A h₀ L m env scope cl x elt [] J n P s := fun I i v acc mu nv C oC D k io' env' h tk a b c d e f g S => by
  refine wpAny_pure ?_
  rw [if_pos rfl]
  exact H I i v acc mu nv C oC D k io' env' h tk a b c d e f g S

theorem over_run {x : Str} {px : Pos} {elt iter : Expr} {ifs : List Expr} {scope : Scope} {pos : Pos} {cl : List (Str × Addr)} {n : Nat} {P : Nat → Value → Prop} {xv : Value} {R : Value → Addr → Shared → Prop} {J : Nat → List Value → Led → Led → Prop} (hh : A.handled = none)
    (O : Over h₀ J xv s n P) (S : Sta h₀ L s.heap m mu nv) (hn : n ≤ sizeLine) (hcell : ∀ y ∈ scope.names, y.2 ≠ .cell) (hkind : scope.kind = .function) (hx : scope.names.lookup x = some .local) (hj : J 0 [] mu nv)
    (turn : CompTurn prog w A h₀ L m env scope cl x elt ifs J n P s)
    (done : ∀ acc mu nv C oC D k h tk, J n acc mu nv → acc.length ≤ n → (∃ m', h.Ns C m') → Sta h₀ L h m ((C, oC) :: (D, listOf acc.toArray k) :: mu) nv → R (.ref D) C { s with heap := h, toks := tk }) :
    wp prog w A (pyIter xv) (fun it s₂ => wp prog w A (newList []) (fun acc s₃ => wp prog w A (newFunctionEnv scope env.globals cl [] env.qual none .none (some env)) (fun cenv s₄ =>
      codeAny (model prog w) A (.compStart (.ListComp elt [⟨.Name x px, iter, ifs, 0⟩] scope pos) 0 it acc { cenv with scope := relabel scope env }) (fun r s' => match r with | .ok _ => R acc cenv.locals s' | .error _ => False) s₄) s₃) s₂) s := by
  cases O with
  | @list l items k e hl st =>
    subst e
    have hil : s.heap.IsList l items := ⟨_, hl, rfl, k, rfl⟩
    refine wpAny_pyIter_list hil ?_
    have hne : l ≠ s.heap.objs.size := Nat.ne_of_lt (Heap.lt_size hl)
    refine comp_core J (Src.list hh s.heap.objs.size l hne items) (S.push _) ⟨⟨_, Heap.get?_push_size _ rfl, rfl, rfl⟩, hil.at fun o e => Heap.get?_push_of_some _ e⟩ ?_ hn hcell hkind hx hj
      (fun i v acc mu nv C oC D k io' env' h tk => turn s.heap.objs.size i v acc mu nv C oC D k io' env' h tk) (fun acc mu nv C oC D k h tk => done acc mu nv C oC D k h tk)
    intro b hb
    rcases List.mem_cons.mp hb with rfl | hb
    · exact .inl rfl
    · rw [List.mem_singleton.mp hb]
      exact .inr ⟨_, Heap.get?_push_of_some _ hl, st⟩
  | @range r n t u v e hr sm =>
    subst e
    refine wpAny_pyIter_range hr sm ?_
    have hsz : Builtin.Range.rangeSize 0 (n : Nat) 1 = (n : Int) := by unfold Builtin.Range.rangeSize; (repeat' split) <;> omega
    refine comp_core J (Src.range hh s.heap.objs.size n) (S.push _) (by show IsRangeIter _ _ _ _ _; rw [hsz]; simpa using Heap.get?_push_size _ rfl) ?_ hn hcell hkind hx hj
      (fun i v acc mu nv C oC D k io' env' h tk => turn s.heap.objs.size i v acc mu nv C oC D k io' env' h tk) (fun acc mu nv C oC D k h tk => done acc mu nv C oC D k h tk)
    intro b hb
    exact .inl (List.mem_singleton.mp hb)

/-- what a comprehension asks once its source is there -/
inductive CompVs (prog : Program) (w : World) (A : Around) (h₀ : Heap) (L : Addr) (m : Str → Option Value) (env : Env) (scope : Scope) (cl : List (Str × Addr)) (x : Str) (elt : Expr) (ifs : List Expr) (Q : Value → Shared → Prop) (J : Nat → List Value → Led → Led → Prop) (xv : Value) (s₁ : Shared) : Prop
  | mk (n : Nat) (P : Nat → Value → Prop) (mu nv : Led) (O : Over h₀ J xv s₁ n P) (S : Sta h₀ L s₁.heap m mu nv) (hn : n ≤ sizeLine) (j : J 0 [] mu nv) (turn : CompTurn prog w A h₀ L m env scope cl x elt ifs J n P s₁)
      (done : ∀ acc mu nv D k h tk, J n acc mu nv → acc.length ≤ n → Sta h₀ L h m ((D, listOf acc.toArray k) :: mu) nv → Q (.ref D) { s₁ with heap := h, toks := tk }) : CompVs prog w A h₀ L m env scope cl x elt ifs Q J xv s₁
inductive CompAs (prog : Program) (w : World) (A : Around) (h₀ : Heap) (L : Addr) (m : Str → Option Value) (env : Env) (scope : Scope) (cl : List (Str × Addr)) (x : Str) (elt : Expr) (ifs : List Expr) (vr : List Str) (vs : List (Option Value)) (ix : Nat) (rest : List Stmt) (Q : Flow → Shared → Prop) (J : Nat → List Value → Led → Led → Prop) (xv : Value) (s₁ : Shared) : Prop
  | mk (n : Nat) (P : Nat → Value → Prop) (mu nv : Led) (O : Over h₀ J xv s₁ n P) (S : Sta h₀ L s₁.heap m mu nv) (hn : n ≤ sizeLine) (j : J 0 [] mu nv) (turn : CompTurn prog w A h₀ L m env scope cl x elt ifs J n P s₁)
      (done : ∀ acc mu nv D k h tk, J n acc mu nv → acc.length ≤ n → Sta h₀ L h (mV vr (vs.set ix (some (.ref D)))) ((D, listOf acc.toArray k) :: mu) nv → wp prog w A (execs rest env) Q { s₁ with heap := h, toks := tk }) : CompAs prog w A h₀ L m env scope cl x elt ifs vr vs ix rest Q J xv s₁
/-- a comprehension as a value -/
theorem e_comp {x : Str} {px : Pos} {elt iter : Expr} {ifs : List Expr} {scope : Scope} {pos : Pos} {cl : List (Str × Addr)} {Q : Value → Shared → Prop} (J : Nat → List Value → Led → Led → Prop) (M : Am K d A fe h₀) {mu₀ nv₀ : Led} (_S : Sta h₀ L s.heap m mu₀ nv₀)
    (hclos : closureFor scope env = pure cl) (hcell : ∀ y ∈ scope.names, y.2 ≠ .cell) (hkind : scope.kind = .function) (hnames : ∀ y ∈ scope.names, y.2 = .local → scope.names.lookup y.1 = some .local) (hx : scope.names.lookup x = some .local)
    (h : wp prog w A (eval iter env) (CompVs prog w A h₀ L m env scope cl x elt ifs Q J) s)
    (hs : ∀ x, foldedSetIterable iter env x = pure x := by intro _; rfl) :
    wp prog w A (eval (.ListComp elt [⟨.Name x px, iter, ifs, 0⟩] scope pos) env) Q s := by
  rw [eval_ListComp]
  refine wpAny_comprehension_free (use := none) rfl hs hclos hkind hnames (wpAny_mono h (fun xv s₁ h₁ => ?_) fun _ _ e => e)
  obtain ⟨n, P, mu, nv, O, S, hn, hj, turn, done⟩ := h₁
  refine wpAny_mono (over_run (R := fun acc C s' => ∃ m, s'.heap.Ns C m ∧ ∀ h', Heap.SameBut C s'.heap h' → Q acc { s' with heap := h' }) M.hh O S hn hcell hkind hx hj turn ?_) (fun it s₂ h₂ => wpAny_mono h₂ (fun acc s₃ h₃ => wpAny_mono h₃ (fun cenv s₄ h₄ => codeAny_mono h₄ fun r s' hr => ?_) fun _ _ e => e) fun _ _ e => e) fun _ _ e => e
  · intro acc mu nv C oC D k h tk hJ hl hC S'
    obtain ⟨m', hm'⟩ := hC
    exact ⟨m', hm', fun h' hs' => done acc mu nv D k h' tk hJ hl (S'.gone hs')⟩
  · cases r with
    | ok f => exact hr
    | error e => exact hr.elim

/-- a comprehension bound to a name on its own line -/
theorem x_asgComp {x y : Str} {ix : Nat} {px py : Pos} {elt iter : Expr} {ifs : List Expr} {scope : Scope} {pos spos : Pos} {cl : List (Str × Addr)} {rest : List Stmt} {Q : Flow → Shared → Prop} (J : Nat → List Value → Led → Led → Prop) (M : Am K d A fe h₀) {mu₀ nv₀ : Led} (_S : Sta h₀ env.locals s.heap (mV vr vs) mu₀ nv₀)
    (ny : IsLoc env vr y ix) (G : EnvG env) (hl : Nat.blt ix vs.length = true)
    (hsw : swapsWith (.ListComp elt [⟨.Name x px, iter, ifs, 0⟩] scope pos) (some (.Name y py)) spos.line env = pure true)
    (hclos : closureFor scope env = pure cl) (hcell : ∀ y ∈ scope.names, y.2 ≠ .cell) (hkind : scope.kind = .function) (hnames : ∀ y ∈ scope.names, y.2 = .local → scope.names.lookup y.1 = some .local) (hx : scope.names.lookup x = some .local)
    (h : wp prog w A (eval iter env) (CompAs prog w A h₀ env.locals (mV vr vs) env scope cl x elt ifs vr vs ix rest Q J) s)
    (hs : ∀ x, foldedSetIterable iter env x = pure x := by intro _; rfl) :
    wp prog w A (execs (.Assign [.Name y py] (.ListComp elt [⟨.Name x px, iter, ifs, 0⟩] scope pos) spos :: rest) env) Q s := by
  refine x_cons ?_
  show wp prog w A (exec _ env) _ s
  rw [exec_Assign_Name_used _ _ _ _ hsw]
  refine wpAny_bind (wpAny_standAt (wpAny_bind ?_))
  show wpAny _ A (do let _ ← comprehension (.ListComp elt [⟨.Name x px, iter, ifs, 0⟩] scope pos) scope env _ (newList []) false (eval iter env) (some (assign (.Name y py) env))) _ _ s
  refine wpAny_bind (wpAny_mono (wpAny_comprehension_free (use := some (assign (.Name y py) env)) (Q := fun _ s' => thenK prog w A rest env Q .next s') rfl hs hclos hkind hnames
    (wpAny_mono h (fun xv s₁ h₁ => ?_) fun _ _ e => e)) (fun _ s' hq => wpAny_pure (wpAny_pure hq)) fun _ _ e => e)
  obtain ⟨n, P, mu, nv, O, S, hn, hj, turn, done⟩ := h₁
  refine wpAny_mono (over_run (R := fun acc C s' => wp prog w A (assign (.Name y py) env acc) (fun _ s'' => ∃ m, s''.heap.Ns C m ∧ ∀ h', Heap.SameBut C s''.heap h' → thenK prog w A rest env Q .next { s'' with heap := h' }) s') M.hh O S hn hcell hkind hx hj turn ?_) (fun it s₂ h₂ => wpAny_mono h₂ (fun acc s₃ h₃ => wpAny_mono h₃ (fun cenv s₄ h₄ => codeAny_mono h₄ fun r s' hr => ?_) fun _ _ e => e) fun _ _ e => e) fun _ _ e => e
  · intro acc mu nv C oC D k h tk hJ hl' hC S'
    obtain ⟨m', hm'⟩ := hC
    have hCL : C ≠ env.locals := (S'.N (C, oC) (by simp)).2.1
    refine wpAny_assign_Name (wpAny_storeName_local ny.kind S'.F.ns (fun h₂ hn₂ hs₂ => ?_) (by rw [G.k]; rfl))
    rw [mV_set _ ny.ix ny.lt hl] at hn₂
    have S₂ := S'.newNs hn₂ hs₂
    exact ⟨m', hm'.sameBut hs₂ hCL, fun h' hs' => x_next (done acc mu nv D k h' _ hJ hl' (S₂.gone hs'))⟩
  · cases r with
    | ok f => exact hr
    | error e => exact hr.elim
end
end Mine
end
/-! NF -/
section
namespace Mine

/-! a Vector's dict -/
structure VD (o : Obj) (kv iv av : Value) : Prop where
  ex : ∃ es n, o = dictOf es n ∧ getL "kind" es = some (some kv) ∧ getL "items" es = some (some iv) ∧ getL "attrs" es = some (some av) ∧ (∃ v, getL "shared" es = some (some v)) ∧ (∃ v, getL "loose" es = some (some v)) ∧ es.length ≤ 10

theorem getL_fun {x : Str} {es : List DictEntry} {v v' : Value} (h : getL x es = some (some v)) (h' : getL x es = some (some v')) : v = v' := by rw [h] at h'; cases h'; rfl
theorem VD.fun {o : Obj} {kv iv av kv' iv' av' : Value} (h : VD o kv iv av) (h' : VD o kv' iv' av') : kv = kv' ∧ iv = iv' ∧ av = av' := by
  obtain ⟨es, n, rfl, a, b, c, _⟩ := h.ex
  obtain ⟨es', n', e, a', b', c', _⟩ := h'.ex
  cases e
  exact ⟨getL_fun a a', getL_fun b b', getL_fun c c'⟩

theorem getL_putL_self {x : Str} {hs : Int} {key v u : Value} : ∀ {es : List DictEntry}, getL x es = some (some u) → getL x (putL x hs key v es) = some (some v)
  | [], h => by cases h
  | e :: r, h => by
    unfold putL
    by_cases q : e.key.isStr x = true
    · rw [if_pos q]
      unfold getL
      simp [q]
    · rw [if_neg q]
      have h' : getL x r = some (some u) := by
        unfold getL at h ⊢
        simp only [List.find?_cons, q, Bool.false_eq_true] at h
        split at h
        · rename_i e' he; rw [he]; exact h
        · split at h <;> cases h
      have ih := getL_putL_self (hs := hs) (key := key) (v := v) h'
      unfold getL at ih ⊢
      simp only [List.find?_cons, q]
      split at ih
      · rename_i e' he; rw [he]; exact ih
      · split at ih <;> cases ih
theorem isStr_of {v : Value} {x y : Str} (h : v.isStr x = true) (hne : x ≠ y) : v.isStr y = false := by
  cases v with
  | str s t =>
    have : s = x := by simpa [Value.isStr] using h
    subst this
    simpa [Value.isStr] using hne
  | _ => rfl
theorem getL_putL_ne {x y : Str} (hne : x ≠ y) {hs : Int} {key v u u' : Value} : ∀ {es : List DictEntry}, getL x es = some (some u) → getL y es = some (some u') → getL y (putL x hs key v es) = some (some u')
  | [], h, _ => by cases h
  | e :: r, h, h' => by
    unfold putL
    by_cases q : e.key.isStr x = true
    · rw [if_pos q]
      have hq : e.key.isStr y = false := isStr_of q hne
      unfold getL at h' ⊢
      simp only [List.find?_cons, hq] at h' ⊢
      split at h'
      · first | exact h' | (rename_i e' he; rw [he]; exact h')
      · split at h' <;> cases h'
    · rw [if_neg q]
      have hx : getL x r = some (some u) := by
        unfold getL at h ⊢
        simp only [List.find?_cons, q, Bool.false_eq_true] at h
        split at h
        · rename_i e' he; rw [he]; exact h
        · split at h <;> cases h
      by_cases q' : e.key.isStr y = true
      · unfold getL at h' ⊢
        simp only [List.find?_cons, q'] at h' ⊢
        exact h'
      · have hy : getL y r = some (some u') := by
          unfold getL at h' ⊢
          simp only [List.find?_cons, q', Bool.false_eq_true] at h'
          split at h'
          · rename_i e' he; rw [he]; exact h'
          · split at h' <;> cases h'
        have ih := getL_putL_ne hne (hs := hs) (key := key) (v := v) hx hy
        unfold getL at ih ⊢
        simp only [List.find?_cons, q']
        split at ih
        · rename_i e' he; rw [he]; exact ih
        · split at ih <;> cases ih
theorem putL_length {x : Str} {hs : Int} {key v u : Value} : ∀ {es : List DictEntry}, getL x es = some (some u) → (putL x hs key v es).length = es.length
  | [], h => by cases h
  | e :: r, h => by
    unfold putL
    by_cases q : e.key.isStr x = true
    · rw [if_pos q]; rfl
    · rw [if_neg q]
      have hx : getL x r = some (some u) := by
        unfold getL at h ⊢
        simp only [List.find?_cons, q, Bool.false_eq_true] at h
        split at h
        · rename_i e' he; rw [he]; exact h
        · split at h <;> cases h
      simp [putL_length hx]

/-- an own name is read off the object's own dict -/
structure OwnAttr (K : Frag) (C : Addr) (name : Str) : Prop where
  g : plainGet K C name = true
  d : hasDictIn K C = true
  a : ∃ attr, findIn K (.ref C) name = some attr ∧ noGet K attr = true
structure OwnSet (K : Frag) (C : Addr) (name : Str) : Prop where
  s : findIn K (.ref C) "__setattr__" = some (some (.builtin "object.__setattr__"))
  p : plainOver K C = true
  t : takerIn K C name = some none
  d : hasDictIn K C = true

section
variable {prog : Program} {w : World} {K : Frag} {d : Nat} {A : Around} {env fe : Env} {s : Shared} {h₀ h : Heap} {L : Addr} {m : Str → Option Value} {mu nv mu' nv' : Led} {vr : List Str} {vs : List (Option Value)}

theorem at_get {x dx C : Addr} {es : List DictEntry} {n : Nat} {name : Str} {v : Value} {b : Bool} {Q : Value → Shared → Prop} (M : Am K d A fe h₀) (S : Sta h₀ L s.heap m mu nv) (h1 : (x, instObj C dx) ∈ mu ++ nv) (h2 : (dx, dictOf es n) ∈ mu ++ nv) (a : OwnAttr K C name)
    (hl : getL name es = some (some v)) (hv : handedIn v = true) (q : Q v { s with toks := s.toks + 1 }) : wp prog w A (getAttr (.ref x) name b) Q s := by
  obtain ⟨attr, ha, hn⟩ := a.a
  exact get_own S.F M.X (InstAt.of_news S.N h1 h2) a.g a.d ha hn hl hv q

theorem at_set {x dx C : Addr} {es es' : List DictEntry} {n n' : Nat} {name : Str} {v : Value} {Q : Unit → Shared → Prop} (M : Am K d A fe h₀) (S : Sta h₀ L s.heap m ((dx, dictOf es n) :: mu) nv) (h1 : (x, instObj C dx) ∈ mu ++ nv) (a : OwnSet K C name)
    (hl : (getL name es).isSome = true) (e : (putL name (PyData.keyHash w.params name) (.str name (s.toks + 1)) v es, putN name es n) = (es', n')) (hz : es'.length ≤ 1000)
    (q : ∀ h', Sta h₀ L h' m ((dx, dictOf es' n') :: mu) nv → Q () { s with heap := h', toks := s.toks + 2 }) : wp prog w A (setAttr (.ref x) name v) Q s :=
  set_dict S.F M.X S.N (InstAt.of_news S.N (.tail _ h1) (.head _)) rfl a.s a.p a.t a.d hl e (Upd.head (S.ne)) hz fun h' F' N' => q h' ⟨F', N', S.D⟩

theorem vd_kind {x dx C : Addr} {o : Obj} {kv iv av : Value} {b : Bool} {Q : Value → Shared → Prop} (M : Am K d A fe h₀) (S : Sta h₀ L s.heap m mu nv) (h1 : (x, instObj C dx) ∈ mu ++ nv) (h2 : (dx, o) ∈ mu ++ nv) (V : VD o kv iv av) (a : OwnAttr K C "kind") (hv : handedIn kv = true) (q : Q kv { s with toks := s.toks + 1 }) :
    wp prog w A (getAttr (.ref x) "kind" b) Q s := by
  obtain ⟨es, n, rfl, e1, e2, e3, _⟩ := V.ex
  exact at_get M S h1 h2 a e1 hv q
theorem vd_items {x dx C : Addr} {o : Obj} {kv iv av : Value} {b : Bool} {Q : Value → Shared → Prop} (M : Am K d A fe h₀) (S : Sta h₀ L s.heap m mu nv) (h1 : (x, instObj C dx) ∈ mu ++ nv) (h2 : (dx, o) ∈ mu ++ nv) (V : VD o kv iv av) (a : OwnAttr K C "items") (hv : handedIn iv = true) (q : Q iv { s with toks := s.toks + 1 }) :
    wp prog w A (getAttr (.ref x) "items" b) Q s := by
  obtain ⟨es, n, rfl, e1, e2, e3, _⟩ := V.ex
  exact at_get M S h1 h2 a e2 hv q
theorem vd_attrs {x dx C : Addr} {o : Obj} {kv iv av : Value} {b : Bool} {Q : Value → Shared → Prop} (M : Am K d A fe h₀) (S : Sta h₀ L s.heap m mu nv) (h1 : (x, instObj C dx) ∈ mu ++ nv) (h2 : (dx, o) ∈ mu ++ nv) (V : VD o kv iv av) (a : OwnAttr K C "attrs") (hv : handedIn av = true) (q : Q av { s with toks := s.toks + 1 }) :
    wp prog w A (getAttr (.ref x) "attrs" b) Q s := by
  obtain ⟨es, n, rfl, e1, e2, e3, _⟩ := V.ex
  exact at_get M S h1 h2 a e3 hv q
theorem vd_setAttrs {x dx C : Addr} {o : Obj} {kv iv av v : Value} {Q : Unit → Shared → Prop} (M : Am K d A fe h₀) (S : Sta h₀ L s.heap m ((dx, o) :: mu) nv) (h1 : (x, instObj C dx) ∈ mu ++ nv) (V : VD o kv iv av) (a : OwnSet K C "attrs")
    (q : ∀ h' o', VD o' kv iv v → Sta h₀ L h' m ((dx, o') :: mu) nv → Q () { s with heap := h', toks := s.toks + 2 }) : wp prog w A (setAttr (.ref x) "attrs" v) Q s := by
  obtain ⟨es, n, rfl, e1, e2, e3, ⟨u4, e4⟩, ⟨u5, e5⟩, e6⟩ := V.ex
  refine at_set M S h1 a (by rw [e3]; rfl) rfl (by rw [putL_length e3]; omega) fun h' S' => q h' _ ⟨_, _, rfl, getL_putL_ne (by decide) e3 e1, getL_putL_ne (by decide) e3 e2, getL_putL_self e3, ⟨_, getL_putL_ne (by decide) e3 e4⟩, ⟨_, getL_putL_ne (by decide) e3 e5⟩, by rw [putL_length e3]; exact e6⟩ S'
theorem vd_setShared {x dx C : Addr} {o : Obj} {kv iv av v : Value} {Q : Unit → Shared → Prop} (M : Am K d A fe h₀) (S : Sta h₀ L s.heap m ((dx, o) :: mu) nv) (h1 : (x, instObj C dx) ∈ mu ++ nv) (V : VD o kv iv av) (a : OwnSet K C "shared")
    (q : ∀ h' o', VD o' kv iv av → Sta h₀ L h' m ((dx, o') :: mu) nv → Q () { s with heap := h', toks := s.toks + 2 }) : wp prog w A (setAttr (.ref x) "shared" v) Q s := by
  obtain ⟨es, n, rfl, e1, e2, e3, ⟨u4, e4⟩, ⟨u5, e5⟩, e6⟩ := V.ex
  refine at_set M S h1 a (by rw [e4]; rfl) rfl (by rw [putL_length e4]; omega) fun h' S' => q h' _ ⟨_, _, rfl, getL_putL_ne (by decide) e4 e1, getL_putL_ne (by decide) e4 e2, getL_putL_ne (by decide) e4 e3, ⟨_, getL_putL_self e4⟩, ⟨_, getL_putL_ne (by decide) e4 e5⟩, by rw [putL_length e4]; exact e6⟩ S'

/-! a class is called -/
theorem Am.underNew {C : Addr} {pos : List Value} {kw : List (Str × Value)} (M : Am K (d + 1) A fe h₀) : Am K d (A.under (.builtin "type.__call__" ⟨.ref C :: pos, kw⟩)) fe h₀ where
  below := by
    obtain ⟨A₀, base, outer, B, hA⟩ := M.below
    exact ⟨A₀, base, outer, B, hA⟩
  X := M.X
  top := M.top
  ff := M.ff
  fk := M.fk
  depth := by have h1 := M.depth; rw [depth_under_kw]; omega
  units := by
    have h1 := M.units
    show A.units + (Code.builtin "type.__call__" ⟨.ref C :: pos, kw⟩).cUnits + 100 + 16 * d < cLine
    have : (Code.builtin "type.__call__" ⟨.ref C :: pos, kw⟩).cUnits ≤ 16 := by
      exact Nat.le_of_ble_eq_true rfl
    omega
  hh := M.hh

theorem new_inst {C fI : Addr} {pos : List Value} {Q : Value → Shared → Prop} (M : Am K (d + 1) A fe h₀) (S : Sta h₀ fe.locals s.heap m mu nv) (hm : makesIn K C = true) (hi : findIn K (.ref C) "__init__" = some (some (.ref fI))) (hf : isFn K (.ref fI) = true)
    (q : ∀ x dx h', Sta h₀ fe.locals h' m ((x, instObj C dx) :: (dx, dictOf [] 0) :: mu) nv →
      codeAny (model prog w) (A.under (.builtin "type.__call__" ⟨.ref C :: pos, []⟩)) (.call (.ref fI) ⟨.ref x :: pos, []⟩) (InitBack x fun r s' => match r with | .ok (.ret v) => Q v s' | .ok _ => False | .error _ => False) { s with heap := h' }) :
    wp prog w A (call (.ref C) pos) Q s := by
  refine call_cls S.F M.X S.N hm hi hf fun x dx h' F' N' l1 l2 => q x dx h' ⟨F', N', ?_⟩
  simp only [List.cons_append, List.map_cons, List.nodup_cons, List.mem_cons, not_or]
  refine ⟨⟨Nat.ne_of_gt l2, fun hq => ?_⟩, fun hq => ?_, S.D⟩
  · obtain ⟨p, hp, e⟩ := List.mem_map.mp hq
    exact absurd (Nat.lt_trans (l1 p hp) l2) (by rw [e]; exact Nat.lt_irrefl _)
  · obtain ⟨p, hp, e⟩ := List.mem_map.mp hq
    exact absurd (l1 p hp) (by rw [e]; exact Nat.lt_irrefl _)
end
end Mine
end
/-! NK -/
section
namespace Mine
structure CallG (K : Frag) (x : Str) (f : Addr) : Prop where
  g : nsIn K mainGlobals x = some (some (.ref f))
  k : keepIn K (.ref f) = true
structure BiG (K : Frag) (x : Str) (v : Value) : Prop where
  e : nsIn K mainGlobals x = some none
  v : bootBuiltins x = some v
  n : x ≠ "__name__"
theorem c_Null (w : World) : CallG (KK w) "Null" 285 := ⟨by (show nsIn (Mine.hp.heap_1 w.params) _ _ = _; k_is), by (show keepIn (Mine.hp.heap_1 w.params) _ = _; k_is)⟩
theorem c_Vector (w : World) : CallG (KK w) "Vector" 314 := ⟨by (show nsIn (Mine.hp.heap_1 w.params) _ _ = _; k_is), by (show keepIn (Mine.hp.heap_1 w.params) _ = _; k_is)⟩
theorem c_law_as (w : World) : CallG (KK w) "_law_as" 561 := ⟨by (show nsIn (Mine.hp.heap_1 w.params) _ _ = _; k_is), by (show keepIn (Mine.hp.heap_1 w.params) _ = _; k_is)⟩
theorem c_law_item (w : World) : CallG (KK w) "_law_item" 554 := ⟨by (show nsIn (Mine.hp.heap_1 w.params) _ _ = _; k_is), by (show keepIn (Mine.hp.heap_1 w.params) _ = _; k_is)⟩
theorem c_law_joined (w : World) : CallG (KK w) "_law_joined" 587 := ⟨by (show nsIn (Mine.hp.heap_1 w.params) _ _ = _; k_is), by (show keepIn (Mine.hp.heap_1 w.params) _ = _; k_is)⟩
theorem c_law_kinds (w : World) : CallG (KK w) "_law_kinds" 547 := ⟨by (show nsIn (Mine.hp.heap_1 w.params) _ _ = _; k_is), by (show keepIn (Mine.hp.heap_1 w.params) _ = _; k_is)⟩
theorem c_law_names (w : World) : CallG (KK w) "_law_names" 580 := ⟨by (show nsIn (Mine.hp.heap_1 w.params) _ _ = _; k_is), by (show keepIn (Mine.hp.heap_1 w.params) _ = _; k_is)⟩
theorem c_law_next (w : World) : CallG (KK w) "_law_next" 540 := ⟨by (show nsIn (Mine.hp.heap_1 w.params) _ _ = _; k_is), by (show keepIn (Mine.hp.heap_1 w.params) _ = _; k_is)⟩
theorem c_law_row (w : World) : CallG (KK w) "_law_row" 533 := ⟨by (show nsIn (Mine.hp.heap_1 w.params) _ _ = _; k_is), by (show keepIn (Mine.hp.heap_1 w.params) _ = _; k_is)⟩
theorem c_law_shown (w : World) : CallG (KK w) "_law_shown" 568 := ⟨by (show nsIn (Mine.hp.heap_1 w.params) _ _ = _; k_is), by (show keepIn (Mine.hp.heap_1 w.params) _ = _; k_is)⟩
theorem c_law_told (w : World) : CallG (KK w) "_law_told" 592 := ⟨by (show nsIn (Mine.hp.heap_1 w.params) _ _ = _; k_is), by (show keepIn (Mine.hp.heap_1 w.params) _ = _; k_is)⟩
theorem c_law_value (w : World) : CallG (KK w) "_law_value" 573 := ⟨by (show nsIn (Mine.hp.heap_1 w.params) _ _ = _; k_is), by (show keepIn (Mine.hp.heap_1 w.params) _ = _; k_is)⟩
theorem c_as_columns (w : World) : CallG (KK w) "as_columns" 512 := ⟨by (show nsIn (Mine.hp.heap_1 w.params) _ _ = _; k_is), by (show keepIn (Mine.hp.heap_1 w.params) _ = _; k_is)⟩
theorem c_as_kind (w : World) : CallG (KK w) "as_kind" 495 := ⟨by (show nsIn (Mine.hp.heap_1 w.params) _ _ = _; k_is), by (show keepIn (Mine.hp.heap_1 w.params) _ = _; k_is)⟩
theorem c_character (w : World) : CallG (KK w) "character" 339 := ⟨by (show nsIn (Mine.hp.heap_1 w.params) _ _ = _; k_is), by (show keepIn (Mine.hp.heap_1 w.params) _ = _; k_is)⟩
theorem c_chosen_form (w : World) : CallG (KK w) "chosen_form" 206 := ⟨by (show nsIn (Mine.hp.heap_1 w.params) _ _ = _; k_is), by (show keepIn (Mine.hp.heap_1 w.params) _ = _; k_is)⟩
theorem c_combine_ones (w : World) : CallG (KK w) "combine_ones" 507 := ⟨by (show nsIn (Mine.hp.heap_1 w.params) _ _ = _; k_is), by (show keepIn (Mine.hp.heap_1 w.params) _ = _; k_is)⟩
theorem c_common_kind (w : World) : CallG (KK w) "common_kind" 394 := ⟨by (show nsIn (Mine.hp.heap_1 w.params) _ _ = _; k_is), by (show keepIn (Mine.hp.heap_1 w.params) _ = _; k_is)⟩
theorem c_common_length (w : World) : CallG (KK w) "common_length" 519 := ⟨by (show nsIn (Mine.hp.heap_1 w.params) _ _ = _; k_is), by (show keepIn (Mine.hp.heap_1 w.params) _ = _; k_is)⟩
theorem c_common_texts (w : World) : CallG (KK w) "common_texts" 218 := ⟨by (show nsIn (Mine.hp.heap_1 w.params) _ _ = _; k_is), by (show keepIn (Mine.hp.heap_1 w.params) _ = _; k_is)⟩
theorem c_dim_of (w : World) : CallG (KK w) "dim_of" 40 := ⟨by (show nsIn (Mine.hp.heap_1 w.params) _ _ = _; k_is), by (show keepIn (Mine.hp.heap_1 w.params) _ = _; k_is)⟩
theorem c_exponent (w : World) : CallG (KK w) "exponent" 143 := ⟨by (show nsIn (Mine.hp.heap_1 w.params) _ _ = _; k_is), by (show keepIn (Mine.hp.heap_1 w.params) _ = _; k_is)⟩
theorem c_fixed_text (w : World) : CallG (KK w) "fixed_text" 192 := ⟨by (show nsIn (Mine.hp.heap_1 w.params) _ _ = _; k_is), by (show keepIn (Mine.hp.heap_1 w.params) _ = _; k_is)⟩
theorem c_formed (w : World) : CallG (KK w) "formed" 213 := ⟨by (show nsIn (Mine.hp.heap_1 w.params) _ _ = _; k_is), by (show keepIn (Mine.hp.heap_1 w.params) _ = _; k_is)⟩
theorem c_from_int (w : World) : CallG (KK w) "from_int" 101 := ⟨by (show nsIn (Mine.hp.heap_1 w.params) _ _ = _; k_is), by (show keepIn (Mine.hp.heap_1 w.params) _ = _; k_is)⟩
theorem c_get_attr (w : World) : CallG (KK w) "get_attr" 28 := ⟨by (show nsIn (Mine.hp.heap_1 w.params) _ _ = _; k_is), by (show keepIn (Mine.hp.heap_1 w.params) _ = _; k_is)⟩
theorem c_integer (w : World) : CallG (KK w) "integer" 332 := ⟨by (show nsIn (Mine.hp.heap_1 w.params) _ _ = _; k_is), by (show keepIn (Mine.hp.heap_1 w.params) _ = _; k_is)⟩
theorem c_is_atomic_kind (w : World) : CallG (KK w) "is_atomic_kind" 464 := ⟨by (show nsIn (Mine.hp.heap_1 w.params) _ _ = _; k_is), by (show keepIn (Mine.hp.heap_1 w.params) _ = _; k_is)⟩
theorem c_is_vector (w : World) : CallG (KK w) "is_vector" 366 := ⟨by (show nsIn (Mine.hp.heap_1 w.params) _ _ = _; k_is), by (show keepIn (Mine.hp.heap_1 w.params) _ = _; k_is)⟩
theorem c_item_as (w : World) : CallG (KK w) "item_as" 457 := ⟨by (show nsIn (Mine.hp.heap_1 w.params) _ _ = _; k_is), by (show keepIn (Mine.hp.heap_1 w.params) _ = _; k_is)⟩
theorem c_joined_name (w : World) : CallG (KK w) "joined_name" 502 := ⟨by (show nsIn (Mine.hp.heap_1 w.params) _ _ = _; k_is), by (show keepIn (Mine.hp.heap_1 w.params) _ = _; k_is)⟩
theorem c_kind_order (w : World) : CallG (KK w) "kind_order" 387 := ⟨by (show nsIn (Mine.hp.heap_1 w.params) _ _ = _; k_is), by (show keepIn (Mine.hp.heap_1 w.params) _ = _; k_is)⟩
theorem c_length (w : World) : CallG (KK w) "length" 359 := ⟨by (show nsIn (Mine.hp.heap_1 w.params) _ _ = _; k_is), by (show keepIn (Mine.hp.heap_1 w.params) _ = _; k_is)⟩
theorem c_list_of (w : World) : CallG (KK w) "list_of" 352 := ⟨by (show nsIn (Mine.hp.heap_1 w.params) _ _ = _; k_is), by (show keepIn (Mine.hp.heap_1 w.params) _ = _; k_is)⟩
theorem c_measures (w : World) : CallG (KK w) "measures" 199 := ⟨by (show nsIn (Mine.hp.heap_1 w.params) _ _ = _; k_is), by (show keepIn (Mine.hp.heap_1 w.params) _ = _; k_is)⟩
theorem c_named (w : World) : CallG (KK w) "named" 346 := ⟨by (show nsIn (Mine.hp.heap_1 w.params) _ _ = _; k_is), by (show keepIn (Mine.hp.heap_1 w.params) _ = _; k_is)⟩
theorem c_names_of (w : World) : CallG (KK w) "names_of" 33 := ⟨by (show nsIn (Mine.hp.heap_1 w.params) _ _ = _; k_is), by (show keepIn (Mine.hp.heap_1 w.params) _ = _; k_is)⟩
theorem c_nearest_whole (w : World) : CallG (KK w) "nearest_whole" 136 := ⟨by (show nsIn (Mine.hp.heap_1 w.params) _ _ = _; k_is), by (show keepIn (Mine.hp.heap_1 w.params) _ = _; k_is)⟩
theorem c_null (w : World) : CallG (KK w) "null" 325 := ⟨by (show nsIn (Mine.hp.heap_1 w.params) _ _ = _; k_is), by (show keepIn (Mine.hp.heap_1 w.params) _ = _; k_is)⟩
theorem c_number_text (w : World) : CallG (KK w) "number_text" 226 := ⟨by (show nsIn (Mine.hp.heap_1 w.params) _ _ = _; k_is), by (show keepIn (Mine.hp.heap_1 w.params) _ = _; k_is)⟩
theorem c_scaled (w : World) : CallG (KK w) "scaled" 164 := ⟨by (show nsIn (Mine.hp.heap_1 w.params) _ _ = _; k_is), by (show keepIn (Mine.hp.heap_1 w.params) _ = _; k_is)⟩
theorem c_share (w : World) : CallG (KK w) "share" 380 := ⟨by (show nsIn (Mine.hp.heap_1 w.params) _ _ = _; k_is), by (show keepIn (Mine.hp.heap_1 w.params) _ = _; k_is)⟩
theorem c_significant (w : World) : CallG (KK w) "significant" 171 := ⟨by (show nsIn (Mine.hp.heap_1 w.params) _ _ = _; k_is), by (show keepIn (Mine.hp.heap_1 w.params) _ = _; k_is)⟩
theorem c_simplified (w : World) : CallG (KK w) "simplified" 526 := ⟨by (show nsIn (Mine.hp.heap_1 w.params) _ _ = _; k_is), by (show keepIn (Mine.hp.heap_1 w.params) _ = _; k_is)⟩
theorem c_special_text (w : World) : CallG (KK w) "special_text" 157 := ⟨by (show nsIn (Mine.hp.heap_1 w.params) _ _ = _; k_is), by (show keepIn (Mine.hp.heap_1 w.params) _ = _; k_is)⟩
theorem c_to_double (w : World) : CallG (KK w) "to_double" 443 := ⟨by (show nsIn (Mine.hp.heap_1 w.params) _ _ = _; k_is), by (show keepIn (Mine.hp.heap_1 w.params) _ = _; k_is)⟩
theorem c_to_integer (w : World) : CallG (KK w) "to_integer" 436 := ⟨by (show nsIn (Mine.hp.heap_1 w.params) _ _ = _; k_is), by (show keepIn (Mine.hp.heap_1 w.params) _ = _; k_is)⟩
theorem c_to_text (w : World) : CallG (KK w) "to_text" 450 := ⟨by (show nsIn (Mine.hp.heap_1 w.params) _ _ = _; k_is), by (show keepIn (Mine.hp.heap_1 w.params) _ = _; k_is)⟩
theorem c_whole_text (w : World) : CallG (KK w) "whole_text" 150 := ⟨by (show nsIn (Mine.hp.heap_1 w.params) _ _ = _; k_is), by (show keepIn (Mine.hp.heap_1 w.params) _ = _; k_is)⟩
theorem c_with_names (w : World) : CallG (KK w) "with_names" 490 := ⟨by (show nsIn (Mine.hp.heap_1 w.params) _ _ = _; k_is), by (show keepIn (Mine.hp.heap_1 w.params) _ = _; k_is)⟩
theorem c_without_tail (w : World) : CallG (KK w) "without_tail" 178 := ⟨by (show nsIn (Mine.hp.heap_1 w.params) _ _ = _; k_is), by (show keepIn (Mine.hp.heap_1 w.params) _ = _; k_is)⟩
theorem b_abs (w : World) : BiG (KK w) "abs" (.builtin "abs") := ⟨by (show nsIn (Mine.hp.heap_1 w.params) _ _ = _; k_is), by kernel_rfl, by decide⟩
theorem b_isinstance (w : World) : BiG (KK w) "isinstance" (.builtin "isinstance") := ⟨by (show nsIn (Mine.hp.heap_1 w.params) _ _ = _; k_is), by kernel_rfl, by decide⟩
theorem b_len (w : World) : BiG (KK w) "len" (.builtin "len") := ⟨by (show nsIn (Mine.hp.heap_1 w.params) _ _ = _; k_is), by kernel_rfl, by decide⟩
theorem b_list (w : World) : BiG (KK w) "list" (.type "list") := ⟨by (show nsIn (Mine.hp.heap_1 w.params) _ _ = _; k_is), by kernel_rfl, by decide⟩
theorem b_max (w : World) : BiG (KK w) "max" (.builtin "max") := ⟨by (show nsIn (Mine.hp.heap_1 w.params) _ _ = _; k_is), by kernel_rfl, by decide⟩
theorem b_range (w : World) : BiG (KK w) "range" (.type "range") := ⟨by (show nsIn (Mine.hp.heap_1 w.params) _ _ = _; k_is), by kernel_rfl, by decide⟩
theorem b_str (w : World) : BiG (KK w) "str" (.type "str") := ⟨by (show nsIn (Mine.hp.heap_1 w.params) _ _ = _; k_is), by kernel_rfl, by decide⟩
theorem b_tuple (w : World) : BiG (KK w) "tuple" (.type "tuple") := ⟨by (show nsIn (Mine.hp.heap_1 w.params) _ _ = _; k_is), by kernel_rfl, by decide⟩
theorem oa_kind (w : World) : OwnAttr (KK w) 314 "kind" := by (exact ⟨by (show plainGet (Mine.hp.heap_1 _) _ _ = _; k_is), by (show hasDictIn (Mine.hp.heap_1 _) _ = _; k_is), ⟨none, by (show findIn (Mine.hp.heap_1 _) _ _ = _; k_is), by (show noGet (Mine.hp.heap_1 _) _ = _; k_is)⟩⟩)
theorem oa_items (w : World) : OwnAttr (KK w) 314 "items" := by (exact ⟨by (show plainGet (Mine.hp.heap_1 _) _ _ = _; k_is), by (show hasDictIn (Mine.hp.heap_1 _) _ = _; k_is), ⟨none, by (show findIn (Mine.hp.heap_1 _) _ _ = _; k_is), by (show noGet (Mine.hp.heap_1 _) _ = _; k_is)⟩⟩)
theorem oa_attrs (w : World) : OwnAttr (KK w) 314 "attrs" := by (exact ⟨by (show plainGet (Mine.hp.heap_1 _) _ _ = _; k_is), by (show hasDictIn (Mine.hp.heap_1 _) _ = _; k_is), ⟨none, by (show findIn (Mine.hp.heap_1 _) _ _ = _; k_is), by (show noGet (Mine.hp.heap_1 _) _ = _; k_is)⟩⟩)
theorem on_kind (w : World) : OwnAttr (KK w) 285 "kind" := by (exact ⟨by (show plainGet (Mine.hp.heap_1 _) _ _ = _; k_is), by (show hasDictIn (Mine.hp.heap_1 _) _ = _; k_is), ⟨none, by (show findIn (Mine.hp.heap_1 _) _ _ = _; k_is), by (show noGet (Mine.hp.heap_1 _) _ = _; k_is)⟩⟩)
theorem on_attrs (w : World) : OwnAttr (KK w) 285 "attrs" := by (exact ⟨by (show plainGet (Mine.hp.heap_1 _) _ _ = _; k_is), by (show hasDictIn (Mine.hp.heap_1 _) _ = _; k_is), ⟨none, by (show findIn (Mine.hp.heap_1 _) _ _ = _; k_is), by (show noGet (Mine.hp.heap_1 _) _ = _; k_is)⟩⟩)
theorem os_kind (w : World) : OwnSet (KK w) 314 "kind" := by (exact ⟨by (show findIn (Mine.hp.heap_1 _) _ _ = _; k_is), by (show plainOver (Mine.hp.heap_1 _) _ = _; k_is), by (show takerIn (Mine.hp.heap_1 _) _ _ = _; k_is), by (show hasDictIn (Mine.hp.heap_1 _) _ = _; k_is)⟩)
theorem os_items (w : World) : OwnSet (KK w) 314 "items" := by (exact ⟨by (show findIn (Mine.hp.heap_1 _) _ _ = _; k_is), by (show plainOver (Mine.hp.heap_1 _) _ = _; k_is), by (show takerIn (Mine.hp.heap_1 _) _ _ = _; k_is), by (show hasDictIn (Mine.hp.heap_1 _) _ = _; k_is)⟩)
theorem os_attrs (w : World) : OwnSet (KK w) 314 "attrs" := by (exact ⟨by (show findIn (Mine.hp.heap_1 _) _ _ = _; k_is), by (show plainOver (Mine.hp.heap_1 _) _ = _; k_is), by (show takerIn (Mine.hp.heap_1 _) _ _ = _; k_is), by (show hasDictIn (Mine.hp.heap_1 _) _ = _; k_is)⟩)
theorem os_shared (w : World) : OwnSet (KK w) 314 "shared" := by (exact ⟨by (show findIn (Mine.hp.heap_1 _) _ _ = _; k_is), by (show plainOver (Mine.hp.heap_1 _) _ = _; k_is), by (show takerIn (Mine.hp.heap_1 _) _ _ = _; k_is), by (show hasDictIn (Mine.hp.heap_1 _) _ = _; k_is)⟩)
theorem os_loose (w : World) : OwnSet (KK w) 314 "loose" := by (exact ⟨by (show findIn (Mine.hp.heap_1 _) _ _ = _; k_is), by (show plainOver (Mine.hp.heap_1 _) _ = _; k_is), by (show takerIn (Mine.hp.heap_1 _) _ _ = _; k_is), by (show hasDictIn (Mine.hp.heap_1 _) _ = _; k_is)⟩)
theorem ns_kind (w : World) : OwnSet (KK w) 285 "kind" := by (exact ⟨by (show findIn (Mine.hp.heap_1 _) _ _ = _; k_is), by (show plainOver (Mine.hp.heap_1 _) _ = _; k_is), by (show takerIn (Mine.hp.heap_1 _) _ _ = _; k_is), by (show hasDictIn (Mine.hp.heap_1 _) _ = _; k_is)⟩)
theorem ns_attrs (w : World) : OwnSet (KK w) 285 "attrs" := by (exact ⟨by (show findIn (Mine.hp.heap_1 _) _ _ = _; k_is), by (show plainOver (Mine.hp.heap_1 _) _ = _; k_is), by (show takerIn (Mine.hp.heap_1 _) _ _ = _; k_is), by (show hasDictIn (Mine.hp.heap_1 _) _ = _; k_is)⟩)
theorem mk_V (w : World) : makesIn (KK w) 314 = true := by (show makesIn (Mine.hp.heap_1 _) _ = _; k_is)
theorem mk_N (w : World) : makesIn (KK w) 285 = true := by (show makesIn (Mine.hp.heap_1 _) _ = _; k_is)
theorem in_V (w : World) : findIn (KK w) (.ref 314) "__init__" = some (some (.ref 304)) := by (show findIn (Mine.hp.heap_1 _) _ _ = _; k_is)
theorem in_N (w : World) : findIn (KK w) (.ref 285) "__init__" = some (some (.ref 282)) := by (show findIn (Mine.hp.heap_1 _) _ _ = _; k_is)
theorem fn_V (w : World) : isFn (KK w) (.ref 304) = true := by (show isFn (Mine.hp.heap_1 _) _ = _; k_is)
theorem fn_N (w : World) : isFn (KK w) (.ref 282) = true := by (show isFn (Mine.hp.heap_1 _) _ = _; k_is)
theorem ii_V (w : World) : isIn (KK w) (.ref 314) 314 = true := by (show isIn (Mine.hp.heap_1 _) _ _ = _; k_is)
structure ClsAttr (K : Frag) (D : Addr) : Prop where
  g : plainGet K D "__class__" = true
  d : hasDictIn K D = true
  a : findIn K (.ref D) "__class__" = some (some (.builtin "object.__class__"))
  n : specialIn K (.builtin "object.__class__") "__get__" = some (some (.builtin "getset_descriptor.__get__"))
  t : takesIn K (.builtin "object.__class__") = some true
  m : mroIn K D (.type "object") = some true
theorem ca_V (w : World) : ClsAttr (KK w) 314 := ⟨by (first | (show plainGet (Mine.hp.heap_1 _) _ _ = _; k_is) | (show hasDictIn (Mine.hp.heap_1 _) _ = _; k_is) | (show findIn (Mine.hp.heap_1 _) _ _ = _; k_is) | (show specialIn (Mine.hp.heap_1 _) _ _ = _; k_is) | (show takesIn (Mine.hp.heap_1 _) _ = _; k_is) | (show mroIn (Mine.hp.heap_1 _) _ _ = _; k_is)), by (first | (show plainGet (Mine.hp.heap_1 _) _ _ = _; k_is) | (show hasDictIn (Mine.hp.heap_1 _) _ = _; k_is) | (show findIn (Mine.hp.heap_1 _) _ _ = _; k_is) | (show specialIn (Mine.hp.heap_1 _) _ _ = _; k_is) | (show takesIn (Mine.hp.heap_1 _) _ = _; k_is) | (show mroIn (Mine.hp.heap_1 _) _ _ = _; k_is)), by (first | (show plainGet (Mine.hp.heap_1 _) _ _ = _; k_is) | (show hasDictIn (Mine.hp.heap_1 _) _ = _; k_is) | (show findIn (Mine.hp.heap_1 _) _ _ = _; k_is) | (show specialIn (Mine.hp.heap_1 _) _ _ = _; k_is) | (show takesIn (Mine.hp.heap_1 _) _ = _; k_is) | (show mroIn (Mine.hp.heap_1 _) _ _ = _; k_is)), by (first | (show plainGet (Mine.hp.heap_1 _) _ _ = _; k_is) | (show hasDictIn (Mine.hp.heap_1 _) _ = _; k_is) | (show findIn (Mine.hp.heap_1 _) _ _ = _; k_is) | (show specialIn (Mine.hp.heap_1 _) _ _ = _; k_is) | (show takesIn (Mine.hp.heap_1 _) _ = _; k_is) | (show mroIn (Mine.hp.heap_1 _) _ _ = _; k_is)), by (first | (show plainGet (Mine.hp.heap_1 _) _ _ = _; k_is) | (show hasDictIn (Mine.hp.heap_1 _) _ = _; k_is) | (show findIn (Mine.hp.heap_1 _) _ _ = _; k_is) | (show specialIn (Mine.hp.heap_1 _) _ _ = _; k_is) | (show takesIn (Mine.hp.heap_1 _) _ = _; k_is) | (show mroIn (Mine.hp.heap_1 _) _ _ = _; k_is)), by (first | (show plainGet (Mine.hp.heap_1 _) _ _ = _; k_is) | (show hasDictIn (Mine.hp.heap_1 _) _ = _; k_is) | (show findIn (Mine.hp.heap_1 _) _ _ = _; k_is) | (show specialIn (Mine.hp.heap_1 _) _ _ = _; k_is) | (show takesIn (Mine.hp.heap_1 _) _ = _; k_is) | (show mroIn (Mine.hp.heap_1 _) _ _ = _; k_is))⟩
theorem ca_N (w : World) : ClsAttr (KK w) 285 := ⟨by (first | (show plainGet (Mine.hp.heap_1 _) _ _ = _; k_is) | (show hasDictIn (Mine.hp.heap_1 _) _ = _; k_is) | (show findIn (Mine.hp.heap_1 _) _ _ = _; k_is) | (show specialIn (Mine.hp.heap_1 _) _ _ = _; k_is) | (show takesIn (Mine.hp.heap_1 _) _ = _; k_is) | (show mroIn (Mine.hp.heap_1 _) _ _ = _; k_is)), by (first | (show plainGet (Mine.hp.heap_1 _) _ _ = _; k_is) | (show hasDictIn (Mine.hp.heap_1 _) _ = _; k_is) | (show findIn (Mine.hp.heap_1 _) _ _ = _; k_is) | (show specialIn (Mine.hp.heap_1 _) _ _ = _; k_is) | (show takesIn (Mine.hp.heap_1 _) _ = _; k_is) | (show mroIn (Mine.hp.heap_1 _) _ _ = _; k_is)), by (first | (show plainGet (Mine.hp.heap_1 _) _ _ = _; k_is) | (show hasDictIn (Mine.hp.heap_1 _) _ = _; k_is) | (show findIn (Mine.hp.heap_1 _) _ _ = _; k_is) | (show specialIn (Mine.hp.heap_1 _) _ _ = _; k_is) | (show takesIn (Mine.hp.heap_1 _) _ = _; k_is) | (show mroIn (Mine.hp.heap_1 _) _ _ = _; k_is)), by (first | (show plainGet (Mine.hp.heap_1 _) _ _ = _; k_is) | (show hasDictIn (Mine.hp.heap_1 _) _ = _; k_is) | (show findIn (Mine.hp.heap_1 _) _ _ = _; k_is) | (show specialIn (Mine.hp.heap_1 _) _ _ = _; k_is) | (show takesIn (Mine.hp.heap_1 _) _ = _; k_is) | (show mroIn (Mine.hp.heap_1 _) _ _ = _; k_is)), by (first | (show plainGet (Mine.hp.heap_1 _) _ _ = _; k_is) | (show hasDictIn (Mine.hp.heap_1 _) _ = _; k_is) | (show findIn (Mine.hp.heap_1 _) _ _ = _; k_is) | (show specialIn (Mine.hp.heap_1 _) _ _ = _; k_is) | (show takesIn (Mine.hp.heap_1 _) _ = _; k_is) | (show mroIn (Mine.hp.heap_1 _) _ _ = _; k_is)), by (first | (show plainGet (Mine.hp.heap_1 _) _ _ = _; k_is) | (show hasDictIn (Mine.hp.heap_1 _) _ = _; k_is) | (show findIn (Mine.hp.heap_1 _) _ _ = _; k_is) | (show specialIn (Mine.hp.heap_1 _) _ _ = _; k_is) | (show takesIn (Mine.hp.heap_1 _) _ = _; k_is) | (show mroIn (Mine.hp.heap_1 _) _ _ = _; k_is))⟩
theorem kn_NV (w : World) : kin_not (KK w) 285 314 = true := by kernel_rfl
theorem kn_Vt (w : World) : kin_notT (KK w) 314 "tuple" = true := by kernel_rfl
end Mine
end
/-! NH -/
section
namespace Mine

/-! growth of the ledger: a Vector's dict may be marked as shared, all else stays -/
noncomputable def OE (o o' : Obj) : Prop := o = o' ∨ ∃ kv iv av, VD o kv iv av ∧ VD o' kv iv av
noncomputable def Gr (nv nv' : Led) : Prop := ∀ a o, (a, o) ∈ nv → ∃ o', (a, o') ∈ nv' ∧ OE o o'
theorem OE.trans {a b c : Obj} (h : OE a b) (k : OE b c) : OE a c := by
  rcases h with rfl | ⟨kv, iv, av, h1, h2⟩
  · exact k
  · rcases k with rfl | ⟨kv', iv', av', k1, k2⟩
    · exact .inr ⟨kv, iv, av, h1, h2⟩
    · obtain ⟨rfl, rfl, rfl⟩ := h2.fun k1
      exact .inr ⟨_, _, _, h1, k2⟩
theorem Gr.refl (nv : Led) : Gr nv nv := fun a o h => ⟨o, h, .inl rfl⟩
theorem Gr.trans {a b c : Led} (h : Gr a b) (k : Gr b c) : Gr a c := fun x o hm => by
  obtain ⟨o', h1, e1⟩ := h x o hm
  obtain ⟨o'', h2, e2⟩ := k x o' h1
  exact ⟨o'', h2, e1.trans e2⟩
theorem Gr.sub {nv nv' : Led} (h : ∀ p ∈ nv, p ∈ nv') : Gr nv nv' := fun a o hm => ⟨o, h _ hm, .inl rfl⟩
theorem Gr.cons {nv nv' : Led} (p : Addr × Obj) (h : Gr nv nv') : Gr nv (p :: nv') := fun a o hm => by
  obtain ⟨o', h1, e⟩ := h a o hm
  exact ⟨o', .tail _ h1, e⟩
theorem Gr.list {nv nv' : Led} (g : Gr nv nv') {l : Addr} {xs : Array Value} {n : Nat} (h : (l, listOf xs n) ∈ nv) : (l, listOf xs n) ∈ nv' := by
  obtain ⟨o', h1, e⟩ := g _ _ h
  rcases e with rfl | ⟨_, _, _, h2, _⟩
  · exact h1
  · obtain ⟨es, k, e, _⟩ := h2.ex; exact absurd (congrArg Obj.data e) (by intro q; cases q)
abbrev tupOf (xs : Array Value) (n : Nat) : Obj := { cls := .type "tuple", data := .seq xs n }
theorem Gr.tup {nv nv' : Led} (g : Gr nv nv') {l : Addr} {xs : Array Value} {n : Nat} (h : (l, tupOf xs n) ∈ nv) : (l, tupOf xs n) ∈ nv' := by
  obtain ⟨o', h1, e⟩ := g _ _ h
  rcases e with rfl | ⟨_, _, _, h2, _⟩
  · exact h1
  · obtain ⟨es, k, e, _⟩ := h2.ex; exact absurd (congrArg Obj.data e) (by intro q; cases q)
theorem Gr.inst {nv nv' : Led} (g : Gr nv nv') {x C dx : Addr} (h : (x, instObj C dx) ∈ nv) : (x, instObj C dx) ∈ nv' := by
  obtain ⟨o', h1, e⟩ := g _ _ h
  rcases e with rfl | ⟨_, _, _, h2, _⟩
  · exact h1
  · obtain ⟨es, k, e, _⟩ := h2.ex; exact absurd (congrArg Obj.data e) (by intro q; cases q)
theorem Gr.vd {nv nv' : Led} (g : Gr nv nv') {dx : Addr} {o : Obj} {kv iv av : Value} (h : (dx, o) ∈ nv) (V : VD o kv iv av) : ∃ o', (dx, o') ∈ nv' ∧ VD o' kv iv av := by
  obtain ⟨o', h1, e⟩ := g _ _ h
  rcases e with rfl | ⟨_, _, _, h2, h3⟩
  · exact ⟨o, h1, V⟩
  · obtain ⟨rfl, rfl, rfl⟩ := V.fun h2
    exact ⟨o', h1, h3⟩
/-- a dict that is no Vector's -/
theorem Gr.dict {nv nv' : Led} (g : Gr nv nv') {a : Addr} {es : List DictEntry} {n : Nat} (h : (a, dictOf es n) ∈ nv) (hk : getL "items" es = some none) : (a, dictOf es n) ∈ nv' := by
  obtain ⟨o', h1, e⟩ := g _ _ h
  rcases e with rfl | ⟨_, _, _, h2, _⟩
  · exact h1
  · obtain ⟨es', k, e, _, e2, _⟩ := h2.ex
    cases e
    rw [hk] at e2; cases e2
/-- one Vector is marked -/
theorem nodup_fun {a : Addr} {o x : Obj} : ∀ {nv : Led}, (nv.map Prod.fst).Nodup → (a, o) ∈ nv → (a, x) ∈ nv → x = o
  | [], _, hm, _ => by cases hm
  | p :: r, h, hm, hx => by
    simp only [List.map_cons, List.nodup_cons] at h
    rcases List.mem_cons.mp hm with hm' | hm'
    · rcases List.mem_cons.mp hx with hx' | hx'
      · rw [← hm'] at hx'; exact (Prod.mk.inj hx').2
      · have : p.1 ∈ r.map Prod.fst := by rw [← hm']; exact List.mem_map.mpr ⟨_, hx', rfl⟩
        exact absurd this h.1
    · rcases List.mem_cons.mp hx with hx' | hx'
      · have : p.1 ∈ r.map Prod.fst := by rw [← hx']; exact List.mem_map.mpr ⟨_, hm', rfl⟩
        exact absurd this h.1
      · exact nodup_fun h.2 hm' hx'
/-- one Vector is marked -/
theorem Gr.mark {nv : Led} {dx : Addr} {o o' : Obj} {kv iv av : Value} (V : VD o kv iv av) (V' : VD o' kv iv av) (h : (nv.map Prod.fst).Nodup) (hm : (dx, o) ∈ nv) : Gr nv (nv.map fun p => if p.1 = dx then (dx, o') else p) := fun a x hx => by
  by_cases e : a = dx
  · subst e
    have : x = o := nodup_fun h hm hx
    subst this
    exact ⟨o', List.mem_map.mpr ⟨_, hx, by simp⟩, .inr ⟨_, _, _, V, V'⟩⟩
  · exact ⟨x, List.mem_map.mpr ⟨_, hx, by simp [e]⟩, .inl rfl⟩

mutual
theorem DatIn.gr {nv nv' : Led} (g : Gr nv nv') : ∀ {v : Value} {d : Dat}, DatIn nv v d → DatIn nv' v d
  | _, _, .none => .none
  | _, _, .bool b => .bool b
  | _, _, .int i t => .int i t
  | _, _, .str x t => .str x t
  | _, _, .bytes b t => .bytes b t
  | _, _, .tuple h r => .tuple (g.tup h) (DatAll.gr g r)
  | _, _, .list h r => .list (g.list h) (DatAll.gr g r)
theorem DatAll.gr {nv nv' : Led} (g : Gr nv nv') : ∀ {vs : List Value} {ds : List Dat}, DatAll nv vs ds → DatAll nv' vs ds
  | _, _, .nil => .nil
  | _, _, .cons h r => .cons (DatIn.gr g h) (DatAll.gr g r)
end

/-! the data -/
inductive Kd where
  | lg | ig | db | ch | ls
  deriving DecidableEq
noncomputable def Kd.str : Kd → Str
  | .lg => "logical" | .ig => "integer" | .db => "double" | .ch => "character" | .ls => "list"
noncomputable def Kd.rank : Kd → Nat
  | .lg => 0 | .ig => 1 | .db => 2 | .ch => 3 | .ls => 4
/-- an item: a plain one, or a Vector of one item -/
inductive Dt where
  | atom (d : Dat)
  | one (k : Kd) (d : Dat)
/-- a held value -/
inductive HV where
  | null
  | vec (k : Kd) (its : List Dt) (nm : Option (List Str))

structure VecAt (nv : Led) (a : Addr) (kv iv av : Value) : Prop where
  ex : ∃ dx o, (a, instObj 314 dx) ∈ nv ∧ (dx, o) ∈ nv ∧ VD o kv iv av
theorem VecAt.gr {nv nv' : Led} (g : Gr nv nv') {a : Addr} {kv iv av : Value} (h : VecAt nv a kv iv av) : VecAt nv' a kv iv av := by
  obtain ⟨dx, o, h1, h2, V⟩ := h.ex
  obtain ⟨o', h3, V'⟩ := g.vd h2 V
  exact ⟨dx, o', g.inst h1, h3, V'⟩

noncomputable def DtIn (nv : Led) (v : Value) : Dt → Prop
  | .atom d => DatIn nv v d
  | .one k d => ∃ a il n u t, v = .ref a ∧ VecAt nv a (.str k.str t) (.ref il) .none ∧ (il, listOf #[u] n) ∈ nv ∧ DatIn nv u d
theorem DtIn.gr {nv nv' : Led} (g : Gr nv nv') {v : Value} : ∀ {d : Dt}, DtIn nv v d → DtIn nv' v d
  | .atom _, h => DatIn.gr g h
  | .one _ _, ⟨a, il, n, u, t, e, h1, h2, h3⟩ => ⟨a, il, n, u, t, e, h1.gr g, g.list h2, DatIn.gr g h3⟩
inductive DtAll (nv : Led) : List Value → List Dt → Prop
  | nil : DtAll nv [] []
  | cons {v : Value} {vs : List Value} {d : Dt} {ds : List Dt} : DtIn nv v d → DtAll nv vs ds → DtAll nv (v :: vs) (d :: ds)
theorem DtAll.gr {nv nv' : Led} (g : Gr nv nv') : ∀ {vs : List Value} {ds : List Dt}, DtAll nv vs ds → DtAll nv' vs ds
  | _, _, .nil => .nil
  | _, _, .cons h r => .cons (h.gr g) (r.gr g)
theorem DtAll.length {nv : Led} : ∀ {vs : List Value} {ds : List Dt}, DtAll nv vs ds → vs.length = ds.length
  | _, _, .nil => rfl
  | _, _, .cons _ r => by simp [r.length]
theorem DtAll.append {nv : Led} : ∀ {vs ws : List Value} {ds es : List Dt}, DtAll nv vs ds → DtAll nv ws es → DtAll nv (vs ++ ws) (ds ++ es)
  | _, _, _, _, .nil, k => k
  | _, _, _, _, .cons h r, k => .cons h (r.append k)
theorem DtAll.get {nv : Led} : ∀ {vs : List Value} {ds : List Dt}, DtAll nv vs ds → ∀ {i : Nat} {v : Value}, vs[i]? = some v → ∃ d, ds[i]? = some d ∧ DtIn nv v d
  | _, _, .nil, i, v, h => by simp at h
  | _, _, .cons (d := d) h r, 0, v, e => by simp at e; subst e; exact ⟨d, rfl, h⟩
  | _, _, .cons h r, i + 1, v, e => by
    obtain ⟨d, h1, h2⟩ := r.get (i := i) (by simpa using e)
    exact ⟨d, by simpa using h1, h2⟩

/-- the dict of the attributes -/
structure AD (w : World) (d : Addr) (o : Obj) (kvs : List (Str × Value)) : Prop where
  ex : ∀ prog, o.IsDictOf (PySem.strKind prog w) kvs
  lo : (d == sysModules) = false
theorem isDict_any {w : World} {prog prog' : Program} {o : Obj} {kvs : List (Str × Value)} (h : o.IsDictOf (PySem.strKind prog w) kvs) : o.IsDictOf (PySem.strKind prog' w) kvs := by
  obtain ⟨es, ep, h1, h2, h3, h4, h5⟩ := h
  refine ⟨es, ep, h1, h2, h3, ?_, h5⟩
  generalize es.toList = l at h4
  clear h1 h2 h3 h5
  induction h4 with
  | nil => exact .nil
  | cons a b _ ih => exact .cons a b ih
theorem pairs_mem {w : World} {prog : Program} {x : Str} : ∀ {l : List DictEntry} {kvs : List (Str × Value)}, Pairs (PySem.strKind prog w) l kvs → ∀ e ∈ l, e.key.isStr x = true → ∃ kv ∈ kvs, kv.1 = x
  | _, _, .nil, e, h, _ => by cases h
  | _, _, .cons (e := e') (kv := kv) h1 _ r, e, h, k => by
    rcases List.mem_cons.mp h with rfl | h
    · refine ⟨kv, .head _, ?_⟩
      obtain ⟨t, ht⟩ := Value.isStrOf_shape (show Value.isStrOf kv.1 e.key = true from h1)
      rw [ht] at k
      simpa [Value.isStr] using k
    · obtain ⟨kv', h2, h3⟩ := pairs_mem r e h k
      exact ⟨kv', .tail _ h2, h3⟩
theorem AD.noVD {w : World} {d : Addr} {o : Obj} {kvs : List (Str × Value)} {kv iv av : Value} (D : AD w d o kvs) (hk : (kvs.all fun p => p.1 != "items") = true) (V : VD o kv iv av) : False := by
  obtain ⟨es, n, rfl, _, h2, _⟩ := V.ex
  obtain ⟨es', ep, _, h3, _, h4, _⟩ := D.ex default
  cases h3
  rw [List.toList_toArray] at h4
  unfold getL at h2
  split at h2
  · rename_i e he
    obtain ⟨kv, h5, h6⟩ := pairs_mem h4 e (List.mem_of_find?_eq_some he) (by have := List.find?_some he; simpa using this)
    have := List.all_eq_true.mp hk kv h5
    simp [h6] at this
  · split at h2 <;> cases h2
theorem Gr.ad {w : World} {nv nv' : Led} (g : Gr nv nv') {a : Addr} {o : Obj} {kvs : List (Str × Value)} (h : (a, o) ∈ nv) (D : AD w a o kvs) (hk : (kvs.all fun p => p.1 != "items") = true) : (a, o) ∈ nv' := by
  obtain ⟨o', h1, e⟩ := g _ _ h
  rcases e with rfl | ⟨_, _, _, h2, _⟩
  · exact h1
  · exact (D.noVD hk h2).elim
noncomputable def StrsIn (nv : Led) (v : Value) (ns : List Str) : Prop := ∃ il n xs, v = .ref il ∧ (il, listOf xs n) ∈ nv ∧ StrsAre xs.toList ns
theorem StrsIn.gr {nv nv' : Led} (g : Gr nv nv') {v : Value} {ns : List Str} (h : StrsIn nv v ns) : StrsIn nv' v ns := by
  obtain ⟨il, n, xs, e, h1, h2⟩ := h
  exact ⟨il, n, xs, e, g.list h1, h2⟩
theorem strs_dat {nv : Led} : ∀ {vs : List Value} {ns : List Str}, StrsAre vs ns → DatAll nv vs (ns.map Dat.str)
  | _, _, .nil => .nil
  | _, _, .cons y t h => .cons (.str y t) (strs_dat h)
theorem dat_strs {nv : Led} : ∀ {vs : List Value} {ns : List Str}, DatAll nv vs (ns.map Dat.str) → StrsAre vs ns
  | _, [], .nil => .nil
  | _, n :: ns, .cons (.str _ t) h => .cons n t (dat_strs h)
/-- names handed in -/
noncomputable def NmArg (nv : Led) (v : Value) : Option (List Str) → Prop
  | none => v = .none
  | some ns => StrsIn nv v ns
/-- a Vector of texts without attributes -/
noncomputable def ChVec (nv : Led) (v : Value) (ns : List Str) : Prop := ∃ a iv t, v = .ref a ∧ VecAt nv a (.str "character" t) iv .none ∧ StrsIn nv iv ns
theorem ChVec.gr {nv nv' : Led} (g : Gr nv nv') {v : Value} {ns : List Str} (h : ChVec nv v ns) : ChVec nv' v ns := by
  obtain ⟨a, iv, t, e, h1, h2⟩ := h
  exact ⟨a, iv, t, e, h1.gr g, h2.gr g⟩
noncomputable def NmIn (w : World) (nv : Led) (av : Value) : Option (List Str) → Prop
  | none => av = .none
  | some ns => ∃ ad o a, av = .ref ad ∧ (ad, o) ∈ nv ∧ AD w ad o [("names", a)] ∧ ChVec nv a ns
theorem NmIn.gr {w : World} {nv nv' : Led} (g : Gr nv nv') {av : Value} : ∀ {nm : Option (List Str)}, NmIn w nv av nm → NmIn w nv' av nm
  | none, h => h
  | some _, ⟨ad, o, a, e, h1, h2, h3⟩ => ⟨ad, o, a, e, g.ad h1 h2 (by rfl), h2, h3.gr g⟩
/-- Null's dict -/
structure ND (o : Obj) : Prop where
  ex : ∃ es n t, o = dictOf es n ∧ getL "kind" es = some (some (.str "NULL" t)) ∧ getL "attrs" es = some (some .none) ∧ getL "items" es = some none
noncomputable def VIn (w : World) (nv : Led) (v : Value) (k : Kd) (its : List Dt) (nm : Option (List Str)) : Prop :=
  ∃ a il n xs av t, v = .ref a ∧ VecAt nv a (.str k.str t) (.ref il) av ∧ (il, listOf xs n) ∈ nv ∧ DtAll nv xs.toList its ∧ NmIn w nv av nm
theorem VIn.gr {w : World} {nv nv' : Led} (g : Gr nv nv') {v : Value} {k : Kd} {its : List Dt} {nm : Option (List Str)} (h : VIn w nv v k its nm) : VIn w nv' v k its nm := by
  obtain ⟨a, il, n, xs, av, t, e, h1, h2, h3, h4⟩ := h
  exact ⟨a, il, n, xs, av, t, e, h1.gr g, g.list h2, h3.gr g, h4.gr g⟩
noncomputable def HIn (w : World) (nv : Led) (v : Value) : HV → Prop
  | .null => ∃ a dx o, v = .ref a ∧ (a, instObj 285 dx) ∈ nv ∧ (dx, o) ∈ nv ∧ ND o
  | .vec k its nm => VIn w nv v k its nm
theorem HIn.gr {w : World} {nv nv' : Led} (g : Gr nv nv') {v : Value} : ∀ {x : HV}, HIn w nv v x → HIn w nv' v x
  | .null, ⟨a, dx, o, e, h1, h2, h3⟩ => by
    obtain ⟨es, k, t, rfl, e1, e2, e3⟩ := h3.ex
    exact ⟨a, dx, _, e, g.inst h1, g.dict h2 e3, ⟨es, k, t, rfl, e1, e2, e3⟩⟩
  | .vec _ _ _, h => VIn.gr g h
inductive HAll (w : World) (nv : Led) : List Value → List HV → Prop
  | nil : HAll w nv [] []
  | cons {v : Value} {vs : List Value} {d : HV} {ds : List HV} : HIn w nv v d → HAll w nv vs ds → HAll w nv (v :: vs) (d :: ds)
theorem HAll.gr {w : World} {nv nv' : Led} (g : Gr nv nv') : ∀ {vs : List Value} {ds : List HV}, HAll w nv vs ds → HAll w nv' vs ds
  | _, _, .nil => .nil
  | _, _, .cons h r => .cons (h.gr g) (r.gr g)
theorem HAll.length {w : World} {nv : Led} : ∀ {vs : List Value} {ds : List HV}, HAll w nv vs ds → vs.length = ds.length
  | _, _, .nil => rfl
  | _, _, .cons _ r => by simp [r.length]
theorem HAll.append {w : World} {nv : Led} : ∀ {vs ws : List Value} {ds es : List HV}, HAll w nv vs ds → HAll w nv ws es → HAll w nv (vs ++ ws) (ds ++ es)
  | _, _, _, _, .nil, k => k
  | _, _, _, _, .cons h r, k => .cons h (r.append k)
theorem HAll.get {w : World} {nv : Led} : ∀ {vs : List Value} {ds : List HV}, HAll w nv vs ds → ∀ {i : Nat} {v : Value}, vs[i]? = some v → ∃ d, ds[i]? = some d ∧ HIn w nv v d
  | _, _, .nil, i, v, h => by simp at h
  | _, _, .cons (d := d) h r, 0, v, e => by simp at e; subst e; exact ⟨d, rfl, h⟩
  | _, _, .cons h r, i + 1, v, e => by
    obtain ⟨d, h1, h2⟩ := r.get (i := i) (by simpa using e)
    exact ⟨d, by simpa using h1, h2⟩
end Mine
end
/-! NG -/
section
namespace Mine
section
variable {prog : Program} {w : World} {K : Frag} {d : Nat} {A : Around} {env fe : Env} {s : Shared} {h₀ h : Heap} {L : Addr} {m : Str → Option Value} {mu nv mu' nv' : Led} {vr : List Str} {vs : List (Option Value)}
theorem x_setA {o value : Expr} {attr : Str} {pos' pos : Pos} {rest : List Stmt} {Q : Flow → Shared → Prop}
    (h : wp prog w A (eval value env) (fun v s₁ => wp prog w A (eval o env) (fun ov s₂ => wp prog w A (setAttr ov attr v) (fun _ s₃ => wp prog w A (execs rest env) Q s₃) s₂) s₁) s)
    (hs : swapsWith value (some (.Attribute o attr pos')) pos.line env = pure false := by rfl) : wp prog w A (execs (.Assign [.Attribute o attr pos'] value pos :: rest) env) Q s :=
  x_cons (plainObj_wpAny_Assign_Attribute h hs)
theorem call_own {x : Str} {p pos : Pos} {e : Expr} {args : List Expr} {f : Addr} {Q : Value → Shared → Prop} (n : IsGlb env x) (c : CallG K x f) (G : EnvG env) (M : Am K d A fe h₀) (S : Sta h₀ L s.heap m mu nv)
    (q : wp prog w A (spliced (backTo pos (starEach (e :: args) env))) (fun vs s₁ => K.In s₁.heap ∧ wp prog w A (call (.ref f) vs) Q s₁) s) (hplain : (backTo pos (starEach args env)).any (·.1) = false := by rfl)
    (he : starEach (e :: args) env = (false, eval e env) :: starEach args env := by rfl)
    (hc : eval (.Call (.Name x p) (e :: args) [] pos) env = (do callWith pos (← eval (.Name x p) env) [] (backTo pos (starEach (e :: args) env)) (backToKw pos (keywordEach [] env))) := by rfl) :
    wp prog w A (eval (.Call (.Name x p) (e :: args) [] pos) env) Q s := call_glb n G M S c.g c.k q hplain he hc
theorem call_own0 {x : Str} {p pos : Pos} {f : Addr} {Q : Value → Shared → Prop} (n : IsGlb env x) (c : CallG K x f) (G : EnvG env) (M : Am K d A fe h₀) (S : Sta h₀ L s.heap m mu nv) (q : wp prog w A (call (.ref f) []) Q s)
    (hc : eval (.Call (.Name x p) [] [] pos) env = (do callWith pos (← eval (.Name x p) env) [] (backTo pos (starEach [] env)) (backToKw pos (keywordEach [] env))) := by rfl) :
    wp prog w A (eval (.Call (.Name x p) [] [] pos) env) Q s := call_glb0 n G M S c.g c.k q hc
theorem call_bi {x : Str} {p pos : Pos} {e : Expr} {args : List Expr} {id : String} {Q : Value → Shared → Prop} (n : IsGlb env x) (c : BiG K x (.builtin id)) (G : EnvG env) (M : Am K d A fe h₀) (S : Sta h₀ L s.heap m mu nv)
    (q : wp prog w A (spliced (backTo pos (starEach (e :: args) env))) (fun vs s₁ => wp prog w A (call (.builtin id) vs) Q s₁) s) (hplain : (backTo pos (starEach args env)).any (·.1) = false := by rfl)
    (he : starEach (e :: args) env = (false, eval e env) :: starEach args env := by rfl)
    (hc : eval (.Call (.Name x p) (e :: args) [] pos) env = (do callWith pos (← eval (.Name x p) env) [] (backTo pos (starEach (e :: args) env)) (backToKw pos (keywordEach [] env))) := by rfl) :
    wp prog w A (eval (.Call (.Name x p) (e :: args) [] pos) env) Q s := by
  refine Call_ (ld_bi n G M S c.e c.v c.n ?_) hc
  rw [he] at q ⊢
  exact callWith_builtin (by show (false || (backTo pos (starEach args env)).any (·.1)) = false; rw [hplain]; rfl) (evalArgs_plain q)
theorem call_ty {x : Str} {p pos : Pos} {e : Expr} {args : List Expr} {T : String} {Q : Value → Shared → Prop} (n : IsGlb env x) (c : BiG K x (.type T)) (G : EnvG env) (M : Am K d A fe h₀) (S : Sta h₀ L s.heap m mu nv)
    (q : wp prog w A (spliced (backTo pos (starEach (e :: args) env))) (fun vs s₁ => wp prog w A (call (.type T) vs) Q s₁) s) (hplain : (backTo pos (starEach args env)).any (·.1) = false := by rfl)
    (he : starEach (e :: args) env = (false, eval e env) :: starEach args env := by rfl)
    (hc : eval (.Call (.Name x p) (e :: args) [] pos) env = (do callWith pos (← eval (.Name x p) env) [] (backTo pos (starEach (e :: args) env)) (backToKw pos (keywordEach [] env))) := by rfl) :
    wp prog w A (eval (.Call (.Name x p) (e :: args) [] pos) env) Q s :=
  Call_ (ld_bi n G M S c.e c.v c.n (PyProof.Rows.callWith_type1 q he hplain)) hc
theorem ld_own {x : Str} {pos : Pos} {f : Addr} {Q : Value → Shared → Prop} (n : IsGlb env x) (c : CallG K x f) (G : EnvG env) (M : Am K d A fe h₀) (S : Sta h₀ L s.heap m mu nv) (q : Q (.ref f) s) : wp prog w A (eval (.Name x pos) env) Q s := ld_glb n G M S c.g q
theorem ld_ty {x : Str} {pos : Pos} {v : Value} {Q : Value → Shared → Prop} (n : IsGlb env x) (c : BiG K x v) (G : EnvG env) (M : Am K d A fe h₀) (S : Sta h₀ L s.heap m mu nv) (q : Q v s) : wp prog w A (eval (.Name x pos) env) Q s := ld_bi n G M S c.e c.v c.n q
theorem Am.inTo (M : Am K d A fe h₀) {P : Prop} (S : Sta h₀ L s.heap m mu nv) (h : P) : K.In s.heap ∧ P := ⟨M.X.keeps S.F.keep, h⟩
end
end Mine
end
/-! NI -/
section
namespace Mine
section
variable {prog : Program} {w : World} {d : Nat} {A : Around} {env fe : Env} {s : Shared} {h₀ h : Heap} {L : Addr} {m : Str → Option Value} {mu nv mu' nv' : Led} {vr : List Str} {vs : List (Option Value)}
theorem va_kind {x : Addr} {kv iv av : Value} {b : Bool} {Q : Value → Shared → Prop} (V : VecAt nv x kv iv av) (M : Am (KK w) d A fe h₀) (S : Sta h₀ L s.heap m mu nv) (hv : handedIn kv = true) (q : Q kv { s with toks := s.toks + 1 }) : wp prog w A (getAttr (.ref x) "kind" b) Q s := by
  obtain ⟨dx, o, h1, h2, V⟩ := V.ex
  exact vd_kind M S (List.mem_append_right _ h1) (List.mem_append_right _ h2) V (oa_kind w) hv q
theorem va_items {x : Addr} {kv iv av : Value} {b : Bool} {Q : Value → Shared → Prop} (V : VecAt nv x kv iv av) (M : Am (KK w) d A fe h₀) (S : Sta h₀ L s.heap m mu nv) (hv : handedIn iv = true) (q : Q iv { s with toks := s.toks + 1 }) : wp prog w A (getAttr (.ref x) "items" b) Q s := by
  obtain ⟨dx, o, h1, h2, V⟩ := V.ex
  exact vd_items M S (List.mem_append_right _ h1) (List.mem_append_right _ h2) V (oa_items w) hv q
theorem va_attrs {x : Addr} {kv iv av : Value} {b : Bool} {Q : Value → Shared → Prop} (V : VecAt nv x kv iv av) (M : Am (KK w) d A fe h₀) (S : Sta h₀ L s.heap m mu nv) (hv : handedIn av = true) (q : Q av { s with toks := s.toks + 1 }) : wp prog w A (getAttr (.ref x) "attrs" b) Q s := by
  obtain ⟨dx, o, h1, h2, V⟩ := V.ex
  exact vd_attrs M S (List.mem_append_right _ h1) (List.mem_append_right _ h2) V (oa_attrs w) hv q
structure NuAt (nv : Led) (a : Addr) : Prop where
  ex : ∃ dx o, (a, instObj 285 dx) ∈ nv ∧ (dx, o) ∈ nv ∧ ND o
theorem nu_kind {x : Addr} {b : Bool} {Q : Value → Shared → Prop} (V : NuAt nv x) (M : Am (KK w) d A fe h₀) (S : Sta h₀ L s.heap m mu nv) (q : ∀ t, Q (.str "NULL" t) { s with toks := s.toks + 1 }) : wp prog w A (getAttr (.ref x) "kind" b) Q s := by
  obtain ⟨dx, o, h1, h2, N⟩ := V.ex
  obtain ⟨es, n, t, rfl, e1, e2, _⟩ := N.ex
  exact at_get M S (List.mem_append_right _ h1) (List.mem_append_right _ h2) (on_kind w) e1 rfl (q t)
theorem nu_attrs {x : Addr} {b : Bool} {Q : Value → Shared → Prop} (V : NuAt nv x) (M : Am (KK w) d A fe h₀) (S : Sta h₀ L s.heap m mu nv) (q : Q .none { s with toks := s.toks + 1 }) : wp prog w A (getAttr (.ref x) "attrs" b) Q s := by
  obtain ⟨dx, o, h1, h2, N⟩ := V.ex
  obtain ⟨es, n, t, rfl, e1, e2, _⟩ := N.ex
  exact at_get M S (List.mem_append_right _ h1) (List.mem_append_right _ h2) (on_attrs w) e2 rfl q
theorem isi_V {x : Addr} {kv iv av : Value} {Q : Value → Shared → Prop} (V : VecAt nv x kv iv av) (M : Am (KK w) d A fe h₀) (S : Sta h₀ L s.heap m mu nv) (q : Q (.bool true) s) : wp prog w A (call (.builtin "isinstance") [.ref x, .ref 314]) Q s := by
  obtain ⟨dx, o, h1, h2, V⟩ := V.ex
  obtain ⟨es, n, rfl, _⟩ := V.ex
  exact isi_call (M.X.keeps S.F.keep) (fun _ => (InstAt.of_news S.N (List.mem_append_right _ h1) (List.mem_append_right _ h2)).type) (ii_V w) (by intro e; cases e) q
theorem isi_N {x : Addr} {Q : Value → Shared → Prop} (V : NuAt nv x) (M : Am (KK w) d A fe h₀) (S : Sta h₀ L s.heap m mu nv) (q : Q (.bool false) { s with toks := s.toks + 1 }) : wp prog w A (call (.builtin "isinstance") [.ref x, .ref 314]) Q s := by
  obtain ⟨dx, o, h1, h2, N⟩ := V.ex
  obtain ⟨es, n, t, rfl, _⟩ := N.ex
  have c := ca_N w
  exact kin_callC (M.X.keeps S.F.keep) (InstAt.of_news S.N (List.mem_append_right _ h1) (List.mem_append_right _ h2)) (kn_NV w) c.g c.d c.a c.n c.t c.m q
theorem isi_Vt {x : Addr} {kv iv av : Value} {Q : Value → Shared → Prop} (V : VecAt nv x kv iv av) (M : Am (KK w) d A fe h₀) (S : Sta h₀ L s.heap m mu nv) (q : Q (.bool false) { s with toks := s.toks + 1 }) : wp prog w A (call (.builtin "isinstance") [.ref x, .type "tuple"]) Q s := by
  obtain ⟨dx, o, h1, h2, V⟩ := V.ex
  obtain ⟨es, n, rfl, _⟩ := V.ex
  have c := ca_V w
  exact kin_callT (M.X.keeps S.F.keep) (InstAt.of_news S.N (List.mem_append_right _ h1) (List.mem_append_right _ h2)) (kn_Vt w) (by kernel_rfl) c.g c.d c.a c.n c.t c.m q

/-- nothing is changed -/
noncomputable def Same (mu nv : Led) (P : Value → Prop) : Value → Led → Led → Prop := fun v mu' nv' => mu' = mu ∧ nv' = nv ∧ P v
/-- the ledger grows -/
noncomputable def Grw (mu nv : Led) (P : Value → Led → Prop) : Value → Led → Led → Prop := fun v mu' nv' => mu' = mu ∧ Gr nv nv' ∧ P v nv'

theorem Spec.same {prog : Program} {K : Frag} {w : World} {d d' : Nat} {f : Value} {args : List Value} {mu nv : Led} {P : Value → Prop} {A : Around} {fe : Env} {h₀ : Heap} {m : Str → Option Value} {s : Shared} {Q : Value → Shared → Prop} (H : Spec K w d f args mu nv (Same mu nv P)) (h : d ≤ d') (M : Am K d' A fe h₀) (S : Sta h₀ fe.locals s.heap m mu nv)
    (q : ∀ v h' tk, Sta h₀ fe.locals h' m mu nv → P v → Q v { s with heap := h', toks := tk }) : wp prog w A (call f args) Q s :=
  H prog A fe h₀ m s Q (M.less h) S fun v h' tk mu' nv' S' p => by
    obtain ⟨rfl, rfl, p⟩ := p
    exact q v h' tk S' p
theorem Spec.grw {prog : Program} {K : Frag} {w : World} {d d' : Nat} {f : Value} {args : List Value} {mu nv : Led} {P : Value → Led → Prop} {A : Around} {fe : Env} {h₀ : Heap} {m : Str → Option Value} {s : Shared} {Q : Value → Shared → Prop} (H : Spec K w d f args mu nv (Grw mu nv P)) (h : d ≤ d') (M : Am K d' A fe h₀) (S : Sta h₀ fe.locals s.heap m mu nv)
    (q : ∀ v h' tk nv', Sta h₀ fe.locals h' m mu nv' → Gr nv nv' → P v nv' → Q v { s with heap := h', toks := tk }) : wp prog w A (call f args) Q s :=
  H prog A fe h₀ m s Q (M.less h) S fun v h' tk mu' nv' S' p => by
    obtain ⟨rfl, g, p⟩ := p
    exact q v h' tk nv' S' g p

/-- here the walk stops: the next step is taken by hand -/
structure Halt (P : Prop) : Prop where
  out : P
theorem h_bin {o : Operator} {a b : Value} {Q : Value → Shared → Prop} (h : Halt (wp prog w A (binaryOp o a b) Q s)) : wp prog w A (binaryOp o a b) Q s := h.out
theorem h_inp {o : Operator} {a b : Value} {Q : Value → Shared → Prop} (h : Halt (wp prog w A (inplaceOp o a b) Q s)) : wp prog w A (inplaceOp o a b) Q s := h.out
theorem h_cmp {o : CmpOp} {a b : Value} {Q : Value → Shared → Prop} (h : Halt (wp prog w A (compareOp o a b) Q s)) : wp prog w A (compareOp o a b) Q s := h.out
theorem h_call {f : Value} {a : List Value} {Q : Value → Shared → Prop} (h : Halt (wp prog w A (call f a) Q s)) : wp prog w A (call f a) Q s := h.out
theorem h_un {o : UnaryOp} {a : Value} {Q : Value → Shared → Prop} (h : Halt (wp prog w A (unaryOp o a) Q s)) : wp prog w A (unaryOp o a) Q s := h.out
theorem h_meth {a : Value} {n : Str} {pl : Sem Bool} {Q : Value × List Value → Shared → Prop} (h : Halt (wp prog w A (getMethod a n pl) Q s)) : wp prog w A (getMethod a n pl) Q s := h.out
theorem h_attr {a : Value} {n : Str} {b : Bool} {Q : Value → Shared → Prop} (h : Halt (wp prog w A (getAttr a n b) Q s)) : wp prog w A (getAttr a n b) Q s := h.out
theorem h_set {a v : Value} {n : Str} {Q : Unit → Shared → Prop} (h : Halt (wp prog w A (setAttr a n v) Q s)) : wp prog w A (setAttr a n v) Q s := h.out
theorem h_sub {e i : Expr} {a b : Value} {Q : Value → Shared → Prop} (h : Halt (wp prog w A (subscriptTail e i a b) Q s)) : wp prog w A (subscriptTail e i a b) Q s := h.out
theorem h_list {vs : List Value} {Q : Value → Shared → Prop} (h : Halt (wp prog w A (newList vs) Q s)) : wp prog w A (newList vs) Q s := h.out
theorem h_tup {vs : List Value} {Q : Value → Shared → Prop} (h : Halt (wp prog w A (newTuple vs) Q s)) : wp prog w A (newTuple vs) Q s := h.out
theorem h_truth {a : Value} {Q : Bool → Shared → Prop} (h : Halt (wp prog w A (truthy a) Q s)) : wp prog w A (truthy a) Q s := h.out
theorem h_cw {pos : Pos} {f : Value} {fs : List Value} {as : List (Bool × Sem Value)} {ks : List (Option Str × Sem Value)} {Q : Value → Shared → Prop} (h : Halt (wp prog w A (callWith pos f fs as ks) Q s)) : wp prog w A (callWith pos f fs as ks) Q s := h.out
theorem h_store {x : Str} {v : Value} {Q : Unit → Shared → Prop} (h : Halt (wp prog w A (storeName env x v) Q s)) : wp prog w A (storeName env x v) Q s := h.out
theorem h_name {x : Str} {p : Pos} {Q : Value → Shared → Prop} (h : Halt (wp prog w A (eval (.Name x p) env) Q s)) : wp prog w A (eval (.Name x p) env) Q s := h.out
theorem h_comp {e : Expr} {gs : List Comprehension} {sc : Scope} {p : Pos} {Q : Value → Shared → Prop} (h : Halt (wp prog w A (eval (.ListComp e gs sc p) env) Q s)) : wp prog w A (eval (.ListComp e gs sc p) env) Q s := h.out
theorem h_dict {ks : List (Option Expr)} {es : List Expr} {p : Pos} {Q : Value → Shared → Prop} (h : Halt (wp prog w A (eval (.Dict ks es p) env) Q s)) : wp prog w A (eval (.Dict ks es p) env) Q s := h.out
theorem h_tupe {es : List Expr} {k : Nat} {p : Pos} {Q : Value → Shared → Prop} (h : Halt (wp prog w A (eval (.Tuple es k p) env) Q s)) : wp prog w A (eval (.Tuple es k p) env) Q s := h.out
theorem h_slice {l u st : Option Expr} {p : Pos} {Q : Value → Shared → Prop} (h : Halt (wp prog w A (eval (.Slice l u st p) env) Q s)) : wp prog w A (eval (.Slice l u st p) env) Q s := h.out
theorem h_for {t i : Expr} {b o rest : List Stmt} {p : Pos} {Q : Flow → Shared → Prop} (h : Halt (wp prog w A (execs (.For t i b o p :: rest) env) Q s)) : wp prog w A (execs (.For t i b o p :: rest) env) Q s := h.out
theorem h_while {t : Expr} {b o rest : List Stmt} {p : Pos} {Q : Flow → Shared → Prop} (h : Halt (wp prog w A (execs (.While t b o p :: rest) env) Q s)) : wp prog w A (execs (.While t b o p :: rest) env) Q s := h.out
theorem h_asgc {t : Expr} {e : Expr} {gs : List Comprehension} {sc : Scope} {p p' : Pos} {rest : List Stmt} {Q : Flow → Shared → Prop} (h : Halt (wp prog w A (execs (.Assign [t] (.ListComp e gs sc p) p' :: rest) env) Q s)) : wp prog w A (execs (.Assign [t] (.ListComp e gs sc p) p' :: rest) env) Q s := h.out
theorem h_asgs {a i : Expr} {e : Expr} {p p' : Pos} {rest : List Stmt} {Q : Flow → Shared → Prop} (h : Halt (wp prog w A (execs (.Assign [.Subscript a i p] e p' :: rest) env) Q s)) : wp prog w A (execs (.Assign [.Subscript a i p] e p' :: rest) env) Q s := h.out
theorem h_asgt {es : List Expr} {k : Nat} {e : Expr} {p p' : Pos} {rest : List Stmt} {Q : Flow → Shared → Prop} (h : Halt (wp prog w A (execs (.Assign [.Tuple es k p] e p' :: rest) env) Q s)) : wp prog w A (execs (.Assign [.Tuple es k p] e p' :: rest) env) Q s := h.out
theorem h_exprS {e : Expr} {p : Pos} {rest : List Stmt} {Q : Flow → Shared → Prop} (h : Halt (wp prog w A (execs (.Expr e p :: rest) env) Q s)) : wp prog w A (execs (.Expr e p :: rest) env) Q s := h.out
end
end Mine
end
/-! NJ -/
section
namespace Mine
section
variable {prog : Program} {w : World} {K : Frag} {d : Nat} {A : Around} {env fe : Env} {s : Shared} {h₀ h : Heap} {L : Addr} {m : Str → Option Value} {mu nv mu' nv' : Led} {vr : List Str} {vs : List (Option Value)}

theorem Sta.cons' {D : Addr} {o : Obj} {h' : Heap} (S : Sta h₀ L h m mu nv) (F : Fr h₀ L h' m) (N : News h₀ L h' ((D, o) :: (mu ++ nv))) (lt : ∀ q ∈ mu ++ nv, q.1 < D) : Sta h₀ L h' m ((D, o) :: mu) nv := by
  refine ⟨F, N, ?_⟩
  simp only [List.cons_append, List.map_cons, List.nodup_cons]
  refine ⟨fun hm => ?_, S.D⟩
  obtain ⟨q, hq, e⟩ := List.mem_map.mp hm
  exact absurd (lt q hq) (by rw [e]; exact Nat.lt_irrefl _)
theorem Sta.same {h' : Heap} (S : Sta h₀ L h m mu nv) (F : Fr h₀ L h' m) (N : News h₀ L h' (mu ++ nv)) : Sta h₀ L h' m mu nv := ⟨F, N, S.D⟩
theorem Sta.isList (S : Sta h₀ L h m mu nv) {l : Addr} {xs : Array Value} {n : Nat} (hm : (l, listOf xs n) ∈ mu ++ nv) : h.IsList l xs := ⟨_, S.mem hm, rfl, n, rfl⟩
theorem Am.nolim (M : Am K d A fe h₀) : h₀.NoLimit := by obtain ⟨_, _, _, _, _, T⟩ := M.top; exact T.nolimit

/-! lists -/
theorem j_new {xs : List Value} {Q : Value → Shared → Prop} (S : Sta h₀ L s.heap m mu nv) (hz : xs.length ≤ sizeLine) (q : ∀ D h', Sta h₀ L h' m ((D, listOf xs.toArray 0) :: mu) nv → Q (.ref D) { s with heap := h' }) : wp prog w A (newList xs) Q s :=
  wpAny_newObj_type (q _ _ (S.push _)) (by show xs.toArray.size ≤ sizeLine; rw [List.size_toArray]; exact hz)
theorem j_newT {xs : List Value} {Q : Value → Shared → Prop} (S : Sta h₀ L s.heap m mu nv) (hz : xs.length ≤ sizeLine) (q : ∀ D h', Sta h₀ L h' m mu ((D, tupOf xs.toArray 0) :: nv) → Q (.ref D) { s with heap := h' }) : wp prog w A (newTuple xs) Q s :=
  wpAny_newObj_type (q _ _ (S.push _).keep1) (by show xs.toArray.size ≤ sizeLine; rw [List.size_toArray]; exact hz)
theorem j_newTm {xs : List Value} {Q : Value → Shared → Prop} (S : Sta h₀ L s.heap m mu nv) (hz : xs.length ≤ sizeLine) (q : ∀ D o h', o = tupOf xs.toArray 0 → Sta h₀ L h' m ((D, o) :: mu) nv → Q (.ref D) { s with heap := h' }) : wp prog w A (newTuple xs) Q s :=
  wpAny_newObj_type (q _ _ _ rfl (S.push _)) (by show xs.toArray.size ≤ sizeLine; rw [List.size_toArray]; exact hz)
theorem j_len {l : Addr} {xs : Array Value} {n : Nat} {Q : Value → Shared → Prop} (hm : (l, listOf xs n) ∈ mu ++ nv) (S : Sta h₀ L s.heap m mu nv) (hz : xs.size ≤ 100000) (q : Q (.int xs.size (s.toks + 1)) { s with toks := s.toks + 1 + 1 }) : wp prog w A (call (.builtin "len") [.ref l]) Q s :=
  call_len_list (S.isList hm) (by omega) q
theorem j_list {l : Addr} {xs : Array Value} {n : Nat} {Q : Value → Shared → Prop} (hm : (l, listOf xs n) ∈ mu ++ nv) (S : Sta h₀ L s.heap m mu nv) (hz : xs.size ≤ sizeLine) (q : ∀ D c h', Sta h₀ L h' m ((D, listOf xs c) :: mu) nv → Q (.ref D) { s with heap := h' }) : wp prog w A (call (.type "list") [.ref l]) Q s :=
  list_copyK S.F S.N (S.isList hm) (fun D c h' F N lt => q D c h' (S.cons' F N lt)) hz
theorem j_item {value slice : Expr} {l : Addr} {xs : Array Value} {n : Nat} {k : Int} {u : Tok} {x : Value} {Q : Value → Shared → Prop} (hm : (l, listOf xs n) ∈ mu ++ nv) (S : Sta h₀ L s.heap m mu nv) (h0 : 0 ≤ k) (hf : k < 2 ^ 63) (hx : xs.toList[k.toNat]? = some x) (q : Q x s)
    (hs : subscripted slice false (.ref l) (.int k u) = operate [.ref l, .int k u] (getItem (.ref l) (.int k u)) := by with_unfolding_all rfl) (hg : ∀ r, letTemporaryGo value (.ref l) r = pure () := by intro _; with_unfolding_all rfl) :
    wp prog w A (subscriptTail value slice (.ref l) (.int k u)) Q s := kim_list (n := n) S.N hm rfl (by show Data.seq xs n = Data.seq xs.toList.toArray n; rw [Array.toArray_toList]) h0 hf hx q hs hg
theorem j_itemT {value slice : Expr} {l : Addr} {xs : Array Value} {n : Nat} {k : Int} {u : Tok} {x : Value} {Q : Value → Shared → Prop} (hm : (l, tupOf xs n) ∈ mu ++ nv) (S : Sta h₀ L s.heap m mu nv) (h0 : 0 ≤ k) (hf : k < 2 ^ 63) (hx : xs.toList[k.toNat]? = some x) (q : Q x s)
    (hs : subscripted slice false (.ref l) (.int k u) = operate [.ref l, .int k u] (getItem (.ref l) (.int k u)) := by with_unfolding_all rfl) (hg : ∀ r, letTemporaryGo value (.ref l) r = pure () := by intro _; with_unfolding_all rfl) :
    wp prog w A (subscriptTail value slice (.ref l) (.int k u)) Q s := by
  have hlt : k.toNat < xs.toList.length := by
    rcases Nat.lt_or_ge k.toNat xs.toList.length with h | h
    · exact h
    · rw [List.getElem?_eq_none h] at hx; cases hx
  refine kim_tup (n := n) (j := k.toNat) S.N hm rfl (by show Data.seq xs n = Data.seq xs.toList.toArray n; rw [Array.toArray_toList]) (by omega) hf ?_ hx q hs hg
  unfold seqIndex?
  simp only [if_neg (show ¬ k < 0 by omega)]
  have h1 : (decide (0 ≤ k) && decide (k < (xs.toList.length : Int))) = true := by simp only [Bool.and_eq_true, decide_eq_true_eq]; omega
  exact if_pos h1
theorem j_meth {l : Addr} {xs : Array Value} {n : Nat} {name : Str} {id : String} {pl : Sem Bool} {Q : Value × List Value → Shared → Prop} (hm : (l, listOf xs n) ∈ mu ++ nv) (S : Sta h₀ L s.heap m mu nv) (slot : Slot "list" name id) (hty : typeOf (.builtin id) = pure (.type "method_descriptor")) (q : Q (.builtin id, [.ref l]) s) :
    wp prog w A (getMethod (.ref l) name pl) Q s := kl_method S.N hm slot hty q
theorem j_append {l : Addr} {xs : List Value} {n : Nat} {x : Value} {Q : Value → Shared → Prop} (S : Sta h₀ L s.heap m ((l, listOf xs.toArray n) :: mu) nv) (hz : xs.length ≤ sizeLine) (q : ∀ n' h', Sta h₀ L h' m ((l, listOf (xs ++ [x]).toArray n') :: mu) nv → Q .none { s with heap := h' }) :
    wp prog w A (call (.builtin "list.append") [.ref l, x]) Q s := by
  refine wpAny_list_append_plain (items := xs.toArray) ⟨n, S.mem (.head _)⟩ (fun h' hl hs => ?_) (by rw [List.size_toArray]; exact hz)
  obtain ⟨k, hk⟩ := hl
  exact q k h' (S.upd hs (by rw [hk]; simp))
theorem j_pop {l : Addr} {xs : List Value} {n : Nat} {y : Value} {Q : Value → Shared → Prop} (S : Sta h₀ L s.heap m ((l, listOf (xs ++ [y]).toArray n) :: mu) nv) (hz : xs.length < 100000) (q : ∀ n' h', Sta h₀ L h' m ((l, listOf xs.toArray n') :: mu) nv → Q y { s with heap := h' }) :
    wp prog w A (call (.builtin "list.pop") [.ref l]) Q s := by
  refine kl_pop (p := xs) (y := y) S.F S.N ?_ (Upd.head S.ne) (by simp [sizeLine_eq]; omega) fun h' F' N' => q _ h' ⟨F', N', S.D⟩
  rw [List.toList_toArray]
  exact kpa_last y xs
theorem j_reverse {l : Addr} {xs : List Value} {n : Nat} {Q : Value → Shared → Prop} (S : Sta h₀ L s.heap m ((l, listOf xs.toArray n) :: mu) nv) (hz : xs.length < 100000) (q : ∀ n' h', Sta h₀ L h' m ((l, listOf xs.reverse.toArray n') :: mu) nv → Q .none { s with heap := h' }) :
    wp prog w A (call (.builtin "list.reverse") [.ref l]) Q s := by
  refine call_meets PySem.F.slot_list_reverse ⟨_, S.mem (.head _), rfl⟩ PySem.F.entry_list_reverse (PySem.F.args_list_reverse_1 _) (AutoSeq1.list_reverse_list_0 l xs.toArray n (by simp [sizeLine_eq]; omega)) ⟨S.mem (.head _), (q (if (xs.reverse.toArray.size == xs.toArray.size) = true then n else n + 1) _ ?_)⟩
  refine S.upd (Heap.SameBut.update ..) ?_
  have q := PySem.IsL.update (S.mem (.head _)) (fun x => x.reverse)
  rw [List.reverse_toArray] at q
  exact q
theorem j_extend {l b : Addr} {xs : List Value} {ys : Array Value} {n k : Nat} {Q : Value → Shared → Prop} (hb : (b, listOf ys k) ∈ mu ++ nv) (S : Sta h₀ L s.heap m ((l, listOf xs.toArray n) :: mu) nv) (hz : xs.length + ys.size ≤ 100000)
    (q : ∀ n' h', Sta h₀ L h' m ((l, listOf (xs ++ ys.toList).toArray n') :: mu) nv → Q .none { s with heap := h' }) :
    wp prog w A (call (.builtin "list.extend") [.ref l, .ref b]) Q s := by
  refine call_meets PySem.F.slot_list_extend ⟨_, S.mem (.head _), rfl⟩ PySem.F.entry_list_extend (PySem.F.args_list_extend_2 _ _) (AutoSeq1.list_extend_list_list_0 l xs.toArray n b ys k (by simp [Builtin.List.listTooLong, sizeLine_eq]; omega) (by simp [sizeLine_eq]; omega) (by simp [sizeLine_eq]; omega))
    ⟨S.mem (.head _), S.mem (by simp only [List.cons_append]; exact .tail _ hb), q (if ((xs ++ ys.toList).toArray.size == xs.toArray.size) = true then n else n + 1) _ ?_⟩
  refine S.upd (Heap.SameBut.update ..) ?_
  have q := PySem.IsL.update (S.mem (.head _)) (fun z => z ++ ys)
  rw [show xs.toArray ++ ys = (xs ++ ys.toList).toArray by simp] at q
  exact q
theorem x_exp {e : Expr} {pos : Pos} {rest : List Stmt} {Q : Flow → Shared → Prop} (h : wp prog w A (eval e env) (fun v s' => v = .none ∧ wp prog w A (execs rest env) Q s') s)
    (hi : interactive env = false) (hs : swapsWith e none pos.line env = pure false) : wp prog w A (execs (.Expr e pos :: rest) env) Q s :=
  x_expr (wpAny_mono h (fun v s' h' => by obtain ⟨rfl, h'⟩ := h'; exact h') fun _ _ e => e) hi hs
theorem none_and {P : Prop} (h : P) : Value.none = Value.none ∧ P := ⟨rfl, h⟩

/-! numbers -/
theorem j_fdiv {a b : Int} {t u : Tok} {Q : Value → Shared → Prop} (h0 : b ≠ 0) (hb : b.natAbs < 1073741824) (q : Q (.int (a.fdiv b) s.toks) { s with toks := s.toks + 1 }) : wp prog w A (binaryOp .FloorDiv (.int a t) (.int b u)) Q s :=
  PyProof.Rows.floordiv_int h0 q (.inl (PyProof.noPylong_small hb))
theorem j_range {n : Nat} {t : Tok} {Q : Value → Shared → Prop} (S : Sta h₀ L s.heap m mu nv) (q : ∀ r h' tk t u v, Sta h₀ L h' m mu nv → IsRange h' r 0 (n : Nat) 1 t u v → Q (.ref r) { s with heap := h', toks := tk }) : wp prog w A (call (.type "range") [.int (n : Nat) t]) Q s :=
  call_range_1 (q _ _ _ _ _ _ (S.push _).drop (Heap.get?_push_size _ rfl))
theorem range_small {n : Nat} (h : n < 100000) : Builtin.Range.small 0 (n : Nat) 1 = true := by
  have e : Builtin.Range.rangeSize 0 (n : Nat) 1 = (n : Int) := by unfold Builtin.Range.rangeSize; (repeat' split) <;> omega
  have f : ∀ x : Int, 0 ≤ x → x < 200000 → Builtin.Range.rangeFitsLong x = true := fun x h1 h2 => by unfold Builtin.Range.rangeFitsLong; simp; omega
  unfold Builtin.Range.small
  rw [e, f 0 (by omega) (by omega), f n (by omega) (by omega), f 1 (by omega) (by omega), if_pos (by omega), f (n + (1 - 1)) (by omega) (by omega)]
  simp

/-! while -/
theorem x_while {test : Expr} {body rest : List Stmt} {pos : Pos} {Q : Flow → Shared → Prop} (I : Nat → Shared → Prop) (n : Nat) (h0 : I n s)
    (turn : ∀ n s, let Q' : Flow → Shared → Prop := (fun f s₃ => match f with
        | .next | .cont => ∃ m, m < n ∧ I m s₃
        | .brk => wp prog w A (execs rest env) Q s₃
        | .ret v => Q (.ret v) s₃); I n s → wp prog w A (isTrue test env (eval test env)) (fun b s₂ => if b = true then wp prog w A (execs body env) Q' s₂ else wp prog w A (execs rest env) Q s₂) s) : wp prog w A (execs (.While test body [] pos :: rest) env) Q s := by
  refine x_cons (wpAny_While (codeAny_whileLoop I (fun n s hI => ?_) n h0))
  refine wpAny_mono (turn n s hI) (fun b s₂ h₂ => ?_) fun _ _ e => e.elim
  cases b with
  | false =>
    rw [if_neg (by simp)] at h₂
    simp only [Bool.false_eq_true, if_false]
    exact wpAny_execs_nil (x_next h₂)
  | true =>
    rw [if_pos rfl] at h₂
    simp only [if_true]
    refine wpAny_mono h₂ (fun f s₃ h₃ => ?_) fun _ _ e => e.elim
    cases f <;> exact h₃
/-! what lists of data say -/
theorem j_eqD {a b : Addr} {xs ys : Array Value} {n k : Nat} {ds es : List Dat} {Q : Value → Shared → Prop} (ma : (a, listOf xs n) ∈ mu ++ nv) (Da : DatAll (mu ++ nv) xs.toList ds) (mb : (b, listOf ys k) ∈ mu ++ nv) (Db : DatAll (mu ++ nv) ys.toList es)
    (ha : ∀ d ∈ ds, kqdOk 8 d = true) (hb : ∀ d ∈ es, kqdOk 8 d = true) (M : Am K d A fe h₀) (S : Sta h₀ L s.heap m mu nv) (q : ∀ b : Bool, (b = true ↔ ds = es) → Q (.bool b) s) : wp prog w A (compareOp .Eq (.ref a) (.ref b)) Q s :=
  kqd_eq (ka := n) (kb := k) S.N ma rfl (by show Data.seq xs n = Data.seq xs.toList.toArray n; rw [Array.toArray_toList]) Da (fun _ h => h) mb rfl (by show Data.seq ys k = Data.seq ys.toList.toArray k; rw [Array.toArray_toList]) Db (fun _ h => h) ha hb (by have := M.units; omega) (q _ (by simp))
theorem j_neD {a b : Addr} {xs ys : Array Value} {n k : Nat} {ds es : List Dat} {Q : Value → Shared → Prop} (ma : (a, listOf xs n) ∈ mu ++ nv) (Da : DatAll (mu ++ nv) xs.toList ds) (mb : (b, listOf ys k) ∈ mu ++ nv) (Db : DatAll (mu ++ nv) ys.toList es)
    (ha : ∀ d ∈ ds, kqdOk 8 d = true) (hb : ∀ d ∈ es, kqdOk 8 d = true) (M : Am K d A fe h₀) (S : Sta h₀ L s.heap m mu nv) (q : ∀ b : Bool, (b = true ↔ ¬ ds = es) → Q (.bool b) s) : wp prog w A (compareOp .NotEq (.ref a) (.ref b)) Q s :=
  kqd_ne (ka := n) (kb := k) S.N ma rfl (by show Data.seq xs n = Data.seq xs.toList.toArray n; rw [Array.toArray_toList]) Da (fun _ h => h) mb rfl (by show Data.seq ys k = Data.seq ys.toList.toArray k; rw [Array.toArray_toList]) Db (fun _ h => h) ha hb (by have := M.units; omega) (q _ (by simp))

/-! the dict of the attributes -/
theorem ad_get {o : Obj} {a : Addr} {kvs : List (Str × Value)} {x : Str} {t : Tok} {v : Option Value} {Q : Value → Shared → Prop} (D : AD w a o kvs) (hm : (a, o) ∈ mu ++ nv) (S : Sta h₀ L s.heap m mu nv) (hv : valueAt kvs x = v) (q : Q (v.getD .none) { s with toks := s.toks + 1 }) :
    wp prog w A (call (.builtin "dict.get") [.ref a, .str x t]) Q s := kdg_get1 S.N hm (D.ex prog) D.lo (strKind_is _ _ _ _) v hv q
theorem ad_meth {o : Obj} {a : Addr} {kvs : List (Str × Value)} {pl : Sem Bool} {Q : Value × List Value → Shared → Prop} (D : AD w a o kvs) (hm : (a, o) ∈ mu ++ nv) (S : Sta h₀ L s.heap m mu nv) (q : Q (.builtin "dict.get", [.ref a]) s) :
    wp prog w A (getMethod (.ref a) "get" pl) Q s := kdg_method S.N hm (D.ex prog) q
theorem ad_in {o : Obj} {a : Addr} {kvs : List (Str × Value)} {x : Str} {t : Tok} {Q : Value → Shared → Prop} (b : Bool) (D : AD w a o kvs) (hm : (a, o) ∈ mu ++ nv) (S : Sta h₀ L s.heap m mu nv) (hv : (valueAt kvs x).isSome = b) (q : Q (.bool b) { s with toks := s.toks + 1 }) :
    wp prog w A (compareOp .In (.str x t) (.ref a)) Q s := kda_in S.N hm (D.ex prog) D.lo (strKind_is _ _ _ _) b hv q
theorem ad_nin {o : Obj} {a : Addr} {kvs : List (Str × Value)} {x : Str} {t : Tok} {Q : Value → Shared → Prop} (b : Bool) (D : AD w a o kvs) (hm : (a, o) ∈ mu ++ nv) (S : Sta h₀ L s.heap m mu nv) (hv : (valueAt kvs x).isSome = b) (q : Q (.bool (!b)) { s with toks := s.toks + 1 }) :
    wp prog w A (compareOp .NotIn (.str x t) (.ref a)) Q s := kdg_notin S.N hm (D.ex prog) D.lo (strKind_is _ _ _ _) b hv q
theorem ad_item {value slice : Expr} {o : Obj} {a : Addr} {kvs : List (Str × Value)} {x : Str} {t : Tok} {v : Value} {Q : Value → Shared → Prop} (D : AD w a o kvs) (hm : (a, o) ∈ mu ++ nv) (S : Sta h₀ L s.heap m mu nv) (hv : valueAt kvs x = some v) (q : Q v { s with toks := s.toks + 1 })
    (hs : subscripted slice false (.ref a) (.str x t) = operate [.ref a, .str x t] (getItem (.ref a) (.str x t)) := by with_unfolding_all rfl) (hg : ∀ r, letTemporaryGo value (.ref a) r = pure () := by intro _; with_unfolding_all rfl) :
    wp prog w A (subscriptTail value slice (.ref a) (.str x t)) Q s := kda_item S.N hm (D.ex prog) (strKind_is _ _ _ _) hv q hs hg
theorem ad_set {o : Obj} {a : Addr} {kvs : List (Str × Value)} {x : Str} {t : Tok} {v : Value} {Q : Unit → Shared → Prop} (D : AD w a o kvs) (S : Sta h₀ L s.heap m ((a, o) :: mu) nv) (hz : kvs.length ≤ 100) (q : ∀ h' o', AD w a o' (stored kvs x v) → Sta h₀ L h' m ((a, o') :: mu) nv → Q () { s with heap := h', toks := s.toks + 1 }) :
    wp prog w A (setItem (.ref a) (.str x t) v) Q s :=
  kda_set S.F S.N (UpdF.head S.ne) (D.ex prog) (strKind_is _ _ _ _) (show kvs.length ≤ sizeLine by simp only [sizeLine_eq]; omega) fun h' o' F' N' hd => q h' o' ⟨fun _ => isDict_any hd, D.lo⟩ ⟨F', N', S.D⟩
/-- a display of one key -/
theorem ad_new1 {x : Str} {e : Expr} {k : Nat} {kp pos : Pos} {Q : Value → Shared → Prop} (M : Am K d A fe h₀) (S : Sta h₀ L s.heap m mu nv)
    (h : ∀ a o h' tk, Sta h₀ L h' m ((a, o) :: mu) nv → wp prog w A (eval e env) (fun v s₁ => ∃ mu nv, Sta h₀ L s₁.heap m ((a, o) :: mu) nv ∧ ∀ h' o' tk, AD w a o' [(x, v)] → Sta h₀ L h' m ((a, o') :: mu) nv → Q (.ref a) { s₁ with heap := h', toks := tk }) { s with heap := h', toks := tk }) :
    wp prog w A (eval (.Dict [some (.Constant (.str x) k kp)] [e] pos) env) Q s := by
  refine kdn_str rfl S.F S.N M.nolim rfl rfl (List.cons_ne_nil _ _) (by simp) fun a h' o F' N' lt lo hd => ?_
  refine pairTrees_cons_walk (Constant_str ?_)
  refine wpAny_mono (h a o h' _ (S.cons' F' N' lt)) (fun v s₁ h₁ => ?_) fun _ _ e => e
  obtain ⟨mu, nv, S₁, q⟩ := h₁
  refine pairTrees_nil_walk ?_
  exact kdn_made_str S₁.F S₁.N (UpdF.head S₁.ne) hd rfl (by simp [strPairs]) fun h' o' F' N' hd' => q h' o' _ ⟨fun _ => isDict_any hd', lo⟩ ⟨F', N', S₁.D⟩

/-- a Vector is marked as shared -/
theorem va_share {x : Addr} {kv iv av v : Value} {Q : Unit → Shared → Prop} (V : VecAt nv x kv iv av) (M : Am (KK w) d A fe h₀) (S : Sta h₀ L s.heap m mu nv) (q : ∀ h' nv', Gr nv nv' → Sta h₀ L h' m mu nv' → Q () { s with heap := h', toks := s.toks + 2 }) :
    wp prog w A (setAttr (.ref x) "shared" v) Q s := by
  obtain ⟨dx, o, h1, h2, VD'⟩ := V.ex
  obtain ⟨a, b, rfl⟩ := List.append_of_mem h2
  have hx : (x, instObj 314 dx) ∈ a ++ b := by
    rcases List.mem_append.mp h1 with h | h
    · exact List.mem_append_left _ h
    · rcases List.mem_cons.mp h with h | h
      · exfalso
        obtain ⟨es, n, rfl, _⟩ := VD'.ex
        injection h with _ h3
        exact absurd (congrArg Obj.data h3) (by intro q; cases q)
      · exact List.mem_append_right _ h
  have S' : Sta h₀ L s.heap m ((dx, o) :: mu) (a ++ b) := S.perm (by
    refine List.Perm.trans ?_ (List.Perm.append_left mu (List.perm_middle.symm))
    exact List.perm_middle.symm)
  refine vd_setShared M S' (List.mem_append_right _ hx) VD' (os_shared w) fun h' o' V' S'' => q h' (a ++ (dx, o') :: b) ?_ (S''.perm (by
    refine List.Perm.trans (List.Perm.append_left mu List.perm_middle) ?_
    exact List.perm_middle))
  intro y ob hy
  rcases List.mem_append.mp hy with h | h
  · exact ⟨ob, List.mem_append_left _ h, .inl rfl⟩
  · rcases List.mem_cons.mp h with h | h
    · cases h
      exact ⟨o', List.mem_append_right _ (.head _), .inr ⟨_, _, _, VD', V'⟩⟩
    · exact ⟨ob, List.mem_append_right _ (.tail _ h), .inl rfl⟩
end
end Mine
end
/-! NT -/
section
open AutoSeq1 (wpAny_loadPart')
open MeetsSeq
namespace Mine
theorem fold_range {M : Model} {A : Around} {E : Value → Shared → Prop} {s : Shared} {β : Type} {n : Nat} {b : β} {f : Nat → β → Sem (ForInStep β)} {Q : β → Shared → Prop} (h : wpAny M A (forIn (List.range' 0 n) b f) Q E s) : wpAny M A (forIn [0:min n n] b f) Q E s := by
  rw [Std.Legacy.Range.forIn_eq_forIn_range', Nat.min_self]
  simpa [Std.Legacy.Range.size] using h
theorem range'_cons {i k : Nat} {x : Nat} {rest : List Nat} (h : List.range' i k = x :: rest) : x = i ∧ ∃ k', k = k' + 1 ∧ rest = List.range' (i + 1) k' := by
  cases k with
  | zero => simp at h
  | succ k => simp only [List.range'_succ, List.cons.injEq] at h; exact ⟨h.1.symm, k, rfl, h.2.symm⟩
theorem tuple_index (l : Addr) (items : Array Value) (n : Nat) (x : Value) (e : Value → Bool) (he : ∀ y, y ∈ items → EqGives y x (e y)) (j : Nat) (hj : j < items.size) (hit : e items[j] = true) (hno : ∀ i (hi : i < items.size), i < j → e items[i] = false) :
    Meets (Builtin.«tuple.index» ⟨[.ref l, x], []⟩)
      (fun _ R s => s.heap.get? l = some { cls := .type "tuple", dict := none, data := .seq items n, slots := #[] } ∧ R (.ok (.ret (.int j s.toks))) { s with toks := s.toks + 1 }) :=
  .of_wp fun prog w A R s h => by
    obtain ⟨hp, g, d, tk, os⟩ := s; obtain ⟨hl, h⟩ := h
    wp_walk using wpAny_loadPart' hl
    refine fold_range (M := model prog w) (A := A.in1) (f := fun i __s => match items[i]? with
            | some y => do
              let b ← eqBool y x
              if b = true then do
                  let r ← retInt ↑i
                  pure (ForInStep.done (some r, ()))
                else pure (ForInStep.yield (none, ()))
            | _ => pure (ForInStep.yield (none, ()))) ?_
    refine wpAny_forIn_list _ (fun rest b s' => b = (none, ()) ∧ s' = ⟨hp, g, d, tk, os⟩ ∧ ∃ i k, rest = List.range' i k ∧ i + k = items.size ∧ i ≤ j) _ ?turn ?fin _ _ ⟨rfl, rfl, 0, items.size, rfl, by omega, Nat.zero_le _⟩
    case turn =>
      rintro i rest b s' ⟨rfl, rfl, i', k, e1, e2, e3⟩
      obtain ⟨rfl, k', rfl, rfl⟩ := range'_cons e1.symm
      have hi : i < items.size := by omega
      have hx : items[i]? = some items[i] := by simp [hi]
      dsimp only
      rw [hx]
      refine wpAny_bind (he _ (Array.getElem_mem hi) prog w _ _ _ _ ?_)
      by_cases hij : i = j
      · subst hij
        rw [hit]
        wp_walk
        exact ⟨_, rfl, h⟩
      · rw [hno i hi (by omega)]
        wp_walk
        exact ⟨rfl, rfl, i + 1, k', rfl, by omega, by omega⟩
    case fin =>
      rintro b s' ⟨rfl, rfl, i, k, e1, e2, e3⟩
      exfalso
      cases k with
      | zero => omega
      | succ k => simp [List.range'_succ] at e1
end Mine
namespace Mine
section
variable {prog : Program} {w : World} {K : Frag} {d : Nat} {A : Around} {env fe : Env} {s : Shared} {h₀ h : Heap} {L : Addr} {m : Str → Option Value} {mu nv mu' nv' : Led}
theorem j_inT {l : Addr} {xs : Array Value} {n : Nat} {ys : List Str} {x : Str} {u : Tok} {Q : Value → Shared → Prop} (hm : (l, tupOf xs n) ∈ mu ++ nv) (S : Sta h₀ L s.heap m mu nv) (hi : StrsAre xs.toList ys) (q : Q (.bool (ys.any (· == x))) s) :
    wp prog w A (compareOp .In (.str x u) (.ref l)) Q s := in_tuple_strs ⟨_, S.mem hm, rfl, n, rfl⟩ hi q
theorem j_methT {l : Addr} {xs : Array Value} {n : Nat} {pl : Sem Bool} {Q : Value × List Value → Shared → Prop} (hm : (l, tupOf xs n) ∈ mu ++ nv) (S : Sta h₀ L s.heap m mu nv) (q : Q (.builtin "tuple.index", [.ref l]) s) :
    wp prog w A (getMethod (.ref l) "index" pl) Q s :=
  getMethod_builtin ⟨_, S.mem hm, rfl⟩ PySem.F.plainAttrs_tuple PySem.F.slot_tuple_index PySem.F.type_tuple_index (fun a e => by cases e; exact ⟨_, S.mem hm, rfl⟩) q
theorem j_indexT {l : Addr} {xs : Array Value} {n : Nat} {ys : List Str} {x : Str} {u : Tok} {Q : Value → Shared → Prop} (hm : (l, tupOf xs n) ∈ mu ++ nv) (S : Sta h₀ L s.heap m mu nv) (hi : StrsAre xs.toList ys) (j : Nat) (hj : ys[j]? = some x) (hno : ∀ i < j, ys[i]? ≠ some x)
    (q : Q (.int j s.toks) { s with toks := s.toks + 1 }) : wp prog w A (call (.builtin "tuple.index") [.ref l, .str x u]) Q s := by
  have hl := hi.length
  have hlt : j < ys.length := by
    rcases Nat.lt_or_ge j ys.length with h | h
    · exact h
    · rw [List.getElem?_eq_none h] at hj; cases hj
  have hlt' : j < xs.size := by rw [← Array.length_toList]; omega
  have key : ∀ i (h1 : i < xs.size) (h2 : i < ys.length), isStrOf x xs[i] = (ys[i] == x) := by
    intro i h1 h2
    have := hi.at (j := i) (y := ys[i]) (by simp [h2])
    obtain ⟨t, ht⟩ := this
    have e : xs[i] = .str ys[i] t := by
      have h3 : xs.toList[i]? = some xs[i] := by simp [h1]
      rw [h3] at ht; exact Option.some.inj ht
    rw [e]; rfl
  refine call_meets PySem.F.slot_tuple_index ⟨_, S.mem hm, rfl⟩ PySem.F.entry_tuple_index (PySem.F.args_tuple_index_2 _ _) (tuple_index l xs n (.str x u) (isStrOf x) (fun y hy => eq_isStrOf x u hi y (by simpa using hy)) j hlt' ?_ ?_) ⟨S.mem hm, q⟩
  · rw [key j hlt' hlt]
    have : ys[j] = x := by rw [List.getElem?_eq_getElem hlt] at hj; exact Option.some.inj hj
    simp [this]
  · intro i h1 h2
    rw [key i h1 (by omega)]
    have := hno i h2
    rw [List.getElem?_eq_getElem (by omega)] at this
    simpa using this
theorem j_max {a b : Int} {t u : Tok} {Q : Value → Shared → Prop} (M : Am K d A fe h₀) (S : Sta h₀ L s.heap m mu nv) (q : ∀ h' tk t', Sta h₀ L h' m mu nv → Q (.int (max a b) t') { s with heap := h', toks := tk }) :
    wp prog w A (call (.builtin "max") [.int a t, .int b u]) Q s :=
  max_two_N M.hh S.F S.N fun h' tk F N => by
    have e : (if b > a then b else a) = max a b := by split <;> omega
    rw [e]
    exact q h' tk _ (S.same F N)
end
end Mine
end
/-! NU -/
section
namespace Mine
section
variable {prog : Program} {w : World} {K : Frag} {d : Nat} {A : Around} {env env' fe : Env} {s : Shared} {h₀ h : Heap} {L C : Addr} {m : Str → Option Value} {mu nv mu' nv' : Led} {scope : Scope} {cl : List (Str × Addr)}
theorem relabel_at {env : Env} {k : NameKind} (hk : k ≠ .free) : ∀ {names : List (Str × NameKind)} {x : Str}, names.lookup x = some k →
    (names.map fun (n, k) => if (k == NameKind.free && env.scope.kind == .function && env.kindOf n == some .cell) then (n, NameKind.cell) else (n, k)).lookup x = some k
  | [], _, h => by simp at h
  | (n, k') :: r, x, h => by
    have ih := @relabel_at env k hk r x
    show List.lookup x ((if (k' == NameKind.free && env.scope.kind == .function && env.kindOf n == some .cell) = true then (n, NameKind.cell) else (n, k')) :: _) = _
    cases hx : x == n with
    | true =>
      simp only [List.lookup_cons, hx] at h
      cases h
      have : (k == NameKind.free) = false := by simpa using hk
      simp [List.lookup_cons, hx, this]
    | false =>
      simp only [List.lookup_cons, hx] at h
      by_cases hc : (k' == NameKind.free && env.scope.kind == .function && env.kindOf n == some .cell) = true
      · rw [if_pos hc]; simp only [List.lookup_cons, hx]; exact ih h
      · rw [if_neg hc]; simp only [List.lookup_cons, hx]; exact ih h
theorem relabel_free {env : Env} (hf : env.scope.kind = .function) : ∀ {names : List (Str × NameKind)} {x : Str}, env.kindOf x = some .cell → names.lookup x = some .free →
    (names.map fun (n, k) => if (k == NameKind.free && env.scope.kind == .function && env.kindOf n == some .cell) then (n, NameKind.cell) else (n, k)).lookup x = some .cell
  | [], _, _, h => by simp at h
  | (n, k') :: r, x, hx', h => by
    have ih := @relabel_free env hf r x hx'
    show List.lookup x ((if (k' == NameKind.free && env.scope.kind == .function && env.kindOf n == some .cell) = true then (n, NameKind.cell) else (n, k')) :: _) = _
    cases hx : x == n with
    | true =>
      simp only [List.lookup_cons, hx] at h
      cases h
      have e : x = n := by simpa using hx
      subst e
      simp [List.lookup_cons, hf, hx']
    | false =>
      simp only [List.lookup_cons, hx] at h
      by_cases hc : (k' == NameKind.free && env.scope.kind == .function && env.kindOf n == some .cell) = true
      · rw [if_pos hc]; simp only [List.lookup_cons, hx]; exact ih h
      · rw [if_neg hc]; simp only [List.lookup_cons, hx]; exact ih h
theorem CEnv.kind {x : Str} {k : NameKind} (c : CEnv env env' scope cl C) (h : scope.names.lookup x = some k) (hk : k ≠ .free) : env'.kindOf x = some k := kof c.scope (relabel_at hk h)
theorem CEnv.kindF {x : Str} (c : CEnv env env' scope cl C) (G : EnvG env) (hx : env.kindOf x = some .cell) (h : scope.names.lookup x = some .free) : env'.kindOf x = some .cell := kof c.scope (relabel_free G.k hx h)
theorem CEnv.g (c : CEnv env env' scope cl C) (G : EnvG env) (hk : env'.scope.kind = .function) : EnvG env' := ⟨c.globals.trans G.g, c.builtins.trans G.b, hk⟩
theorem CEnv.glb {x : Str} (c : CEnv env env' scope cl C) (h : scope.names.lookup x = some .globalImplicit) (nd : (x == ("__debug__" : Str)) = false) : IsGlb env' x := ⟨c.kind h (by decide), nd⟩
/-- the block's own name -/
structure CVar (env' : Env) (C : Addr) (oC : Obj) (x : Str) (v : Value) : Prop where
  l : env'.locals = C
  k : env'.kindOf x = some .local
  nd : (x == ("__debug__" : Str)) = false
  i : InC C oC x v
theorem CEnv.var {x : Str} {v : Value} {oC : Obj} (c : CEnv env env' scope cl C) (i : InC C oC x v) (h : scope.names.lookup x = some .local) (nd : (x == ("__debug__" : Str)) = false) : CVar env' C oC x v := ⟨c.locals, c.kind h (by decide), nd, i⟩
theorem ld_cv {x : Str} {pos : Pos} {oC : Obj} {v : Value} {Q : Value → Shared → Prop} (c : CVar env' C oC x v) (G : EnvG env') (S : Sta h₀ L s.heap m mu nv) (hm : (C, oC) ∈ mu ++ nv) (q : Q v s) : wp prog w A (eval (.Name x pos) env') Q s :=
  ld_comp c.l c.k c.nd G c.i S hm q
/-- a name held in a cell -/
structure CCel (env : Env) (x : Str) (c : Addr) : Prop where
  k : env.kindOf x = some .cell
  nd : (x == ("__debug__" : Str)) = false
  nc : (x == ("__classdict__" : Str)) = false
  c : env.cells.lookup x = some c
abbrev celOf (v : Option Value) (o : Obj) : Prop := o.data = .cell v
theorem ld_cl {x : Str} {pos : Pos} {c : Addr} {o : Obj} {v : Value} {Q : Value → Shared → Prop} (cc : CCel env x c) (G : EnvG env) (S : Sta h₀ L s.heap m mu nv) (ho : o.data = .cell (some v)) (hm : (c, o) ∈ mu ++ nv) (q : Q v s) : wp prog w A (eval (.Name x pos) env) Q s :=
  ld_cel (.inl cc.k) cc.nd cc.nc cc.c G S hm ho q
theorem mem_gr {l : Addr} {xs : Array Value} {n : Nat} (g : Gr nv nv') (h : (l, listOf xs n) ∈ mu ++ nv) : (l, listOf xs n) ∈ mu ++ nv' := by
  rcases List.mem_append.mp h with h | h
  · exact List.mem_append_left _ h
  · exact List.mem_append_right _ (g.list h)
theorem NuAt.gr {a : Addr} (g : Gr nv nv') (h : NuAt nv a) : NuAt nv' a := by
  obtain ⟨dx, o, h1, h2, D⟩ := h.ex
  obtain ⟨es, n, t, rfl, e1, e2, e3⟩ := D.ex
  exact ⟨dx, _, g.inst h1, g.dict h2 e3, ⟨es, n, t, rfl, e1, e2, e3⟩⟩
/-- what may be shared -/
noncomputable def Shr (nv : Led) (v : Value) : Prop := (∃ x kv iv av, v = .ref x ∧ VecAt nv x kv iv av) ∨ ∃ x, v = .ref x ∧ NuAt nv x
theorem Shr.gr {v : Value} (g : Gr nv nv') (h : Shr nv v) : Shr nv' v := by
  rcases h with ⟨x, kv, iv, av, e, V⟩ | ⟨x, e, N⟩
  · exact .inl ⟨x, kv, iv, av, e, V.gr g⟩
  · exact .inr ⟨x, e, N.gr g⟩
theorem ChVec.shr {v : Value} {ns : List Str} (h : ChVec nv v ns) : Shr nv v := by
  obtain ⟨a, iv, t, e, V, _⟩ := h
  exact .inl ⟨a, _, _, _, e, V⟩
theorem HIn.shr {v : Value} : ∀ {x : HV}, HIn w nv v x → Shr nv v
  | .null, ⟨a, dx, o, e, h1, h2, h3⟩ => .inr ⟨a, e, ⟨dx, o, h1, h2, h3⟩⟩
  | .vec _ _ _, ⟨a, il, n, xs, av, t, e, V, _⟩ => .inl ⟨a, _, _, _, e, V⟩
theorem HIn.nu {v : Value} (h : HIn w nv v .null) : ∃ a, v = .ref a ∧ NuAt nv a := by
  obtain ⟨a, dx, o, e, h1, h2, h3⟩ := h
  exact ⟨a, e, ⟨dx, o, h1, h2, h3⟩⟩
/-- no names are caught -/
theorem clos_none {scope : Scope} {env : Env} (h : scope.names.all (fun p => p.2 != .free) = true) : closureFor scope env = pure [] := by
  unfold closureFor
  have : ∀ (l : List (Str × NameKind)) (cs : List (Str × Addr)), l.all (fun p => p.2 != .free) = true → (forIn l cs fun (x : Str × NameKind) (r : List (Str × Addr)) => (do if x.2 == .free then (do let a ← cellOf env x.1; pure (ForInStep.yield ((x.1, a) :: r))) else pure (ForInStep.yield r) : Sem (ForInStep (List (Str × Addr))))) = pure cs := by
    intro l
    induction l with
    | nil => intro cs _; rfl
    | cons p l ih =>
      intro cs h
      simp only [List.all_cons, Bool.and_eq_true] at h
      rw [List.forIn_cons]
      have hp : (p.2 == NameKind.free) = false := by simpa using h.1
      rw [hp]
      exact ih cs h.2
  exact (congrArg (fun (t : Sem (List (Str × Addr))) => t >>= pure) (this scope.names [] h)).trans rfl
end
end Mine
end
/-! NW -/
section
namespace Mine
section
variable {prog : Program} {w : World} {K : Frag} {d : Nat} {A : Around} {env env' fe : Env} {s : Shared} {h₀ h : Heap} {L C : Addr} {m : Str → Option Value} {mu nv mu' nv' : Led}
/-- a number (n, m) -/
noncomputable def RatAt (nv : Led) (a : Addr) (n m : Int) : Prop := ∃ k t u, (a, tupOf #[.int n t, .int m u] k) ∈ nv
theorem RatAt.gr {a : Addr} {n m : Int} (g : Gr nv nv') (h : RatAt nv a n m) : RatAt nv' a n m := by
  obtain ⟨k, t, u, h⟩ := h
  exact ⟨k, t, u, g.tup h⟩
theorem ra_n {value slice : Expr} {a : Addr} {n m' : Int} {v : Tok} {Q : Value → Shared → Prop} (R : RatAt nv a n m') (S : Sta h₀ L s.heap m mu nv) (q : ∀ t, Q (.int n t) s)
    (hs : subscripted slice false (.ref a) (.int 0 v) = operate [.ref a, .int 0 v] (getItem (.ref a) (.int 0 v))) (hg : ∀ r, letTemporaryGo value (.ref a) r = pure ()) :
    wp prog w A (subscriptTail value slice (.ref a) (.int 0 v)) Q s := by
  obtain ⟨k, t, u, h⟩ := R
  exact j_itemT (List.mem_append_right _ h) S (by decide) (by decide) rfl (q t) hs hg
theorem ra_m {value slice : Expr} {a : Addr} {n m' : Int} {v : Tok} {Q : Value → Shared → Prop} (R : RatAt nv a n m') (S : Sta h₀ L s.heap m mu nv) (q : ∀ t, Q (.int m' t) s)
    (hs : subscripted slice false (.ref a) (.int 1 v) = operate [.ref a, .int 1 v] (getItem (.ref a) (.int 1 v))) (hg : ∀ r, letTemporaryGo value (.ref a) r = pure ()) :
    wp prog w A (subscriptTail value slice (.ref a) (.int 1 v)) Q s := by
  obtain ⟨k, t, u, h⟩ := R
  exact j_itemT (List.mem_append_right _ h) S (by decide) (by decide) rfl (q u) hs hg
theorem j_abs {a : Int} {t : Tok} {Q : Value → Shared → Prop} (q : ∀ u tk, Q (.int (a.natAbs : Int) u) { s with toks := tk }) : wp prog w A (call (.builtin "abs") [.int a t]) Q s :=
  call_abs_int fun u tk => by
    have e : (if a < 0 then -a else a) = (a.natAbs : Int) := by split <;> omega
    rw [e]; exact q u tk
theorem bits_le {x : Int} {k : Nat} (h : x.natAbs < 2 ^ k) : Builtin.Int.intBits x ≤ k := by
  unfold Builtin.Int.intBits
  split
  · omega
  · rename_i h0
    have h1 : x.natAbs ≠ 0 := by simpa using h0
    have := (Nat.log2_lt h1).mpr h
    omega
theorem j_mulL {a b : Int} {t u : Tok} {Q : Value → Shared → Prop} (h : a.natAbs < 2 ^ 60) (q : Q (.int (a * b) s.toks) { s with toks := s.toks + 1 }) : wp prog w A (binaryOp .Mult (.int a t) (.int b u)) Q s :=
  PyProof.Rows.mul_int q (.of_left (Nat.le_trans (bits_le h) (by decide)))
theorem j_mulR {a b : Int} {t u : Tok} {Q : Value → Shared → Prop} (h : b.natAbs < 2 ^ 60) (q : Q (.int (a * b) s.toks) { s with toks := s.toks + 1 }) : wp prog w A (binaryOp .Mult (.int a t) (.int b u)) Q s :=
  PyProof.Rows.mul_int q (.of_right (Nat.le_trans (bits_le h) (by decide)))
theorem j_pow10 {n : Int} {t u : Tok} {Q : Value → Shared → Prop} (h0 : 0 ≤ n) (h1 : n ≤ 1000) (q : Q (.int (10 ^ n.toNat) s.toks) { s with toks := s.toks + 1 }) : wp prog w A (binaryOp .Pow (.int 10 t) (.int n u)) Q s :=
  PyProof.Rows.pow_int h0 (by have e : Builtin.Int.intBits 10 = 4 := by decide +kernel
                              rw [e]; omega) q
end
end Mine
namespace Mine
open PySem
theorem int_log2 {n : Int} (h : n.natAbs < 10 ^ 18) : n.natAbs.log2 < 1920 := by
  by_cases h0 : n.natAbs = 0
  · rw [h0]; decide
  · have : n.natAbs.log2 < 60 := (Nat.log2_lt h0).mpr (by omega)
    omega
theorem join_one (x : Str) : Txt.join (Str.ofString "") [x] = x := by
  rfl
theorem int_len {n : Int} (h : n.natAbs < 10 ^ 18) : (Str.ofString (toString n)).length ≤ 19 := by
  have := int_text_length_le10 (k := 18) (by decide) h
  rw [PySem.ofString_length]
  exact this
end Mine
namespace Mine
section
variable {prog : Program} {w : World} {K : Frag} {d : Nat} {A : Around} {env env' fe : Env} {s : Shared} {h₀ h : Heap} {L C : Addr} {m : Str → Option Value} {mu nv mu' nv' : Led}
theorem Sta.ext {h' : Heap} (S : Sta h₀ L h m mu nv) (he : Heap.ExtBut h.objs.size h h') : Sta h₀ L h' m mu nv := ⟨S.F.extBut he (Nat.le_refl _), S.N.extBut he (Nat.le_refl _), S.D⟩
/-- what the line of three names asks -/
inductive Asg3s (prog : Program) (w : World) (A : Around) (h₀ : Heap) (L : Addr) (m : Str → Option Value) (env : Env) (x y z : Str) (rest : List Stmt) (Q : Flow → Shared → Prop) (v : Value) (s₁ : Shared) : Prop
  | mk (t : Addr) (k : Nat) (a b c : Value) (mu nv : Led) (e : v = .ref t) (hm : (t, tupOf #[a, b, c] k) ∈ mu ++ nv) (S : Sta h₀ L s₁.heap m mu nv)
      (q : ∀ h', Sta h₀ L h' m mu nv → wp prog w A (storeName env x a) (fun _ s₂ => wp prog w A (storeName env y b) (fun _ s₃ => wp prog w A (storeName env z c) (fun _ s₄ => wp prog w A (execs rest env) Q s₄) s₃) s₂) { s₁ with heap := h' }) : Asg3s prog w A h₀ L m env x y z rest Q v s₁
theorem x_asg3 {x y z : Str} {px py pz tp pos : Pos} {j : Nat} {value : Expr} {rest : List Stmt} {Q : Flow → Shared → Prop} (M : Am K d A fe h₀)
    (h : wp prog w A (eval value env) (Asg3s prog w A h₀ L m env x y z rest Q) s)
    (hs : swapsWithSole [.Tuple [.Name x px, .Name y py, .Name z pz] j tp] value pos.line env = pure false := by rfl)
    (hw : swappedStores [.Tuple [.Name x px, .Name y py, .Name z pz] j tp] value env = pure none := by rfl) :
    wp prog w A (execs (.Assign [.Tuple [.Name x px, .Name y py, .Name z pz] j tp] value pos :: rest) env) Q s := by
  refine x_cons (Assign_Tuple (wpAny_mono h (fun v s₁ h₁ => ?_) fun _ _ e => e) hs hw)
  obtain ⟨t, k, a, b, c, mu, nv, rfl, hm, S, q⟩ := h₁
  rw [assign_Tuple]
  refine wpAny_bind (wpAny_standAt ?_)
  refine unpack_tuple (items := #[a, b, c]) M.hh ⟨_, S.mem hm, rfl, k, rfl⟩ rfl rfl fun h' he => ?_
  have q' := q h' (S.ext he)
  show wpAny _ A (assignInOrder [assign (.Name x px) env, assign (.Name y py) env, assign (.Name z pz) env] [a, b, c]) _ _ _
  show wpAny _ A (do holding [b, c] (assign (.Name x px) env a); holding [c] (assign (.Name y py) env b); holding [] (assign (.Name z pz) env c); pure ()) _ _ _
  refine wpAny_bind (wpAny_holding (PyProof.Rows.assign_Name (wpAny_mono q' (fun _ s₂ h₂ => ?_) fun _ _ e => e)))
  refine wpAny_bind (wpAny_holding (PyProof.Rows.assign_Name (wpAny_mono h₂ (fun _ s₃ h₃ => ?_) fun _ _ e => e)))
  refine wpAny_bind (wpAny_holding (PyProof.Rows.assign_Name (wpAny_mono h₃ (fun _ s₄ h₄ => ?_) fun _ _ e => e)))
  exact wpAny_pure (x_next h₄)
end
end Mine
namespace Mine
section
variable {prog : Program} {w : World} {K : Frag} {d : Nat} {A : Around} {env env' fe : Env} {s : Shared} {h₀ h : Heap} {L C : Addr} {m : Str → Option Value} {mu nv mu' nv' : Led} {value slice : Expr} {x : Str} {t : Tok} {Q : Value → Shared → Prop}
theorem j_slns {j : Int} {uj : Tok} (S : Sta h₀ L s.heap m mu nv) (hz : x.length ≤ 1000) (q : ∀ h' t' k, Sta h₀ L h' m mu nv → Q (.str (Txt.slice x none (some j)) t') { s with heap := h', toks := k })
    (hs : subscripted slice false (.str x t) (.ref s.heap.objs.size) = operate [.ref s.heap.objs.size, .str x t] (getItem (.str x t) (.ref s.heap.objs.size)) := by with_unfolding_all rfl)
    (ht : ∀ r, letTemporaryGo value (.str x t) r = pure () := by intro _; with_unfolding_all rfl) :
    wp prog w A (subscriptTail value slice (.str x t) (.ref s.heap.objs.size)) Q { s with heap := s.heap.push { cls := .type "slice", data := .fields #[.none, .int j uj, .none] } } :=
  slice_strN_ns S.F S.N (fun h' t' k F N => q h' t' k (S.same F N)) hs ht (by rw [sizeLine_eq]; omega)
theorem j_slsn {i : Int} {ui : Tok} (S : Sta h₀ L s.heap m mu nv) (hz : x.length ≤ 1000) (q : ∀ h' t' k, Sta h₀ L h' m mu nv → Q (.str (Txt.slice x (some i) none) t') { s with heap := h', toks := k })
    (hs : subscripted slice false (.str x t) (.ref s.heap.objs.size) = operate [.ref s.heap.objs.size, .str x t] (getItem (.str x t) (.ref s.heap.objs.size)) := by with_unfolding_all rfl)
    (ht : ∀ r, letTemporaryGo value (.str x t) r = pure () := by intro _; with_unfolding_all rfl) :
    wp prog w A (subscriptTail value slice (.str x t) (.ref s.heap.objs.size)) Q { s with heap := s.heap.push { cls := .type "slice", data := .fields #[.int i ui, .none, .none] } } :=
  slice_strN_sn S.F S.N (fun h' t' k F N => q h' t' k (S.same F N)) hs ht (by rw [sizeLine_eq]; omega)
theorem j_rjust {i : Int} {u v : Tok} (h0 : 0 ≤ i) (h1 : i ≤ 1000) (q : ∀ t' k, Q (.str (Txt.rjustF x i 48) t') { s with toks := k }) : wp prog w A (call (.builtin "str.rjust") [.str x t, .int i u, .str "0" v]) Q s :=
  rjust_fill (by unfold PadOk fitsSsize; simp [PySem.Builtin.Str.tooLong, sizeLine_eq]; omega) rfl q
theorem len_rjustF {i : Int} {c : Nat} : (Txt.rjustF x i c).length ≤ i.toNat + x.length := by
  have := congrArg List.length (rjustF_list x i c)
  rw [List.length_append, List.length_replicate, Array.length_toList, Array.length_toList] at this
  show (Txt.rjustF x i c).cps.size ≤ i.toNat + x.cps.size
  rw [this]
  have h2 : x.length = x.cps.size := rfl
  omega
end
end Mine
end
/-! NY -/
section
namespace Mine
section
variable {prog : Program} {w : World} {K : Frag} {d : Nat} {A : Around} {env env' fe : Env} {s : Shared} {h₀ h : Heap} {L C : Addr} {m : Str → Option Value} {mu nv mu' nv' mu₀ nv₀ : Led}
theorem x_asg3' {x y z : Str} {px py pz tp pos : Pos} {j : Nat} {value : Expr} {rest : List Stmt} {Q : Flow → Shared → Prop} (M : Am K d A fe h₀) (_S : Sta h₀ L s.heap m mu₀ nv₀)
    (h : wp prog w A (eval value env) (Asg3s prog w A h₀ L m env x y z rest Q) s)
    (hs : swapsWithSole [.Tuple [.Name x px, .Name y py, .Name z pz] j tp] value pos.line env = pure false := by rfl)
    (hw : swappedStores [.Tuple [.Name x px, .Name y py, .Name z pz] j tp] value env = pure none := by rfl) :
    wp prog w A (execs (.Assign [.Tuple [.Name x px, .Name y py, .Name z pz] j tp] value pos :: rest) env) Q s := x_asg3 M h hs hw
end
end Mine
namespace Mine
/-- the binds that are no cells -/
noncomputable def keepL (kindOf : Str → Option NameKind) (binds : List (Str × Value)) : List (Str × Value) := binds.filter fun p => kindOf p.1 == some .local
theorem bindL_keep (kindOf : Str → Option NameKind) : ∀ (binds : List (Str × Value)) (m : Str → Option Value), bindL kindOf binds m = fun y => ((keepL kindOf binds).reverse.lookup y).or (m y)
  | [], m => by funext y; rfl
  | (n, v) :: r, m => by
    show bindL kindOf r (if kindOf n = some .local then fun y => if y = n then some v else m y else m) = _
    rw [bindL_keep kindOf r]
    funext y
    by_cases h : kindOf n = some .local
    · rw [if_pos h]
      have e : keepL kindOf ((n, v) :: r) = (n, v) :: keepL kindOf r := by unfold keepL; rw [List.filter_cons, if_pos (by simpa using h)]
      rw [e, List.reverse_cons, lookup_app]
      by_cases hy : y = n
      · subst hy; simp [List.lookup_cons]
      · have hy' : (y == n) = false := by simpa using hy
        simp [List.lookup_cons, hy', hy]
    · rw [if_neg h]
      have e : keepL kindOf ((n, v) :: r) = keepL kindOf r := by unfold keepL; rw [List.filter_cons, if_neg (by simpa using h)]
      rw [e]
theorem hm_cells {kindOf : Str → Option NameKind} {binds : List (Str × Value)} {ns more : List Str} {vals : List Value} {k : Nat} (e : keepL kindOf binds = ns.zip vals) (hl : ns.length = vals.length) (hn : ns.Nodup) :
    bindL kindOf binds (fun _ => none) = mV (ns ++ more) (vals.map some ++ List.replicate k none) := by
  rw [bindL_keep, e, ← binds_mV hl hn]
  funext y
  simp
end Mine
namespace Mine
section
variable {prog : Program} {w : World} {K : Frag} {d : Nat} {A : Around} {env env' fe : Env} {s : Shared} {h₀ h : Heap} {L C : Addr} {m : Str → Option Value} {mu nv mu' nv' mu₀ nv₀ : Led}
theorem cells1 {cm : Str → Option Value} {n : Str} {c : Addr} {cells : Led} (Y : CellsAre cm [(n, c)] cells) : ∃ o, o.data = .cell (cm n) ∧ cells = [(c, o)] := by
  cases Y with
  | cons h r => cases r; exact ⟨_, h, rfl⟩
theorem cells2 {cm : Str → Option Value} {n n2 : Str} {c c2 : Addr} {cells : Led} (Y : CellsAre cm [(n, c), (n2, c2)] cells) : ∃ o o2, o.data = .cell (cm n) ∧ o2.data = .cell (cm n2) ∧ cells = [(c, o), (c2, o2)] := by
  cases Y with
  | cons h r => obtain ⟨o2, h2, rfl⟩ := cells1 r; exact ⟨_, _, h, h2, rfl⟩
theorem cells3 {cm : Str → Option Value} {n n2 n3 : Str} {c c2 c3 : Addr} {cells : Led} (Y : CellsAre cm [(n, c), (n2, c2), (n3, c3)] cells) : ∃ o o2 o3, o.data = .cell (cm n) ∧ o2.data = .cell (cm n2) ∧ o3.data = .cell (cm n3) ∧ cells = [(c, o), (c2, o2), (c3, o3)] := by
  cases Y with
  | cons h r => obtain ⟨o2, o3, h2, h3, rfl⟩ := cells2 r; exact ⟨_, _, _, h, h2, h3, rfl⟩
theorem st_cl {x : Str} {c : Addr} {o : Obj} {v₀ : Option Value} {v : Value} {Q : Unit → Shared → Prop} (cc : CCel env x c) (G : EnvG env) (S : Sta h₀ L s.heap m ((c, o) :: mu) nv) (ho : o.data = .cell v₀)
    (q : ∀ h' o', o'.data = .cell (some v) → Sta h₀ L h' m ((c, o') :: mu) nv → Q () { s with heap := h' }) : wp prog w A (storeName env x v) Q s := st_cel cc.k cc.c G S ho q
theorem CompTurn.if1 {scope : Scope} {cl : List (Str × Addr)} {x : Str} {elt c : Expr} {J : Nat → List Value → Led → Led → Prop} {n : Nat} {P : Nat → Value → Prop}
    (H : ∀ I i v acc mu nv C oC D k io' env' h tk, let Q' := (fun y s₄ => CompEnd h₀ L m (C, oC) (D, listOf acc.toArray k) (I, io') (J (i + 1) (acc ++ [y])) { s with heap := h, toks := tk } s₄); let Q'' := (fun s₃ => CompEnd h₀ L m (C, oC) (D, listOf acc.toArray k) (I, io') (J (i + 1) acc) { s with heap := h, toks := tk } s₃); i < n → P i v → J i acc mu nv → acc.length ≤ i → CEnv env env' scope cl C → env'.scope.kind = .function → InC C oC x v → Sta h₀ L h m ((C, oC) :: (D, listOf acc.toArray k) :: (I, io') :: mu) nv →
      wp prog w A (isTrue c env' (eval c env')) (fun ok s₃ => if ok = true
        then wp prog w A (eval elt env') Q' s₃
        else Q'' s₃) { s with heap := h, toks := tk }) :
    CompTurn prog w A h₀ L m env scope cl x elt [c] J n P s := fun I i v acc mu nv C oC D k io' env' h tk a b c' d e f g S => by
  rw [List.forIn_cons]
  refine wpAny_bind ?_
  rw [if_pos rfl]
  refine wpAny_bind (wpAny_mono (H I i v acc mu nv C oC D k io' env' h tk a b c' d e f g S) (fun ok s₃ h₃ => ?_) fun _ _ e => e)
  refine wpAny_pure ?_
  dsimp only
  rw [List.forIn_nil]
  exact wpAny_pure h₃
end
end Mine
namespace Mine
theorem swaps_loc {env : Env} {vr : List Str} {y : Str} {ix : Nat} {elt : Expr} {gs : List Comprehension} {scope : Scope} {pos py : Pos} {line : Nat} (G : EnvG env) (ny : IsLoc env vr y ix) (h1 : (py.line == pos.line) = true) (h2 : (scope.names.any fun (n, k) => n == y && (k == .local || k == .cell)) = false) :
    swapsWith (.ListComp elt gs scope pos) (some (.Name y py)) line env = pure true := by
  show (pure (env.blockKind == .function && env.kindOf y == some .local && py.line == pos.line && !(scope.names.any fun (n, k) => n == y && (k == .local || k == .cell))) : Sem Bool) = pure true
  have e : env.blockKind = .function := by
    unfold Env.blockKind
    have := G.k
    simp [this]
  rw [e, ny.kind, h1, h2]
  rfl
theorem swaps_cell {env : Env} {y : Str} {elt : Expr} {gs : List Comprehension} {scope : Scope} {pos py : Pos} {line : Nat} (h : env.kindOf y = some .cell) :
    swapsWith (.ListComp elt gs scope pos) (some (.Name y py)) line env = pure false := by
  show (pure (env.blockKind == .function && env.kindOf y == some .local && py.line == pos.line && !(scope.names.any fun (n, k) => n == y && (k == .local || k == .cell))) : Sem Bool) = pure false
  rw [h, show ((some NameKind.cell == some NameKind.local) = false) from rfl, Bool.and_false, Bool.false_and, Bool.false_and]
end Mine
namespace Mine
theorem clos_list {scope : Scope} {env : Env} (fs : List (Str × Addr)) (h : (scope.names.filter (fun p => p.2 == .free)).map (·.1) = fs.map (·.1)) (hc : ∀ p ∈ fs, env.cells.lookup p.1 = some p.2) : closureFor scope env = pure fs.reverse := by
  unfold closureFor
  have key : ∀ (l : List (Str × NameKind)) (cs fs : List (Str × Addr)), (l.filter (fun p => p.2 == .free)).map (·.1) = fs.map (·.1) → (∀ p ∈ fs, env.cells.lookup p.1 = some p.2) →
      (forIn l cs fun (x : Str × NameKind) (r : List (Str × Addr)) => (do if x.2 == .free then (do let a ← cellOf env x.1; pure (ForInStep.yield ((x.1, a) :: r))) else pure (ForInStep.yield r) : Sem (ForInStep (List (Str × Addr))))) = pure (fs.reverse ++ cs) := by
    intro l
    induction l with
    | nil =>
      intro cs fs h _
      cases fs with
      | nil => rfl
      | cons => simp at h
    | cons p l ih =>
      intro cs fs h hc
      rw [List.forIn_cons]
      by_cases hp : (p.2 == NameKind.free) = true
      · rw [List.filter_cons, if_pos hp] at h
        cases fs with
        | nil => simp at h
        | cons f fs =>
          simp only [List.map_cons, List.cons.injEq] at h
          have h1 := hc f (.head _)
          rw [hp, if_pos rfl]
          have e : cellOf env p.1 = pure f.2 := by
            unfold cellOf
            rw [h.1, h1]
          rw [e]
          have e2 : (p.1, f.2) = f := by rw [h.1]
          have := ih (f :: cs) fs h.2 fun q hq => hc q (.tail _ hq)
          rw [List.reverse_cons, List.append_assoc, ← e2]
          rw [← e2] at this
          exact this
      · rw [List.filter_cons, if_neg hp] at h
        rw [if_neg hp]
        exact ih cs fs h hc
  have := key scope.names [] fs h hc
  rw [List.append_nil] at this
  exact (congrArg (fun (t : Sem (List (Str × Addr))) => t >>= pure) this).trans rfl
end Mine
end
/-! NZ -/
section
namespace Mine
section
variable {prog : Program} {w : World} {A : Around} {env : Env} {s : Shared}
theorem x_setI {o i value : Expr} {pos' pos : Pos} {rest : List Stmt} {Q : Flow → Shared → Prop}
    (h : wp prog w A (eval value env) (fun v s₁ => wp prog w A (eval o env) (fun ov s₂ => wp prog w A (eval i env) (fun iv s₃ => wp prog w A (setItem ov iv v) (fun _ s₄ => wp prog w A (execs rest env) Q s₄) s₃) s₂) s₁) s)
    (hs : swapsWith value (some (.Subscript o i pos')) pos.line env = pure false := by rfl) : wp prog w A (execs (.Assign [.Subscript o i pos'] value pos :: rest) env) Q s := x_cons (wpAny_Assign_Subscript h hs)
end
section
variable {prog : Program} {w : World} {K : Frag} {d : Nat} {A : Around} {env fe : Env} {s : Shared} {h₀ h : Heap} {L : Addr} {m : Str → Option Value} {mu nv mu' nv' : Led} {vr : List Str} {vs : List (Option Value)}
/-- an if whose test says what is known -/
theorem x_ifB (b : Bool) {test : Expr} {body orelse : List Stmt} {pos : Pos} {rest : List Stmt} {Q : Flow → Shared → Prop} (S : Sta h₀ L s.heap m mu nv)
    (ht : wp prog w A (isTrue test env (eval test env)) (fun b' s' => b' = b ∧ ∃ h' tk, s' = { s with heap := h', toks := tk } ∧ Sta h₀ L h' m mu nv) s)
    (hT : b = true → ∀ h' tk, Sta h₀ L h' m mu nv → wp prog w A (execs body env) (thenK prog w A rest env Q) { s with heap := h', toks := tk })
    (hF : b = false → ∀ h' tk, Sta h₀ L h' m mu nv → wp prog w A (execs orelse env) (thenK prog w A rest env Q) { s with heap := h', toks := tk }) :
    wp prog w A (execs (.If test body orelse pos :: rest) env) Q s := by
  refine x_if (wpAny_mono ht (fun b' s' h => ?_) fun _ _ e => e)
  obtain ⟨rfl, h', tk, rfl, S'⟩ := h
  cases b' with
  | true => exact ite_t (hT rfl h' tk S')
  | false => exact ite_f (hF rfl h' tk S')
end
/-- where this stands in the context an if is taken by hand -/
structure HoldIf : Prop where
  mk ::
theorem h_if {prog : Program} {w : World} {A : Around} {env : Env} {s : Shared} {t : Expr} {b o rest : List Stmt} {p : Pos} {Q : Flow → Shared → Prop} (hold : HoldIf) (h : Halt (wp prog w A (execs (.If t b o p :: rest) env) Q s)) : wp prog w A (execs (.If t b o p :: rest) env) Q s := h.out
theorem h_ife {prog : Program} {w : World} {A : Around} {env : Env} {s : Shared} {t b o : Expr} {p : Pos} {Q : Value → Shared → Prop} (hold : HoldIf) (h : Halt (wp prog w A (eval (.IfExp t b o p) env) Q s)) : wp prog w A (eval (.IfExp t b o p) env) Q s := h.out

/-- a contract under a word of what stood before -/
noncomputable def SpecZ (Z : Heap → Prop) (K : Frag) (w : World) (d : Nat) (f : Value) (args : List Value) (mu nv : Led) (Post : Value → Led → Led → Prop) : Prop :=
  ∀ (prog : Program) (A : Around) (fe : Env) (h₀ : Heap) (m : Str → Option Value) (s : Shared) (Q : Value → Shared → Prop), Z h₀ → Am K d A fe h₀ → Sta h₀ fe.locals s.heap m mu nv →
    (∀ v h' tk mu' nv', Sta h₀ fe.locals h' m mu' nv' → Post v mu' nv' → Q v { s with heap := h', toks := tk }) → wp prog w A (call f args) Q s
theorem Spec.plainZ {w : World} {K : Frag} {d : Nat} {mu nv : Led} {vr : List Str} {vs : List (Option Value)} {Post : Value → Led → Led → Prop}
    {name qual : Str} {params : Arguments} {body : List Stmt} {scope : Scope} {dV kV doc pm cdv ct oc : Value} {an od : Option Addr} {osl : Array (Option Value)} {f : Addr} {binds : List (Str × Value)} {Z : Heap → Prop} {vals : List Value}
    (hZ : ∀ h h' : Heap, h.StaysIn h' → Z h → Z h') (ho : K.lookup f = some ⟨oc, od, .func (fnX name qual params body scope [] dV kV doc pm an cdv ct), osl⟩) (hcd : codeIn K cdv qual = true)
    (hbind : ∀ s : Shared, K.In s.heap → BindsTo s (fnX name qual params body scope [] dV kV doc pm an cdv ct) ⟨vals, []⟩ binds) (hloc : ∀ y ∈ binds, scope.names.lookup y.1 = some .local)
    (hm : (fun y => binds.reverse.lookup y) = mV vr vs) (hcell : ∀ x ∈ scope.names, x.2 ≠ .cell) (hco : scope.isCoroutine = false) (hgen : scope.isGenerator = false) (hk : scope.kind = .function)
    (B : ∀ (prog : Program) (A : Around) (env : Env) (g : Heap) (s : Shared) (Q : Flow → Shared → Prop), Z g → env.scope = scope → EnvG env → Am K d A env g → Sta g env.locals s.heap (mV vr vs) mu nv →
      (∀ fl h' tk m' mu' nv', Sta g env.locals h' m' mu' nv' → Post (retOf fl) mu' nv' → Q fl { s with heap := h', toks := tk }) → wp prog w A (execs body env) Q s) :
    SpecZ Z K w (d + 1) (.ref f) vals mu nv Post := by
  intro prog A fe h₀ m s Q z M S q
  refine wpAny_call ?_
  obtain ⟨A₀, base, outer, Bl, hA⟩ := M.below
  obtain ⟨p, loose, mean, mg, mb, T⟩ := M.top
  have hd := M.depth
  have hu := M.units
  refine callX_plain Bl S.F S.N T.nolimit hA M.ff M.fk (M.inS S _ _ ho) rfl (codeRec_of (M.inS S) hcd) (by omega) (hbind s (M.inS S)) hloc (fun g L' h₁ FG F' N' B' st _ => ?_) hcell hco hgen hk
  refine wpAny_mono (B prog _ (envX qual scope L' f cdv []) g _ _ (hZ _ _ st z) rfl ⟨rfl, rfl, hk⟩ ⟨⟨_, _, _, B', Around.frames_deeper hA⟩, M.X.keeps st, ⟨_, _, _, _, _, T.keeps st⟩, rfl, hk, by rw [depth_deeper]; omega, by rw [units_deeper]; omega, M.hh⟩
    ⟨by rw [← hm]; exact F', N', S.D⟩ fun fl h' tk m' mu' nv' S' P' => ?_) (fun _ _ x => x) fun _ _ x => x.elim
  refine leaveK_ S'.F S'.N fun F N => ?_
  have z := q _ _ tk _ _ ⟨F, N, S'.D⟩ P'
  cases fl <;> exact z
section
variable {prog : Program} {w : World} {K : Frag} {d : Nat} {A : Around} {env fe : Env} {s : Shared} {h₀ h : Heap} {L : Addr} {m : Str → Option Value} {mu nv mu' nv' : Led}
theorem j_lsl {value slice : Expr} {l : Addr} {items : Array Value} {b : Nat} {u : Tok} {Q : Value → Shared → Prop} (hl : s.heap.IsList l items) (hz : items.size ≤ sizeLine) (S : Sta h₀ L s.heap m mu nv) (q : ∀ D h', Sta h₀ L h' m ((D, listOf (items.toList.take b).toArray 0) :: mu) nv → Q (.ref D) { s with heap := h' })
    (hs : subscripted slice false (.ref l) (.ref s.heap.objs.size) = operate [.ref s.heap.objs.size, .ref l] (getItem (.ref l) (.ref s.heap.objs.size)) := by with_unfolding_all rfl)
    (ht : ∀ r, letTemporaryGo value (.ref l) r = pure () := by intro _; with_unfolding_all rfl) :
    wp prog w A (subscriptTail value slice (.ref l) (.ref s.heap.objs.size)) Q { s with heap := s.heap.push { cls := .type "slice", data := .fields #[.none, .int (b : Nat) u, .none] } } := by
  refine slice_listK (lo := none) (hi := some (b : Nat)) hl .none (.int _ _) ?_ hs ht hz
  rw [slicePick_upto']
  have S1 := ((S.push { cls := .type "slice", data := .fields #[.none, .int (b : Nat) u, .none] }).drop.push (listOf (items.toList.take b).toArray 0))
  rw [Heap.size_push] at S1
  exact q _ _ S1
end
section
variable {prog : Program} {w : World} {K : Frag} {d : Nat} {A : Around} {env fe : Env} {s : Shared} {h₀ h : Heap} {L : Addr} {m : Str → Option Value} {mu nv mu' nv' : Led} {vr : List Str} {vs : List (Option Value)}
/-- what it asks once its source is there -/
inductive ForEs (prog : Program) (w : World) (A : Around) (h₀ : Heap) (env : Env) (vr : List Str) (ix : Nat) (body rest : List Stmt) (Q : Flow → Shared → Prop) (xv : Value) (s₁ : Shared) : Prop
  | mk (J : Nat → List (Option Value) → Led → Led → Prop) (l : Addr) (items : Array Value) (k : Nat) (vs : List (Option Value)) (mu nv : Led) (e : xv = .ref l) (hJl : ∀ i vs mu nv, J i vs mu nv → vs.length = vr.length) (S : Sta h₀ env.locals s₁.heap (mV vr vs) mu nv) (j : J 0 vs mu nv) (hl : s₁.heap.get? l = some (listOf items k)) (hst : ∀ i vs mu nv, i ≤ items.size → J i vs mu nv → (l, listOf items k) ∈ mu ++ nv)
      (turn : ∀ I i v vs mu nv io h tk, let Q' := ForQ h₀ env vr (I, io) (J (i + 1)) (thenK prog w A rest env Q) { s₁ with heap := h, toks := tk }; i < items.size → items[i]? = some v → J i vs mu nv → Sta h₀ env.locals h (mV vr (vs.set ix (some v))) ((I, io) :: mu) nv → wp prog w A (execs body env) Q' { s₁ with heap := h, toks := tk })
      (done : ∀ vs mu nv h tk, J items.size vs mu nv → Sta h₀ env.locals h (mV vr vs) mu nv → wp prog w A (execs rest env) Q { s₁ with heap := h, toks := tk }) : ForEs prog w A h₀ env vr ix body rest Q xv s₁
/-- a loop over a list that its own head makes -/
theorem x_forE {x : Str} {ix : Nat} {px pos : Pos} {iter : Expr} {body rest : List Stmt} {Q : Flow → Shared → Prop} (nx : IsLoc env vr x ix) (G : EnvG env) (M : Am K d A fe h₀)
    (h : wp prog w A (eval iter env) (ForEs prog w A h₀ env vr ix body rest Q) s)
    (hs : ∀ x, foldedSetIterable iter env x = pure x := by intro _; rfl) : wp prog w A (execs (.For (.Name x px) iter body [] pos :: rest) env) Q s := by
  refine x_cons (wpAny_For (wpAny_mono h (fun xv s₁ h₁ => ?_) fun _ _ e => e) hs)
  obtain ⟨J, l, items, k, vs, mu, nv, rfl, hJl, S, hj, hl, hst, turn, done⟩ := h₁
  have hil : s₁.heap.IsList l items := ⟨_, hl, rfl, k, rfl⟩
  refine wpAny_pyIter_list hil ?_
  have hne : l ≠ s₁.heap.objs.size := Nat.ne_of_lt (Heap.lt_size hl)
  refine codeAny_mono (for_core J nx G (Src.list M.hh s₁.heap.objs.size l hne items) (S.push _) ⟨⟨_, Heap.get?_push_size _ rfl, rfl, rfl⟩, hil.at fun o e => Heap.get?_push_of_some _ e⟩ ?_ hj hJl
    (fun i v vs mu nv io h tk hi hP hJ S' => turn s₁.heap.objs.size i v vs mu nv io h tk hi hP hJ S') (fun vs mu nv h tk hJ S' => x_next (done vs mu nv h tk hJ S'))) ?_
  · intro b hb
    rcases List.mem_cons.mp hb with rfl | hb
    · exact .inl rfl
    · rw [List.mem_singleton.mp hb]
      exact .inr ⟨_, Heap.get?_push_of_some _ hl, .inr hst⟩
  · intro r s' hr
    cases r with
    | ok f => exact hr
    | error e => exact hr.elim
end
theorem Sta.pull {h₀ h : Heap} {L : Addr} {m : Str → Option Value} (a : Led) {p : Addr × Obj} {b nv : Led} (S : Sta h₀ L h m (a ++ p :: b) nv) : Sta h₀ L h m (p :: (a ++ b)) nv :=
  S.perm (List.Perm.append_right nv List.perm_middle.symm)
theorem Sta.unpull {h₀ h : Heap} {L : Addr} {m : Str → Option Value} (a : Led) {p : Addr × Obj} {b nv : Led} (S : Sta h₀ L h m (p :: (a ++ b)) nv) : Sta h₀ L h m (a ++ p :: b) nv :=
  S.perm (List.Perm.append_right nv List.perm_middle)
theorem Sta.keepM {h₀ h : Heap} {L : Addr} {m : Str → Option Value} {p q : Addr × Obj} {mu nv : Led} (S : Sta h₀ L h m (p :: mu) nv) (hq : q ∈ nv) : Sta h₀ L h m mu (p :: nv) ∧ q ∈ p :: nv := ⟨S.keep1, .tail _ hq⟩
theorem Gr.cell {nv nv' : Led} (g : Gr nv nv') {a : Addr} {o : Obj} {v : Option Value} (h : (a, o) ∈ nv) (hd : o.data = .cell v) : (a, o) ∈ nv' := by
  obtain ⟨o', h1, e⟩ := g _ _ h
  rcases e with rfl | ⟨_, _, _, h2, _⟩
  · exact h1
  · obtain ⟨es, k, rfl, _⟩ := h2.ex
    cases hd
theorem isi_tt {prog : Program} {w : World} {A : Around} {s : Shared} {h₀ : Heap} {L : Addr} {m : Str → Option Value} {mu nv : Led} {a : Addr} {xs : Array Value} {n : Nat} {Q : Value → Shared → Prop} (hm : (a, tupOf xs n) ∈ mu ++ nv) (S : Sta h₀ L s.heap m mu nv) (q : Q (.bool true) s) :
    wp prog w A (call (.builtin "isinstance") [.ref a, .type "tuple"]) Q s := call_isinstance_yes (Tx := "tuple") ⟨_, S.mem hm, rfl⟩ (by kernel_rfl) PySem.F.isi_self_tuple q
theorem dat_tup {nv : Led} {v : Value} {ds : List Dat} (h : DatIn nv v (.tuple ds)) : ∃ a xs n, v = .ref a ∧ (a, tupOf xs n) ∈ nv ∧ DatAll nv xs.toList ds := by
  cases h with
  | tuple h r => exact ⟨_, _, _, rfl, h, by simpa using r⟩
/-- ints -/
noncomputable def AllInt (vs : List Value) : Prop := ∀ v ∈ vs, ∃ i t, v = .int i t
theorem AllInt.nil : AllInt [] := fun v h => by cases h
theorem AllInt.add {vs : List Value} (h : AllInt vs) (i : Int) (t : Tok) : AllInt (vs ++ [.int i t]) := fun v hv => by
  rcases List.mem_append.mp hv with hv | hv
  · exact h v hv
  · exact ⟨i, t, List.mem_singleton.mp hv⟩
theorem AllInt.sub {vs ws : List Value} (h : AllInt vs) (hs : ∀ v ∈ ws, v ∈ vs) : AllInt ws := fun v hv => h v (hs v hv)
theorem ints_all {vs : List Value} {ns : List Int} (h : IntsAre vs ns) : AllInt vs := by
  induction h with
  | nil => exact AllInt.nil
  | cons i t _ ih =>
    intro v hv
    rcases List.mem_cons.mp hv with rfl | hv
    · exact ⟨_, _, rfl⟩
    · exact ih v hv
end Mine
end
/-! NX -/
section
namespace Mine
section
variable {prog : Program} {w : World} {K : Frag} {d : Nat} {A : Around} {env fe : Env} {s : Shared} {h₀ h : Heap} {L : Addr} {m : Str → Option Value} {mu nv mu' nv' : Led}
/-- a list compared with itself -/
theorem j_neSelf {a : Addr} {xs : Array Value} {n : Nat} {Q : Value → Shared → Prop} (hm : (a, listOf xs n) ∈ mu ++ nv) (S : Sta h₀ L s.heap m mu nv) (M : Am K d A fe h₀) (q : Q (.bool false) s) : wp prog w A (compareOp .NotEq (.ref a) (.ref a)) Q s := by
  have hl := S.isList hm
  refine PySem.SeqAt.RcNeAt.lists (e := fun _ => true) hl hl rfl (by have := M.units; omega) (fun j _ _ => PySem.SeqAt.EqAt.same _) prog w _ Q ?_
  have e : (!(List.range xs.size).all fun _ => true) = false := by simp
  rw [e]; exact q
theorem j_indexL {l : Addr} {xs : Array Value} {n : Nat} {ys : List Str} {x : Str} {u : Tok} {Q : Value → Shared → Prop} (hm : (l, listOf xs n) ∈ mu ++ nv) (S : Sta h₀ L s.heap m mu nv) (hi : StrsAre xs.toList ys) (j : Nat) (hj : ys[j]? = some x) (hno : ∀ i < j, ys[i]? ≠ some x) (hz : xs.size ≤ 1000)
    (q : Q (.int j s.toks) { s with toks := s.toks + 1 }) : wp prog w A (call (.builtin "list.index") [.ref l, .str x u]) Q s := by
  have hl := hi.length
  have hlt : j < ys.length := by
    rcases Nat.lt_or_ge j ys.length with h | h
    · exact h
    · rw [List.getElem?_eq_none h] at hj; cases hj
  have hlt' : j < xs.size := by rw [← Array.length_toList]; omega
  have key : ∀ i (h1 : i < xs.size) (h2 : i < ys.length), isStrOf x xs[i] = (ys[i] == x) := by
    intro i h1 h2
    have := hi.at (j := i) (y := ys[i]) (by simp [h2])
    obtain ⟨t, ht⟩ := this
    have e : xs[i] = .str ys[i] t := by
      have h3 : xs.toList[i]? = some xs[i] := by simp [h1]
      rw [h3] at ht; exact Option.some.inj ht
    rw [e]; rfl
  refine call_meets PySem.F.slot_list_index ⟨_, S.mem hm, rfl⟩ PySem.F.entry_list_index (PySem.F.args_list_index_2 _ _) (MeetsSeq.list_index l xs n (.str x u) (isStrOf x) (fun y hy => eq_isStrOf x u hi y (by simpa using hy)) j hlt' (by omega) ?_ ?_) ⟨S.mem hm, q⟩
  · rw [key j hlt' hlt]
    have : ys[j] = x := by rw [List.getElem?_eq_getElem hlt] at hj; exact Option.some.inj hj
    simp [this]
  · intro i h1 h2
    rw [key i h1 (by omega)]
    have := hno i h2
    rw [List.getElem?_eq_getElem (by omega)] at this
    simpa using this
theorem j_maxL {l : Addr} {xs : Array Value} {n : Nat} {ns : List Int} {Q : Value → Shared → Prop} (hm : (l, listOf xs n) ∈ mu ++ nv) (M : Am K d A fe h₀) (S : Sta h₀ L s.heap m mu nv) (hi : IntsAre xs.toList ns) (hne : 0 < ns.length)
    (q : ∀ h' X (t : Tok) tk, Sta h₀ L h' m mu nv → X ∈ ns → (∀ a, a ∈ ns → a ≤ X) → Q (.int X t) { s with heap := h', toks := tk }) : wp prog w A (call (.builtin "max") [.ref l]) Q s := by
  have hl := S.isList hm
  rw [show xs = xs.toList.toArray by simp] at hl
  exact kso_max S.F S.N hl hi hne M.hh fun h' X t tk F N h1 h2 => q h' X t tk (S.same F N) h1 h2
theorem rep_one (v : Value) : ∀ n : Nat, List.foldl (fun (x1 x2 : Array Value) => x1 ++ x2) #[] (List.replicate n #[v]) = (List.replicate n v).toArray := by
  have key : ∀ (n : Nat) (a : List Value), List.foldl (fun (x1 x2 : Array Value) => x1 ++ x2) a.toArray (List.replicate n #[v]) = (a ++ List.replicate n v).toArray := by
    intro n
    induction n with
    | zero => intro a; simp
    | succ n ih =>
      intro a
      rw [List.replicate_succ, List.foldl_cons, show a.toArray ++ #[v] = (a ++ [v]).toArray by simp, ih]
      simp [List.replicate_succ]
  intro n
  exact key n []
theorem j_mul1 {l : Addr} {v : Value} {n c : Nat} {u : Tok} {Q : Value → Shared → Prop} (hm : (l, listOf #[v] n) ∈ mu ++ nv) (S : Sta h₀ L s.heap m mu nv) (hc : c ≤ 1000)
    (q : ∀ D h', Sta h₀ L h' m ((D, listOf (List.replicate c v).toArray 0) :: mu) nv → Q (.ref D) { s with heap := h' }) : wp prog w A (binaryOp .Mult (.ref l) (.int (c : Nat) u)) Q s := by
  refine mul_list S.F S.N (S.mem hm) (by omega) (by omega) (by simp; omega) fun h' F N => q _ h' ?_
  refine S.cons' F ?_ fun q hq => Heap.lt_size (S.mem (a := q.1) (o := q.2) hq)
  rw [show (if (#[v] : Array Value).isEmpty = true then 0 else (c : Int).toNat) = c by simp, rep_one] at N
  exact N
/-- an if whose ways meet -/
theorem x_ifJ (J : Shared → Prop) {test : Expr} {body orelse : List Stmt} {pos : Pos} {rest : List Stmt} {Q : Flow → Shared → Prop}
    (h : wp prog w A (isTrue test env (eval test env)) (fun b s₂ => if b = true then wp prog w A (execs body env) (fun f s' => f = .next ∧ J s') s₂ else wp prog w A (execs orelse env) (fun f s' => f = .next ∧ J s') s₂) s)
    (k : ∀ s', J s' → wp prog w A (execs rest env) Q s') : wp prog w A (execs (.If test body orelse pos :: rest) env) Q s :=
  x_cons (wpAny_mono (wpAny_If h) (fun f s' h' => by obtain ⟨rfl, j⟩ := h'; exact k s' j) fun _ _ e => e)
end
end Mine
end
open Mine
local macro_rules | `(tactic| k_mem) => `(tactic| with_reducible_and_instances first
  | assumption
  | (refine List.mem_append_left _ ?_; (repeat (first | exact List.Mem.head _ | assumption | refine List.Mem.tail _ ?_)); done)
  | (refine List.mem_append_right _ ?_; (repeat (first | exact List.Mem.head _ | assumption | refine List.Mem.tail _ ?_)); done))
local macro_rules | `(tactic| tb_start) => `(tactic| (with_reducible ((fail_if_success (refine Halt.mk ?_)); first
  | refine wpAny_truthy_bool ?_
  | refine ite_t ?_
  | refine ite_f ?_
  | refine x_next ?_
  | refine x_retd ?_
  | refine PyProof.Rows.eq_str ?_
  | refine PyProof.Rows.ne_str ?_
  | refine PyProof.Rows.eq_int ?_
  | refine PyProof.Rows.ne_int ?_
  | refine PyProof.Rows.lt_int ?_
  | refine PyProof.Rows.gt_int ?_
  | refine PyProof.Rows.ge_int ?_
  | refine PyProof.Rows.le_int ?_
  | refine PyProof.Rows.add_int ?_
    try dsimp only
  | refine PyProof.Rows.sub_int ?_
    try dsimp only
  | refine' PyProof.Rows.mod_int ?la ?_
    case la => with_unfolding_all decide
    try dsimp only
  | refine' wpAny_is_other ?la ?lb ?_
    case la => with_unfolding_all rfl
    case lb => with_unfolding_all (intro x; cases x)
  | refine' wpAny_is_self ?la ?_
    case la => with_unfolding_all rfl
  | refine' wpAny_isNot_other ?la ?lb ?_
    case la => with_unfolding_all rfl
    case lb => with_unfolding_all (intro x; cases x)
  | refine' wpAny_isNot_self ?la ?_
    case la => with_unfolding_all rfl
  | refine' va_kind ?la ?lb ?lc ?ld ?_
    case la | lb | lc => assumption
    case ld => with_unfolding_all first | rfl | assumption
    try dsimp only
  | refine' va_items ?la ?lb ?lc ?ld ?_
    case la | lb | lc => assumption
    case ld => with_unfolding_all first | rfl | assumption
    try dsimp only
  | refine' va_attrs ?la ?lb ?lc ?ld ?_
    case la | lb | lc => assumption
    case ld => with_unfolding_all first | rfl | assumption
    try dsimp only
  | refine' nu_attrs ?la ?lb ?lc ?_
    case la | lb | lc => assumption
    try dsimp only
  | refine' nu_kind ?la ?lb ?lc ?_
    case la | lb | lc => assumption
    intro _
    try dsimp only
  | refine' isi_V ?la ?lb ?lc ?_
    case la | lb | lc => assumption
  | refine' isi_N ?la ?lb ?lc ?_
    case la | lb | lc => assumption
    try dsimp only
  | refine' isi_Vt ?la ?lb ?lc ?_
    case la | lb | lc => assumption
    try dsimp only
  | refine' ra_n ?la ?lb ?_ ?lc ?ld
    case la | lb => assumption
    case lc => with_unfolding_all rfl
    case ld => intro _; with_unfolding_all rfl
    intro _
  | refine' ra_m ?la ?lb ?_ ?lc ?ld
    case la | lb => assumption
    case lc => with_unfolding_all rfl
    case ld => intro _; with_unfolding_all rfl
    intro _
  | refine j_abs ?_
    intro _ _
  | refine PyProof.Rows.neg_int ?_
    try dsimp only
  | refine PyProof.Rows.iadd_int ?_
    try dsimp only
  | refine PyProof.Rows.isub_int ?_
    try dsimp only
  | refine wpAny_evalPart_some ?_
  | refine wpAny_evalPart_none ?_
  | refine h_bin ?_
  | refine h_inp ?_
  | refine h_cmp ?_
  | refine h_call ?_
  | refine h_un ?_
  | (first | refine' j_meth ?la ?lb PySem.F.slot_list_append PySem.F.type_list_append ?_ | refine' j_meth ?la ?lb PySem.F.slot_list_pop PySem.F.type_list_pop ?_ | refine' j_meth ?la ?lb PySem.F.slot_list_reverse PySem.F.type_list_reverse ?_ | refine' j_meth ?la ?lb PySem.F.slot_list_extend PySem.F.type_list_extend ?_ | refine' j_meth ?la ?lb PySem.F.slot_list_index PySem.F.type_list_index ?_)
    case lb => assumption
    case la => k_mem
    try dsimp only
  | refine PySem.GM.rjust ?_
    try dsimp only
  | refine PySem.GM.join ?_
    try dsimp only
  | refine h_meth ?_
  | refine h_attr ?_
  | refine h_set ?_
  | refine' j_itemT ?la ?lb ?lc ?ld ?le ?_ ?lf ?lg
    case lb => assumption
    case la => k_mem
    case lc | ld => with_unfolding_all decide
    case le | lf => with_unfolding_all rfl
    case lg => intro _; with_unfolding_all rfl
  | refine h_sub ?_
  | refine h_list ?_
  | refine h_tup ?_
  | refine h_truth ?_
  | refine callWith_method0 ?_
  | refine' callWith_method1 ?_ ?la ?lb
    case la | lb => with_unfolding_all rfl
  | refine h_cw ?_
  | refine' ld_loc ?la ?lb ?lc ?ld ?_
    case la | lb | lc => assumption
    case ld => with_unfolding_all rfl
  | refine' ldn_loc ?la ?lb ?lc ?ld ?_
    case la | lb | lc => assumption
    case ld => with_unfolding_all rfl
  | refine' ld_cv ?la ?lb ?lc ?ld ?_
    case la | lb | lc => assumption
    case ld => k_mem
  | refine' ld_cl ?la ?lb ?lc ?le ?ld ?_
    case la | lb | lc => assumption
    case ld => k_mem
    case le => assumption
  | refine' args_more ?_ ?la
    case la => with_unfolding_all rfl
  | refine args_none ?_
  | refine' Attribute_any_ ?_ ?la
    case la => with_unfolding_all rfl
  | refine' MethodCall_ ?_ ?la
    case la => with_unfolding_all rfl
  | refine List_ ?_
  | refine Tuple_ ?_
  | refine Subscript_ ?_
  | refine' h_if ?la ?_
    case la => assumption
  | refine x_if ?_
  | refine x_ret ?_
  | refine' x_asg ?_ ?la
    case la => with_unfolding_all rfl
  | refine' x_setA ?_ ?la
    case la => with_unfolding_all rfl
  | refine x_aug ?_
  | refine' x_exp ?_ ?la ?lb
    case la => exact EnvG.quiet (by assumption)
    case lb => with_unfolding_all rfl
  | refine none_and ?_
  | refine' st_loc ?la ?lb ?lc ?ld ?_
    case la | lb | lc => assumption
    case ld => with_unfolding_all rfl
    intro h9 S9
    try dsimp only [List.set] at S9
    try dsimp only
  | refine' wpAny_isTrue_Compare1 ?_ ?la
    case la => with_unfolding_all rfl
  | refine isTrue_or ?_
  | refine isTrue_and ?_
  | refine isTrue_or_nil ?_
  | refine isTrue_and_nil ?_
  | refine isTrue_not ?_
  | refine' isTrue_plain ?_ ?la
    case la => with_unfolding_all rfl
  | refine' wpAny_Compare1 ?_ ?la
    case la => with_unfolding_all rfl
  | refine wpAny_BinOp ?_
  | refine UnaryOp_ ?_
  | refine' h_ife ?la ?_
    case la => assumption
  | refine wpAny_IfExp ?_
  | refine Constant_str ?_
    try dsimp only
  | refine wpAny_Constant_int ?_
    try dsimp only
  | refine wpAny_Constant_none ?_
  | refine wpAny_Constant_bool ?_
  | refine x_nil ?_
  | refine' call_own ?la ?lb ?lc ?ld ?le ?_ ?lf ?lg ?lh
    case la | lb | lc | ld | le => assumption
    case lf | lg | lh => with_unfolding_all rfl
  | refine' call_own0 ?la ?lb ?lc ?ld ?le ?_ ?lf
    case la | lb | lc | ld | le => assumption
    case lf => with_unfolding_all rfl
  | refine' call_bi ?la ?lb ?lc ?ld ?le ?_ ?lf ?lg ?lh
    case la | lb | lc | ld | le => assumption
    case lf | lg | lh => with_unfolding_all rfl
  | refine' call_ty ?la ?lb ?lc ?ld ?le ?_ ?lf ?lg ?lh
    case la | lb | lc | ld | le => assumption
    case lf | lg | lh => with_unfolding_all rfl
  | refine' Am.inTo ?la ?lb ?_
    case la | lb => assumption
  | refine' ld_own ?la ?lb ?lc ?ld ?le ?_
    case la | lb | lc | ld | le => assumption
  | refine' ld_ty ?la ?lb ?lc ?ld ?le ?_
    case la | lb | lc | ld | le => assumption
  | refine h_name ?_
  | refine h_store ?_
  | refine h_for ?_
  | refine h_while ?_
  | refine h_asgc ?_
  | refine h_asgs ?_
  | refine h_asgt ?_
  | refine h_comp ?_
  | refine h_dict ?_
  | refine wpAny_Slice ?_)))
local macro_rules | `(tactic| tb_rel) => `(tactic| ((fail_if_success (with_reducible refine Halt.mk ?_)); with_reducible first | (refine' ite_F ?la ?_; (case la => assumption)) | (refine' ite_T ?la ?_; (case la => assumption)) | (refine PyProof.Rows.split_bool ?_ ?_ <;> intro _)))
local macro_rules | `(tactic| tb_look) => `(tactic| repeat' first | tb_start | tb_rel)
/-! NV -/
section
namespace Mine
noncomputable def SpecK (K : Frag) (w : World) (d : Nat) (f : Value) (args : Args) (mu nv : Led) (Post : Value → Led → Led → Prop) : Prop :=
  ∀ (prog : Program) (A : Around) (fe : Env) (h₀ : Heap) (m : Str → Option Value) (s : Shared) (R : Result → Shared → Prop), Am K d A fe h₀ → Sta h₀ fe.locals s.heap m mu nv →
    (∀ v h' tk mu' nv', Sta h₀ fe.locals h' m mu' nv' → Post v mu' nv' → R (.ok (.ret v)) { s with heap := h', toks := tk }) → codeAny (model prog w) A (.call f args) R s

theorem init_V2 (w : World) (x dx : Addr) (kv iv : Value) (mu nv : Led) : SpecK (KK w) w 1 (.ref 304) ⟨[.ref x, kv, iv], []⟩ ((dx, dictOf [] 0) :: mu) ((x, instObj 314 dx) :: nv)
    (fun v mu' nv' => v = .none ∧ nv' = (x, instObj 314 dx) :: nv ∧ ∃ o, VD o kv iv .none ∧ mu' = (dx, o) :: mu) := by
  refine' Spec.plainK (vr := ["self", "kind", "items", "attrs"]) (vs := [some (.ref x), some (kv), some (iv), some (.none)]) (binds := [("self", .ref x), ("kind", kv), ("items", iv), ("attrs", .none)]) ?ho ?hcd ?hbind ?hloc ?hm ?hcell ?hco ?hgen ?hk ?B
  case ho => (show List.lookup _ (Mine.hp.heap_1 w.params) = _; k_is)
  case hcd => (show codeIn (Mine.hp.heap_1 w.params) _ _ = _; k_is)
  case hbind => exact fun s X => kp_binds X fun S => by (show peek (Mine.hp.heap_1 w.params) _ _ = _; kernel_rfl)
  case hloc => exact locs rfl
  case hm => exact binds_mV (ns := ["self", "kind", "items", "attrs"]) (more := []) (vals := [.ref x, kv, iv, .none]) (k := 0) rfl (by decide)
  case hcell => decide
  case hco => rfl
  case hgen => rfl
  case hk => rfl
  intro prog A env g s Q hsc G M S q
  have l_self : IsLoc env ["self", "kind", "items", "attrs"] "self" 0 := .of hsc rfl rfl
  have l_kind : IsLoc env ["self", "kind", "items", "attrs"] "kind" 1 := .of hsc rfl rfl
  have l_items : IsLoc env ["self", "kind", "items", "attrs"] "items" 2 := .of hsc rfl rfl
  have l_attrs : IsLoc env ["self", "kind", "items", "attrs"] "attrs" 3 := .of hsc rfl rfl
  clear hsc
  iterate 5 (
    (repeat' (tb_start))
    refine Halt.mk ?_
    refine' at_set M (by assumption) (List.mem_append_right _ (.head _)) ?a ?hl ?e ?hz ?_
    (case a => first | exact os_kind w | exact os_items w | exact os_attrs w | exact os_shared w | exact os_loose w)
    (case hl => k_get)
    (case e => k_put)
    (case hz => simp)
    intro h' S')
  repeat' (tb_start)
  refine q _ _ _ _ _ _ (by assumption) ⟨rfl, rfl, _, ?V, rfl⟩
  exact ⟨_, _, rfl, by k_get, by k_get, by k_get, ⟨_, by k_get⟩, ⟨_, by k_get⟩, by simp⟩
theorem init_V3 (w : World) (x dx : Addr) (kv iv av : Value) (mu nv : Led) : SpecK (KK w) w 1 (.ref 304) ⟨[.ref x, kv, iv, av], []⟩ ((dx, dictOf [] 0) :: mu) ((x, instObj 314 dx) :: nv)
    (fun v mu' nv' => v = .none ∧ nv' = (x, instObj 314 dx) :: nv ∧ ∃ o, VD o kv iv av ∧ mu' = (dx, o) :: mu) := by
  refine' Spec.plainK (vr := ["self", "kind", "items", "attrs"]) (vs := [some (.ref x), some (kv), some (iv), some (av)]) (binds := [("self", .ref x), ("kind", kv), ("items", iv), ("attrs", av)]) ?ho ?hcd ?hbind ?hloc ?hm ?hcell ?hco ?hgen ?hk ?B
  case ho => (show List.lookup _ (Mine.hp.heap_1 w.params) = _; k_is)
  case hcd => (show codeIn (Mine.hp.heap_1 w.params) _ _ = _; k_is)
  case hbind => exact fun s X => kp_binds X fun S => by (show peek (Mine.hp.heap_1 w.params) _ _ = _; kernel_rfl)
  case hloc => exact locs rfl
  case hm => exact binds_mV (ns := ["self", "kind", "items", "attrs"]) (more := []) (vals := [.ref x, kv, iv, av]) (k := 0) rfl (by decide)
  case hcell => decide
  case hco => rfl
  case hgen => rfl
  case hk => rfl
  intro prog A env g s Q hsc G M S q
  have l_self : IsLoc env ["self", "kind", "items", "attrs"] "self" 0 := .of hsc rfl rfl
  have l_kind : IsLoc env ["self", "kind", "items", "attrs"] "kind" 1 := .of hsc rfl rfl
  have l_items : IsLoc env ["self", "kind", "items", "attrs"] "items" 2 := .of hsc rfl rfl
  have l_attrs : IsLoc env ["self", "kind", "items", "attrs"] "attrs" 3 := .of hsc rfl rfl
  clear hsc
  iterate 5 (
    (repeat' (tb_start))
    refine Halt.mk ?_
    refine' at_set M (by assumption) (List.mem_append_right _ (.head _)) ?a ?hl ?e ?hz ?_
    (case a => first | exact os_kind w | exact os_items w | exact os_attrs w | exact os_shared w | exact os_loose w)
    (case hl => k_get)
    (case e => k_put)
    (case hz => simp)
    intro h' S')
  repeat' (tb_start)
  refine q _ _ _ _ _ _ (by assumption) ⟨rfl, rfl, _, ?V, rfl⟩
  exact ⟨_, _, rfl, by k_get, by k_get, by k_get, ⟨_, by k_get⟩, ⟨_, by k_get⟩, by simp⟩
theorem sp_V2 (w : World) (kv iv : Value) (mu nv : Led) : Spec (KK w) w 2 (.ref 314) [kv, iv] mu nv (fun v mu' nv' => ∃ x dx o, v = .ref x ∧ VD o kv iv .none ∧ mu' = (dx, o) :: mu ∧ nv' = (x, instObj 314 dx) :: nv) := by
  intro prog A fe h₀ m s Q M S q
  refine new_inst M S (mk_V w) (in_V w) (fn_V w) fun x dx h' S' => ?_
  refine init_V2 w x dx kv iv mu nv _ _ _ _ _ _ _ M.underNew (by exact S'.keep1) ?_
  rintro v h'' tk mu' nv' S'' ⟨rfl, rfl, o, V, rfl⟩
  exact ⟨rfl, q _ _ _ _ _ S'' ⟨x, dx, o, rfl, V, rfl, rfl⟩⟩
theorem sp_V3 (w : World) (kv iv av : Value) (mu nv : Led) : Spec (KK w) w 2 (.ref 314) [kv, iv, av] mu nv (fun v mu' nv' => ∃ x dx o, v = .ref x ∧ VD o kv iv av ∧ mu' = (dx, o) :: mu ∧ nv' = (x, instObj 314 dx) :: nv) := by
  intro prog A fe h₀ m s Q M S q
  refine new_inst M S (mk_V w) (in_V w) (fn_V w) fun x dx h' S' => ?_
  refine init_V3 w x dx kv iv av mu nv _ _ _ _ _ _ _ M.underNew (by exact S'.keep1) ?_
  rintro v h'' tk mu' nv' S'' ⟨rfl, rfl, o, V, rfl⟩
  exact ⟨rfl, q _ _ _ _ _ S'' ⟨x, dx, o, rfl, V, rfl, rfl⟩⟩
end Mine
end
/-! N1 -/
section
namespace Mine
noncomputable def jn (o i : Str) : Str := if o = "" then i else if i = "" then o else o ++ "." ++ i
theorem sp_joined (w : World) (o i : Str) (t1 t2 : Tok) (mu nv : Led) (h1 : o.length ≤ 100) (h2 : i.length ≤ 100) : Spec (KK w) w 1 (.ref 502) [.str o t1, .str i t2] mu nv (Same mu nv fun v => ∃ t, v = .str (jn o i) t) := by
  refine' Spec.plain (vr := ["outer", "inner"]) (vs := [some (.str o t1), some (.str i t2)]) (binds := [("outer", .str o t1), ("inner", .str i t2)]) ?ho ?hcd ?hbind ?hloc ?hm ?hcell ?hco ?hgen ?hk ?B
  case ho => (show List.lookup _ (Mine.hp.heap_1 w.params) = _; k_is)
  case hcd => (show codeIn (Mine.hp.heap_1 w.params) _ _ = _; k_is)
  case hbind => exact fun s _ => BindsTo.of_eq rfl
  case hloc => exact locs rfl
  case hm => exact binds_mV (ns := ["outer", "inner"]) (more := []) (vals := [.str o t1, .str i t2]) (k := 0) rfl (by decide)
  case hcell => decide
  case hco => rfl
  case hgen => rfl
  case hk => rfl
  intro prog A env g s Q hsc G M S q
  have l_outer : IsLoc env ["outer", "inner"] "outer" 0 := .of hsc rfl rfl
  have l_inner : IsLoc env ["outer", "inner"] "inner" 1 := .of hsc rfl rfl
  clear hsc
  tb_look
  · rename_i e1
    exact q _ _ _ _ _ _ S ⟨rfl, rfl, _, by rw [retOf, jn, if_pos (by simpa using e1)]⟩
  · rename_i e1 e2
    exact q _ _ _ _ _ _ S ⟨rfl, rfl, _, by rw [retOf, jn, if_neg (by simpa using e1), if_pos (by simpa using e2)]⟩
  · rename_i e1 e2
    refine ⟨PyProof.Rows.add_str (fun t' tk => ?_) (by size_fits)⟩
    tb_look
    refine ⟨PyProof.Rows.add_str (fun t'' tk' => ?_) (by size_fits)⟩
    exact q _ _ _ _ _ _ S ⟨rfl, rfl, _, by rw [retOf, jn, if_neg (by simpa using e1), if_neg (by simpa using e2)]⟩
end Mine
end
/-! N2 -/
section
namespace Mine
theorem sp_isV (w : World) (x : Addr) (kv iv av : Value) (mu nv : Led) (V : VecAt nv x kv iv av) : Spec (KK w) w 1 (.ref 366) [.ref x] mu nv (Same mu nv fun v => v = .bool true) := by
  refine' Spec.plain (vr := ["v"]) (vs := [some (.ref x)]) (binds := [("v", .ref x)]) ?ho ?hcd ?hbind ?hloc ?hm ?hcell ?hco ?hgen ?hk ?B
  case ho => (show List.lookup _ (Mine.hp.heap_1 w.params) = _; k_is)
  case hcd => (show codeIn (Mine.hp.heap_1 w.params) _ _ = _; k_is)
  case hbind => exact fun s _ => BindsTo.of_eq rfl
  case hloc => exact locs rfl
  case hm => exact binds_mV (ns := ["v"]) (more := []) (vals := [.ref x]) (k := 0) rfl (by decide)
  case hcell => decide
  case hco => rfl
  case hgen => rfl
  case hk => rfl
  intro prog A env g s Q hsc G M S q
  have l_v : IsLoc env ["v"] "v" 0 := .of hsc rfl rfl
  have gl_isinstance : IsGlb env "isinstance" := .of hsc rfl rfl
  have c_isinstance := b_isinstance w
  have gl_Vector : IsGlb env "Vector" := .of hsc rfl rfl
  have c_Vector := c_Vector w
  clear hsc
  tb_look
  exact q _ _ _ _ _ _ S ⟨rfl, rfl, rfl⟩
theorem sp_isN (w : World) (x : Addr) (mu nv : Led) (V : NuAt nv x) : Spec (KK w) w 1 (.ref 366) [.ref x] mu nv (Same mu nv fun v => v = .bool false) := by
  refine' Spec.plain (vr := ["v"]) (vs := [some (.ref x)]) (binds := [("v", .ref x)]) ?ho ?hcd ?hbind ?hloc ?hm ?hcell ?hco ?hgen ?hk ?B
  case ho => (show List.lookup _ (Mine.hp.heap_1 w.params) = _; k_is)
  case hcd => (show codeIn (Mine.hp.heap_1 w.params) _ _ = _; k_is)
  case hbind => exact fun s _ => BindsTo.of_eq rfl
  case hloc => exact locs rfl
  case hm => exact binds_mV (ns := ["v"]) (more := []) (vals := [.ref x]) (k := 0) rfl (by decide)
  case hcell => decide
  case hco => rfl
  case hgen => rfl
  case hk => rfl
  intro prog A env g s Q hsc G M S q
  have l_v : IsLoc env ["v"] "v" 0 := .of hsc rfl rfl
  have gl_isinstance : IsGlb env "isinstance" := .of hsc rfl rfl
  have c_isinstance := b_isinstance w
  have gl_Vector : IsGlb env "Vector" := .of hsc rfl rfl
  have c_Vector := c_Vector w
  clear hsc
  tb_look
  exact q _ _ _ _ _ _ S ⟨rfl, rfl, rfl⟩
theorem sp_shareV (w : World) (x : Addr) (kv iv av : Value) (mu nv : Led) (V : VecAt nv x kv iv av) : Spec (KK w) w 1 (.ref 380) [.ref x] mu nv (Grw mu nv fun v _ => v = .ref x) := by
  refine' Spec.plain (vr := ["v"]) (vs := [some (.ref x)]) (binds := [("v", .ref x)]) ?ho ?hcd ?hbind ?hloc ?hm ?hcell ?hco ?hgen ?hk ?B
  case ho => (show List.lookup _ (Mine.hp.heap_1 w.params) = _; k_is)
  case hcd => (show codeIn (Mine.hp.heap_1 w.params) _ _ = _; k_is)
  case hbind => exact fun s _ => BindsTo.of_eq rfl
  case hloc => exact locs rfl
  case hm => exact binds_mV (ns := ["v"]) (more := []) (vals := [.ref x]) (k := 0) rfl (by decide)
  case hcell => decide
  case hco => rfl
  case hgen => rfl
  case hk => rfl
  intro prog A env g s Q hsc G M S q
  have l_v : IsLoc env ["v"] "v" 0 := .of hsc rfl rfl
  have gl_isinstance : IsGlb env "isinstance" := .of hsc rfl rfl
  have c_isinstance := b_isinstance w
  have gl_Vector : IsGlb env "Vector" := .of hsc rfl rfl
  have c_Vector := c_Vector w
  clear hsc
  tb_look
  refine ⟨va_share V M S fun h' nv' g S' => ?_⟩
  tb_look
  exact q _ _ _ _ _ _ S' ⟨rfl, g, rfl⟩
theorem sp_shareN (w : World) (x : Addr) (mu nv : Led) (V : NuAt nv x) : Spec (KK w) w 1 (.ref 380) [.ref x] mu nv (Grw mu nv fun v _ => v = .ref x) := by
  refine' Spec.plain (vr := ["v"]) (vs := [some (.ref x)]) (binds := [("v", .ref x)]) ?ho ?hcd ?hbind ?hloc ?hm ?hcell ?hco ?hgen ?hk ?B
  case ho => (show List.lookup _ (Mine.hp.heap_1 w.params) = _; k_is)
  case hcd => (show codeIn (Mine.hp.heap_1 w.params) _ _ = _; k_is)
  case hbind => exact fun s _ => BindsTo.of_eq rfl
  case hloc => exact locs rfl
  case hm => exact binds_mV (ns := ["v"]) (more := []) (vals := [.ref x]) (k := 0) rfl (by decide)
  case hcell => decide
  case hco => rfl
  case hgen => rfl
  case hk => rfl
  intro prog A env g s Q hsc G M S q
  have l_v : IsLoc env ["v"] "v" 0 := .of hsc rfl rfl
  have gl_isinstance : IsGlb env "isinstance" := .of hsc rfl rfl
  have c_isinstance := b_isinstance w
  have gl_Vector : IsGlb env "Vector" := .of hsc rfl rfl
  have c_Vector := c_Vector w
  clear hsc
  tb_look
  exact q _ _ _ _ _ _ S ⟨rfl, Gr.refl _, rfl⟩
theorem init_N (w : World) (x dx : Addr) (mu nv : Led) : SpecK (KK w) w 1 (.ref 282) ⟨[.ref x], []⟩ ((dx, dictOf [] 0) :: mu) ((x, instObj 285 dx) :: nv)
    (fun v mu' nv' => v = .none ∧ nv' = (x, instObj 285 dx) :: nv ∧ ∃ o, ND o ∧ mu' = (dx, o) :: mu) := by
  refine' Spec.plainK (vr := ["self"]) (vs := [some (.ref x)]) (binds := [("self", .ref x)]) ?ho ?hcd ?hbind ?hloc ?hm ?hcell ?hco ?hgen ?hk ?B
  case ho => (show List.lookup _ (Mine.hp.heap_1 w.params) = _; k_is)
  case hcd => (show codeIn (Mine.hp.heap_1 w.params) _ _ = _; k_is)
  case hbind => exact fun s _ => BindsTo.of_eq rfl
  case hloc => exact locs rfl
  case hm => exact binds_mV (ns := ["self"]) (more := []) (vals := [.ref x]) (k := 0) rfl (by decide)
  case hcell => decide
  case hco => rfl
  case hgen => rfl
  case hk => rfl
  intro prog A env g s Q hsc G M S q
  have l_self : IsLoc env ["self"] "self" 0 := .of hsc rfl rfl
  clear hsc
  iterate 2 (
    (repeat' (tb_start))
    refine Halt.mk ?_
    refine' at_set M (by assumption) (List.mem_append_right _ (.head _)) ?a ?hl ?e ?hz ?_
    (case a => first | exact ns_kind w | exact ns_attrs w)
    (case hl => k_get)
    (case e => k_put)
    (case hz => simp)
    intro h' S')
  repeat' (tb_start)
  refine q _ _ _ _ _ _ (by assumption) ⟨rfl, rfl, _, ?V, rfl⟩
  exact ⟨_, _, _, rfl, by k_get, by k_get, by k_get⟩
theorem sp_Null (w : World) (mu nv : Led) : Spec (KK w) w 2 (.ref 285) [] mu nv (Grw mu nv fun v nv' => ∃ x, v = .ref x ∧ NuAt nv' x) := by
  intro prog A fe h₀ m s Q M S q
  refine new_inst M S (mk_N w) (in_N w) (fn_N w) fun x dx h' S' => ?_
  refine init_N w x dx mu nv _ _ _ _ _ _ _ M.underNew (by exact S'.keep1) ?_
  rintro v h'' tk mu' nv' S'' ⟨rfl, rfl, o, V, rfl⟩
  exact ⟨rfl, q _ _ _ _ _ S''.keep1 ⟨rfl, (Gr.cons _ (Gr.cons _ (Gr.refl _))), x, rfl, ⟨dx, o, .tail _ (.head _), .head _, V⟩⟩⟩
theorem sp_null (w : World) (mu nv : Led) : Spec (KK w) w 3 (.ref 325) [] mu nv (Grw mu nv fun v nv' => ∃ x, v = .ref x ∧ NuAt nv' x) := by
  refine' Spec.plain (vr := []) (vs := []) (binds := []) ?ho ?hcd ?hbind ?hloc ?hm ?hcell ?hco ?hgen ?hk ?B
  case ho => (show List.lookup _ (Mine.hp.heap_1 w.params) = _; k_is)
  case hcd => (show codeIn (Mine.hp.heap_1 w.params) _ _ = _; k_is)
  case hbind => exact fun s _ => BindsTo.of_eq rfl
  case hloc => exact locs rfl
  case hm => exact binds_mV (ns := []) (more := []) (vals := []) (k := 0) rfl (by decide)
  case hcell => decide
  case hco => rfl
  case hgen => rfl
  case hk => rfl
  intro prog A env g s Q hsc G M S q
  have gl_Null : IsGlb env "Null" := .of hsc rfl rfl
  have c_Null := c_Null w
  clear hsc
  tb_look
  refine ⟨sp_Null w _ _ _ _ _ _ _ _ _ M S fun v h' tk mu' nv' S' P => ?_⟩
  obtain ⟨rfl, g, x, rfl, P⟩ := P
  exact q _ _ _ _ _ _ S' ⟨rfl, g, x, rfl, P⟩
end Mine
end
/-! N3 -/
section
namespace Mine
theorem sp_length (w : World) (x il : Addr) (n : Nat) (xs : Array Value) (k : Kd) (t : Tok) (av : Value) (mu nv : Led) (V : VecAt nv x (.str k.str t) (.ref il) av) (hl : (il, listOf xs n) ∈ nv) (hz : xs.size ≤ 1000) : Spec (KK w) w 1 (.ref 359) [.ref x] mu nv (Same mu nv fun v => ∃ t, v = .int xs.size t) := by
  refine' Spec.plain (vr := ["v", "kind"]) (vs := [some (.ref x), none]) (binds := [("v", .ref x)]) ?ho ?hcd ?hbind ?hloc ?hm ?hcell ?hco ?hgen ?hk ?B
  case ho => (show List.lookup _ (Mine.hp.heap_1 w.params) = _; k_is)
  case hcd => (show codeIn (Mine.hp.heap_1 w.params) _ _ = _; k_is)
  case hbind => exact fun s _ => BindsTo.of_eq rfl
  case hloc => exact locs rfl
  case hm => exact binds_mV (ns := ["v"]) (more := ["kind"]) (vals := [.ref x]) (k := 1) rfl (by decide)
  case hcell => decide
  case hco => rfl
  case hgen => rfl
  case hk => rfl
  intro prog A env g s Q hsc G M S q
  have l_v : IsLoc env ["v", "kind"] "v" 0 := .of hsc rfl rfl
  have l_kind : IsLoc env ["v", "kind"] "kind" 1 := .of hsc rfl rfl
  have gl_isinstance : IsGlb env "isinstance" := .of hsc rfl rfl
  have c_isinstance := b_isinstance w
  have gl_Vector : IsGlb env "Vector" := .of hsc rfl rfl
  have c_Vector := c_Vector w
  have gl_len : IsGlb env "len" := .of hsc rfl rfl
  have c_len := b_len w
  clear hsc
  have hne : (k.str == ("NULL" : Str)) = false := by cases k <;> rfl
  tb_look
  refine ⟨j_len (List.mem_append_right _ hl) (by assumption) (by omega) ?_⟩
  tb_look
  exact q _ _ _ _ _ _ (by assumption) ⟨rfl, rfl, _, rfl⟩
noncomputable def kinds : List Str := ["NULL", "logical", "integer", "double", "character", "list", "expression"]
theorem sp_kord (w : World) (k : Kd) (t : Tok) (mu nv : Led) : Spec (KK w) w 1 (.ref 387) [.str k.str t] mu nv (Same mu nv fun v => ∃ t, v = .int ((k.rank + 1 : Nat) : Int) t) := by
  refine' Spec.plain (vr := ["kind", "kinds"]) (vs := [some (.str k.str t), none]) (binds := [("kind", .str k.str t)]) ?ho ?hcd ?hbind ?hloc ?hm ?hcell ?hco ?hgen ?hk ?B
  case ho => (show List.lookup _ (Mine.hp.heap_1 w.params) = _; k_is)
  case hcd => (show codeIn (Mine.hp.heap_1 w.params) _ _ = _; k_is)
  case hbind => exact fun s _ => BindsTo.of_eq rfl
  case hloc => exact locs rfl
  case hm => exact binds_mV (ns := ["kind"]) (more := ["kinds"]) (vals := [.str k.str t]) (k := 1) rfl (by decide)
  case hcell => decide
  case hco => rfl
  case hgen => rfl
  case hk => rfl
  intro prog A env g s Q hsc G M S q
  have l_kind : IsLoc env ["kind", "kinds"] "kind" 0 := .of hsc rfl rfl
  have l_kinds : IsLoc env ["kind", "kinds"] "kinds" 1 := .of hsc rfl rfl
  clear hsc
  tb_look
  refine ⟨j_newTm S (by simp [sizeLine_eq]) fun D o h' e S' => ?_⟩
  subst e
  tb_look
  rename_i h'' S''
  have hi : ∀ a b c d e f g : Tok, StrsAre [.str "NULL" a, .str "logical" b, .str "integer" c, .str "double" d, .str "character" e, .str "list" f, .str "expression" g] kinds := fun _ _ _ _ _ _ _ => .cons _ _ (.cons _ _ (.cons _ _ (.cons _ _ (.cons _ _ (.cons _ _ (.cons _ _ .nil))))))
  refine ⟨j_inT (by k_mem) S'' (hi ..) ?_⟩
  rw [show kinds.any (· == k.str) = true by cases k <;> decide]
  tb_look
  refine ⟨j_methT (by k_mem) S'' (callWith_method1 ?_)⟩
  tb_look
  refine ⟨j_indexT (by k_mem) S'' (hi ..) (k.rank + 1) (by cases k <;> decide) (by cases k <;> decide) ?_⟩
  exact q _ _ _ _ _ _ S''.drop ⟨rfl, rfl, _, rfl⟩
noncomputable def maxK (ks : List Kd) : Nat := ks.foldl (fun m k => max m (k.rank + 1)) 0
theorem maxK_le (ks : List Kd) : maxK ks ≤ 5 := by
  have : ∀ (ks : List Kd) (m : Nat), m ≤ 5 → ks.foldl (fun m k => max m (k.rank + 1)) m ≤ 5 := by
    intro ks
    induction ks with
    | nil => intro m h; exact h
    | cons k ks ih =>
      intro m h
      have h4 : k.rank ≤ 4 := by cases k <;> decide
      exact ih _ (by show max m (k.rank + 1) ≤ 5; omega)
  exact this ks 0 (by omega)
theorem sp_ckind (w : World) (l : Addr) (xs : Array Value) (n : Nat) (ks : List Kd) (mu nv : Led) (hm : (l, listOf xs n) ∈ mu ++ nv) (hi' : StrsAre xs.toList (ks.map Kd.str)) : Spec (KK w) w 2 (.ref 394) [.ref l] mu nv (Same mu nv fun v => ∃ t x, v = .str x t ∧ kinds[maxK ks]? = some x) := by
  refine' Spec.plain (vr := ["kinds", "names", "most", "kind"]) (vs := [some (.ref l), none, none, none]) (binds := [("kinds", .ref l)]) ?ho ?hcd ?hbind ?hloc ?hm ?hcell ?hco ?hgen ?hk ?B
  case ho => (show List.lookup _ (Mine.hp.heap_1 w.params) = _; k_is)
  case hcd => (show codeIn (Mine.hp.heap_1 w.params) _ _ = _; k_is)
  case hbind => exact fun s _ => BindsTo.of_eq rfl
  case hloc => exact locs rfl
  case hm => exact binds_mV (ns := ["kinds"]) (more := ["names", "most", "kind"]) (vals := [.ref l]) (k := 3) rfl (by decide)
  case hcell => decide
  case hco => rfl
  case hgen => rfl
  case hk => rfl
  intro prog A env g s Q hsc G M S q
  have l_kinds : IsLoc env ["kinds", "names", "most", "kind"] "kinds" 0 := .of hsc rfl rfl
  have l_names : IsLoc env ["kinds", "names", "most", "kind"] "names" 1 := .of hsc rfl rfl
  have l_most : IsLoc env ["kinds", "names", "most", "kind"] "most" 2 := .of hsc rfl rfl
  have l_kind : IsLoc env ["kinds", "names", "most", "kind"] "kind" 3 := .of hsc rfl rfl
  have gl_max : IsGlb env "max" := .of hsc rfl rfl
  have c_max := b_max w
  have gl_kind_order : IsGlb env "kind_order" := .of hsc rfl rfl
  have c_kind_order := c_kind_order w
  clear hsc
  tb_look
  refine ⟨j_newTm S (by simp [sizeLine_eq]) fun D o h' eo S' => ?_⟩
  tb_look
  rename_i h2 S2
  refine ⟨x_forL (fun i vs mu' nv' => ∃ t x, vs = [some (.ref l), some (.ref D), some (.int (maxK (ks.take i) : Nat) t), x] ∧ mu' = (D, o) :: mu ∧ nv' = nv) l_kind G M (by rintro i vs mu' nv' ⟨t, x, rfl, _⟩; rfl) ?_⟩
  tb_look
  refine ⟨l, xs, n, _, _, _, rfl, S2, ⟨_, _, rfl, rfl, rfl⟩, S2.mem (by exact .tail _ hm), .inr ?_, ?_, ?_⟩
  · rintro i vs mu' nv' _ ⟨t, x, rfl, rfl, rfl⟩
    exact .tail _ hm
  · rintro I i v vs mu' nv' io h tk QL hi hv ⟨t, x, rfl, rfl, rfl⟩ S3
    revert S3; (repeat (rename Sta _ _ _ _ _ _ => So; clear So)); intro S3
    have hL := hi'.length
    have hk : i < ks.length := by rw [List.length_map, Array.length_toList] at hL; omega
    obtain ⟨t', hv'⟩ := hi'.at (j := i) (y := ks[i].str) (by simp [hk])
    have ev : v = .str ks[i].str t' := by rw [← Array.getElem?_toList, hv'] at hv; exact (Option.some.inj hv).symm
    subst ev
    tb_look
    refine ⟨sp_kord w ks[i] t' _ _ _ _ _ _ _ _ _ M S3 fun v h' tk mu' nv' S4 P => ?_⟩
    obtain ⟨rfl, rfl, t4, rfl⟩ := P
    tb_look
    refine ⟨j_max M S4 fun h' tk t5 S5 => ?_⟩
    tb_look
    rename_i S6
    refine ForQ.next S6 ⟨t5, some (.str ks[i].str t'), ?_, rfl, rfl⟩
    have e1 : maxK (ks.take (i + 1)) = max (maxK (ks.take i)) (ks[i].rank + 1) := by
      unfold maxK
      rw [List.take_succ, List.foldl_append]
      simp [hk]
    rw [e1]
    simp
    omega
  · rintro vs mu' nv' h tk ⟨t, x, rfl, rfl, rfl⟩ S3
    revert S3; (repeat (rename Sta _ _ _ _ _ _ => So; clear So)); intro S3
    have hL := hi'.length
    rw [List.length_map, Array.length_toList] at hL
    rw [List.take_of_length_le (by omega)] at *
    tb_look
    have h5 := maxK_le ks
    obtain ⟨x', hx'⟩ : ∃ x', kinds[maxK ks]? = some x' := ⟨kinds[maxK ks]'(by simp [kinds]; omega), List.getElem?_eq_getElem _⟩
    subst eo
    obtain ⟨t6, h6⟩ := StrsAre.at (j := maxK ks) (y := x') (.cons "NULL" _ (.cons "logical" _ (.cons "integer" _ (.cons "double" _ (.cons "character" _ (.cons "list" _ (.cons "expression" _ .nil))))))) hx'
    refine ⟨j_itemT (by k_mem) S3 (by omega) (by omega) (by exact h6) ?_⟩
    tb_look
    exact q _ _ _ _ _ _ S3.drop ⟨rfl, rfl, t6, x', rfl, hx'⟩
end Mine
end
/-! N4 -/
section
namespace Mine
theorem sp_ga0 (w : World) (x : Addr) (kv iv : Value) (y : Str) (t : Tok) (mu nv : Led) (V : VecAt nv x kv iv .none) : Spec (KK w) w 1 (.ref 28) [.ref x, .str y t] mu nv (Same mu nv fun v => v = .none) := by
  refine' Spec.plain (vr := ["v", "name"]) (vs := [some (.ref x), some (.str y t)]) (binds := [("v", .ref x), ("name", .str y t)]) ?ho ?hcd ?hbind ?hloc ?hm ?hcell ?hco ?hgen ?hk ?B
  case ho => (show List.lookup _ (Mine.hp.heap_1 w.params) = _; k_is)
  case hcd => (show codeIn (Mine.hp.heap_1 w.params) _ _ = _; k_is)
  case hbind => exact fun s _ => BindsTo.of_eq rfl
  case hloc => exact locs rfl
  case hm => exact binds_mV (ns := ["v", "name"]) (more := []) (vals := [.ref x, .str y t]) (k := 0) rfl (by decide)
  case hcell => decide
  case hco => rfl
  case hgen => rfl
  case hk => rfl
  intro prog A env g s Q hsc G M S q
  have l_v : IsLoc env ["v", "name"] "v" 0 := .of hsc rfl rfl
  have l_name : IsLoc env ["v", "name"] "name" 1 := .of hsc rfl rfl
  clear hsc
  tb_look
  exact q _ _ _ _ _ _ S ⟨rfl, rfl, rfl⟩
theorem sp_gaD (w : World) (x ad : Addr) (o : Obj) (kvs : List (Str × Value)) (kv iv : Value) (y : Str) (t : Tok) (r : Option Value) (mu nv : Led) (V : VecAt nv x kv iv (.ref ad)) (hm : (ad, o) ∈ nv) (D : AD w ad o kvs) (hr : valueAt kvs y = r) : Spec (KK w) w 1 (.ref 28) [.ref x, .str y t] mu nv (Same mu nv fun v => v = r.getD .none) := by
  refine' Spec.plain (vr := ["v", "name"]) (vs := [some (.ref x), some (.str y t)]) (binds := [("v", .ref x), ("name", .str y t)]) ?ho ?hcd ?hbind ?hloc ?hm ?hcell ?hco ?hgen ?hk ?B
  case ho => (show List.lookup _ (Mine.hp.heap_1 w.params) = _; k_is)
  case hcd => (show codeIn (Mine.hp.heap_1 w.params) _ _ = _; k_is)
  case hbind => exact fun s _ => BindsTo.of_eq rfl
  case hloc => exact locs rfl
  case hm => exact binds_mV (ns := ["v", "name"]) (more := []) (vals := [.ref x, .str y t]) (k := 0) rfl (by decide)
  case hcell => decide
  case hco => rfl
  case hgen => rfl
  case hk => rfl
  intro prog A env g s Q hsc G M S q
  have l_v : IsLoc env ["v", "name"] "v" 0 := .of hsc rfl rfl
  have l_name : IsLoc env ["v", "name"] "name" 1 := .of hsc rfl rfl
  clear hsc
  tb_look
  refine ⟨ad_meth D (List.mem_append_right _ hm) S (callWith_method1 ?_)⟩
  tb_look
  refine ⟨ad_get D (List.mem_append_right _ hm) S hr ?_⟩
  exact q _ _ _ _ _ _ S ⟨rfl, rfl, rfl⟩
theorem sp_dim (w : World) (x : Addr) (kv iv av : Value) (nm : Option (List Str)) (mu nv : Led) (V : VecAt nv x kv iv av) (hN : NmIn w nv av nm) : Spec (KK w) w 2 (.ref 40) [.ref x] mu nv (Same mu nv fun v => v = .none) := by
  refine' Spec.plain (vr := ["v", "dims"]) (vs := [some (.ref x), none]) (binds := [("v", .ref x)]) ?ho ?hcd ?hbind ?hloc ?hm ?hcell ?hco ?hgen ?hk ?B
  case ho => (show List.lookup _ (Mine.hp.heap_1 w.params) = _; k_is)
  case hcd => (show codeIn (Mine.hp.heap_1 w.params) _ _ = _; k_is)
  case hbind => exact fun s _ => BindsTo.of_eq rfl
  case hloc => exact locs rfl
  case hm => exact binds_mV (ns := ["v"]) (more := ["dims"]) (vals := [.ref x]) (k := 1) rfl (by decide)
  case hcell => decide
  case hco => rfl
  case hgen => rfl
  case hk => rfl
  intro prog A env g s Q hsc G M S q
  have l_v : IsLoc env ["v", "dims"] "v" 0 := .of hsc rfl rfl
  have l_dims : IsLoc env ["v", "dims"] "dims" 1 := .of hsc rfl rfl
  have gl_get_attr : IsGlb env "get_attr" := .of hsc rfl rfl
  have c_get_attr := c_get_attr w
  have gl_list : IsGlb env "list" := .of hsc rfl rfl
  have c_list := b_list w
  clear hsc
  tb_look
  have hg : ∀ t, Spec (KK w) w 1 (.ref 28) [.ref x, .str "dim" t] mu nv (Same mu nv fun v => v = .none) := fun t => by
    cases nm with
    | none => cases hN; exact sp_ga0 w x kv iv _ _ mu nv V
    | some ns =>
      obtain ⟨ad, o, a, rfl, hm, D, _⟩ := hN
      exact sp_gaD w x ad o _ kv iv _ _ none mu nv V hm D (by rfl)
  refine ⟨hg _ _ _ _ _ _ _ _ M S fun v h' tk mu' nv' S' P => ?_⟩
  obtain ⟨rfl, rfl, rfl⟩ := P
  tb_look
  exact q _ _ _ _ _ _ (by assumption) ⟨rfl, rfl, rfl⟩
/-- what names_of gives -/
noncomputable def NmOut (mu nv : Led) (nm : Option (List Str)) : Value → Led → Led → Prop := fun v mu' nv' => nv' = nv ∧ match nm with
  | none => v = .none ∧ mu' = mu
  | some ns => ∃ D c xs, v = .ref D ∧ mu' = (D, listOf xs c) :: mu ∧ StrsAre xs.toList ns
theorem sp_names (w : World) (x : Addr) (k : Kd) (kt : Tok) (iv av : Value) (nm : Option (List Str)) (mu nv : Led) (V : VecAt nv x (.str k.str kt) iv av) (hN : NmIn w nv av nm) (hz : ∀ ns, nm = some ns → ns.length ≤ 1000) : Spec (KK w) w 3 (.ref 33) [.ref x] mu nv (NmOut mu nv nm) := by
  refine' Spec.plain (vr := ["v", "tag", "dims", "rows", "names"]) (vs := [some (.ref x), none, none, none, none]) (binds := [("v", .ref x)]) ?ho ?hcd ?hbind ?hloc ?hm ?hcell ?hco ?hgen ?hk ?B
  case ho => (show List.lookup _ (Mine.hp.heap_1 w.params) = _; k_is)
  case hcd => (show codeIn (Mine.hp.heap_1 w.params) _ _ = _; k_is)
  case hbind => exact fun s _ => BindsTo.of_eq rfl
  case hloc => exact locs rfl
  case hm => exact binds_mV (ns := ["v"]) (more := ["tag", "dims", "rows", "names"]) (vals := [.ref x]) (k := 4) rfl (by decide)
  case hcell => decide
  case hco => rfl
  case hgen => rfl
  case hk => rfl
  intro prog A env g s Q hsc G M S q
  have l_v : IsLoc env ["v", "tag", "dims", "rows", "names"] "v" 0 := .of hsc rfl rfl
  have l_tag : IsLoc env ["v", "tag", "dims", "rows", "names"] "tag" 1 := .of hsc rfl rfl
  have l_dims : IsLoc env ["v", "tag", "dims", "rows", "names"] "dims" 2 := .of hsc rfl rfl
  have l_rows : IsLoc env ["v", "tag", "dims", "rows", "names"] "rows" 3 := .of hsc rfl rfl
  have l_names : IsLoc env ["v", "tag", "dims", "rows", "names"] "names" 4 := .of hsc rfl rfl
  have gl_dim_of : IsGlb env "dim_of" := .of hsc rfl rfl
  have c_dim_of := c_dim_of w
  have gl_get_attr : IsGlb env "get_attr" := .of hsc rfl rfl
  have c_get_attr := c_get_attr w
  have gl_list : IsGlb env "list" := .of hsc rfl rfl
  have c_list := b_list w
  have gl_len : IsGlb env "len" := .of hsc rfl rfl
  have c_len := b_len w
  clear hsc
  have e1 : (k.str == ("language" : Str)) = false := by cases k <;> rfl
  have e2 : (k.str == ("environment" : Str)) = false := by cases k <;> rfl
  tb_look
  refine ⟨sp_dim w x _ _ _ nm mu nv V hN _ _ _ _ _ _ _ M (by assumption) fun v h' tk mu' nv' S' P => ?_⟩
  obtain ⟨rfl, rfl, rfl⟩ := P
  tb_look
  rename_i S2
  cases nm with
  | none =>
    cases hN
    refine ⟨(sp_ga0 w x _ _ _ _ _ _ V).same (by decide) M S2 fun v h' tk S' P => ?_⟩
    obtain rfl := P
    tb_look
    exact q _ _ _ _ _ _ (by assumption) ⟨rfl, rfl, rfl⟩
  | some ns =>
    obtain ⟨ad, o, a, rfl, hm, D, hc⟩ := hN
    refine ⟨(sp_gaD w x ad o _ _ _ _ _ (some a) _ _ V hm D (by rfl)).same (by decide) M S2 fun v h' tk S' P => ?_⟩
    obtain rfl := P
    obtain ⟨a, iv', t', rfl, V', hs⟩ := hc
    obtain ⟨il, n, xs, rfl, hl, hi⟩ := hs
    simp only [Option.getD]
    tb_look
    have hz' : xs.size ≤ 1000 := by
      have h1 := hi.length
      have h2 := hz _ rfl
      rw [Array.length_toList] at h1
      omega
    refine ⟨j_list (List.mem_append_right _ hl) (by assumption) (by rw [sizeLine_eq]; omega) fun D c h' S' => ?_⟩
    tb_look
    exact q _ _ _ _ _ _ (by assumption) ⟨rfl, D, c, xs, rfl, rfl, hi⟩
/-- a fresh Vector of a copied list -/
noncomputable def Fresh (w : World) (nv' : Led) (v : Value) (k : Str) (xs : Array Value) : Prop := ∃ x il c t, v = .ref x ∧ VecAt nv' x (.str k t) (.ref il) .none ∧ (il, listOf xs c) ∈ nv'
theorem sp_char (w : World) (l : Addr) (xs : Array Value) (n : Nat) (mu nv : Led) (hm : (l, listOf xs n) ∈ mu ++ nv) (hz : xs.size ≤ 100000) : Spec (KK w) w 3 (.ref 339) [.ref l] mu nv (Grw mu nv fun v nv' => Fresh w nv' v "character" xs) := by
  refine' Spec.plain (vr := ["items"]) (vs := [some (.ref l)]) (binds := [("items", .ref l)]) ?ho ?hcd ?hbind ?hloc ?hm ?hcell ?hco ?hgen ?hk ?B
  case ho => (show List.lookup _ (Mine.hp.heap_1 w.params) = _; k_is)
  case hcd => (show codeIn (Mine.hp.heap_1 w.params) _ _ = _; k_is)
  case hbind => exact fun s _ => BindsTo.of_eq rfl
  case hloc => exact locs rfl
  case hm => exact binds_mV (ns := ["items"]) (more := []) (vals := [.ref l]) (k := 0) rfl (by decide)
  case hcell => decide
  case hco => rfl
  case hgen => rfl
  case hk => rfl
  intro prog A env g s Q hsc G M S q
  have l_items : IsLoc env ["items"] "items" 0 := .of hsc rfl rfl
  have gl_Vector : IsGlb env "Vector" := .of hsc rfl rfl
  have c_Vector := c_Vector w
  have gl_list : IsGlb env "list" := .of hsc rfl rfl
  have c_list := b_list w
  clear hsc
  tb_look
  refine ⟨j_list hm S (by rw [sizeLine_eq]; omega) fun D c h' S' => ?_⟩
  tb_look
  refine ⟨sp_V2 w _ _ _ _ _ _ _ _ _ _ _ M S' fun v h' tk mu' nv' S2 P => ?_⟩
  obtain ⟨x, dx, o, rfl, V, rfl, rfl⟩ := P
  exact q _ _ _ _ _ _ S2.keep1.keep1 ⟨rfl, Gr.cons _ (Gr.cons _ (Gr.cons _ (Gr.refl _))), x, D, c, _, rfl, ⟨dx, o, .tail _ (.tail _ (.head _)), .tail _ (.head _), V⟩, .head _⟩
theorem sp_int (w : World) (l : Addr) (xs : Array Value) (n : Nat) (mu nv : Led) (hm : (l, listOf xs n) ∈ mu ++ nv) (hz : xs.size ≤ 100000) : Spec (KK w) w 3 (.ref 332) [.ref l] mu nv (Grw mu nv fun v nv' => Fresh w nv' v "integer" xs) := by
  refine' Spec.plain (vr := ["items"]) (vs := [some (.ref l)]) (binds := [("items", .ref l)]) ?ho ?hcd ?hbind ?hloc ?hm ?hcell ?hco ?hgen ?hk ?B
  case ho => (show List.lookup _ (Mine.hp.heap_1 w.params) = _; k_is)
  case hcd => (show codeIn (Mine.hp.heap_1 w.params) _ _ = _; k_is)
  case hbind => exact fun s _ => BindsTo.of_eq rfl
  case hloc => exact locs rfl
  case hm => exact binds_mV (ns := ["items"]) (more := []) (vals := [.ref l]) (k := 0) rfl (by decide)
  case hcell => decide
  case hco => rfl
  case hgen => rfl
  case hk => rfl
  intro prog A env g s Q hsc G M S q
  have l_items : IsLoc env ["items"] "items" 0 := .of hsc rfl rfl
  have gl_Vector : IsGlb env "Vector" := .of hsc rfl rfl
  have c_Vector := c_Vector w
  have gl_list : IsGlb env "list" := .of hsc rfl rfl
  have c_list := b_list w
  clear hsc
  tb_look
  refine ⟨j_list hm S (by rw [sizeLine_eq]; omega) fun D c h' S' => ?_⟩
  tb_look
  refine ⟨sp_V2 w _ _ _ _ _ _ _ _ _ _ _ M S' fun v h' tk mu' nv' S2 P => ?_⟩
  obtain ⟨x, dx, o, rfl, V, rfl, rfl⟩ := P
  exact q _ _ _ _ _ _ S2.keep1.keep1 ⟨rfl, Gr.cons _ (Gr.cons _ (Gr.cons _ (Gr.refl _))), x, D, c, _, rfl, ⟨dx, o, .tail _ (.tail _ (.head _)), .tail _ (.head _), V⟩, .head _⟩
end Mine
end
/-! N5 -/
section
namespace Mine
theorem Fresh.ch {w : World} {nv : Led} {v : Value} {xs : Array Value} {ns : List Str} (h : Fresh w nv v "character" xs) (hi : StrsAre xs.toList ns) : ChVec nv v ns := by
  obtain ⟨x, il, c, t, rfl, V, hl⟩ := h
  exact ⟨x, _, t, rfl, V, il, c, xs, rfl, hl, hi⟩
/-- a fresh Vector with its names set -/
noncomputable def NamedOut (w : World) (x dx : Addr) (kv iv : Value) (mu nv : Led) (nm : Option (List Str)) : Value → Led → Led → Prop := fun v mu' nv' => v = .ref x ∧ Gr nv nv' ∧ ∃ o' av', mu' = (dx, o') :: mu ∧ VD o' kv iv av' ∧ NmIn w nv' av' nm
theorem sp_named (w : World) (x dx : Addr) (o : Obj) (kv iv nav : Value) (nm : Option (List Str)) (mu nv : Led) (hx : (x, instObj 314 dx) ∈ nv) (V : VD o kv iv .none) (hN : NmArg (mu ++ nv) nav nm) (hz : ∀ ns, nm = some ns → ns.length ≤ 1000) : Spec (KK w) w 4 (.ref 346) [.ref x, nav] ((dx, o) :: mu) nv (NamedOut w x dx kv iv mu nv nm) := by
  refine' Spec.plain (vr := ["v", "names"]) (vs := [some (.ref x), some (nav)]) (binds := [("v", .ref x), ("names", nav)]) ?ho ?hcd ?hbind ?hloc ?hm ?hcell ?hco ?hgen ?hk ?B
  case ho => (show List.lookup _ (Mine.hp.heap_1 w.params) = _; k_is)
  case hcd => (show codeIn (Mine.hp.heap_1 w.params) _ _ = _; k_is)
  case hbind => exact fun s _ => BindsTo.of_eq rfl
  case hloc => exact locs rfl
  case hm => exact binds_mV (ns := ["v", "names"]) (more := []) (vals := [.ref x, nav]) (k := 0) rfl (by decide)
  case hcell => decide
  case hco => rfl
  case hgen => rfl
  case hk => rfl
  intro prog A env g s Q hsc G M S q
  have l_v : IsLoc env ["v", "names"] "v" 0 := .of hsc rfl rfl
  have l_names : IsLoc env ["v", "names"] "names" 1 := .of hsc rfl rfl
  have gl_character : IsGlb env "character" := .of hsc rfl rfl
  have c_character := c_character w
  clear hsc
  cases nm with
  | none =>
    cases hN
    tb_look
    exact q _ _ _ _ _ _ S ⟨rfl, Gr.refl _, o, _, rfl, V, rfl⟩
  | some ns =>
    obtain ⟨l, n, xs, rfl, hl, hi⟩ := hN
    have hz' : xs.size ≤ 1000 := by
      have h1 := hi.length
      have h2 := hz _ rfl
      rw [Array.length_toList] at h1
      omega
    tb_look
    refine ⟨ad_new1 M S fun a oa h' tk S2 => ?_⟩
    tb_look
    refine ⟨sp_char w l xs n _ _ (by exact .tail _ (.tail _ hl)) (by omega) _ _ _ _ _ _ _ M S2 fun v h' tk mu' nv' S3 P => ?_⟩
    obtain ⟨rfl, g, hF⟩ := P
    refine ⟨_, _, S3, fun h' oa' tk D S4 => ?_⟩
    tb_look
    refine ⟨vd_setAttrs M S4.swap (by exact .tail _ (List.mem_append_right _ (g.inst hx))) V (os_attrs w) fun h' o' V' S5 => ?_⟩
    have S6 := S5.swap.keep1
    tb_look
    exact q _ _ _ _ _ _ S6 ⟨rfl, Gr.cons _ g, o', _, rfl, V', a, oa', v, rfl, .head _, D, (hF.ch hi).gr (Gr.cons _ (Gr.refl _))⟩
theorem sp_withn (w : World) (x dx : Addr) (o : Obj) (kv iv nav : Value) (nm : Option (List Str)) (mu nv : Led) (hx : (x, instObj 314 dx) ∈ nv) (V : VD o kv iv .none) (hN : NmArg (mu ++ nv) nav nm) (hz : ∀ ns, nm = some ns → ns.length ≤ 1000) : Spec (KK w) w 4 (.ref 490) [.ref x, nav] ((dx, o) :: mu) nv (NamedOut w x dx kv iv mu nv nm) := by
  refine' Spec.plain (vr := ["v", "names"]) (vs := [some (.ref x), some (nav)]) (binds := [("v", .ref x), ("names", nav)]) ?ho ?hcd ?hbind ?hloc ?hm ?hcell ?hco ?hgen ?hk ?B
  case ho => (show List.lookup _ (Mine.hp.heap_1 w.params) = _; k_is)
  case hcd => (show codeIn (Mine.hp.heap_1 w.params) _ _ = _; k_is)
  case hbind => exact fun s _ => BindsTo.of_eq rfl
  case hloc => exact locs rfl
  case hm => exact binds_mV (ns := ["v", "names"]) (more := []) (vals := [.ref x, nav]) (k := 0) rfl (by decide)
  case hcell => decide
  case hco => rfl
  case hgen => rfl
  case hk => rfl
  intro prog A env g s Q hsc G M S q
  have l_v : IsLoc env ["v", "names"] "v" 0 := .of hsc rfl rfl
  have l_names : IsLoc env ["v", "names"] "names" 1 := .of hsc rfl rfl
  have gl_share : IsGlb env "share" := .of hsc rfl rfl
  have c_share := c_share w
  have gl_character : IsGlb env "character" := .of hsc rfl rfl
  have c_character := c_character w
  clear hsc
  cases nm with
  | none =>
    cases hN
    tb_look
    exact q _ _ _ _ _ _ S ⟨rfl, Gr.refl _, o, _, rfl, V, rfl⟩
  | some ns =>
    obtain ⟨l, n, xs, rfl, hl, hi⟩ := hN
    have hz' : xs.size ≤ 1000 := by
      have h1 := hi.length
      have h2 := hz _ rfl
      rw [Array.length_toList] at h1
      omega
    tb_look
    refine ⟨ad_new1 M S fun a oa h' tk S2 => ?_⟩
    tb_look
    refine ⟨sp_char w l xs n _ _ (by exact .tail _ (.tail _ hl)) (by omega) _ _ _ _ _ _ _ M S2 fun v h' tk mu' nv' S3 P => ?_⟩
    obtain ⟨rfl, g, hF⟩ := P
    obtain ⟨y, iy, ty, rfl, Vy, hiy⟩ := hF.ch hi
    tb_look
    refine ⟨(sp_shareV w y _ _ _ _ _ Vy).grw (by decide) M S3 fun v h' tk nv'' S3 g2 P => ?_⟩
    obtain rfl := P
    refine ⟨_, _, S3, fun h' oa' tk D S4 => ?_⟩
    tb_look
    refine ⟨vd_setAttrs M S4.swap (by exact .tail _ (List.mem_append_right _ (g2.inst (g.inst hx)))) V (os_attrs w) fun h' o' V' S5 => ?_⟩
    have S6 := S5.swap.keep1
    tb_look
    exact q _ _ _ _ _ _ S6 ⟨rfl, Gr.cons _ (g.trans g2), o', _, rfl, V', a, oa', _, rfl, .head _, D, ChVec.gr (g2.trans (Gr.cons _ (Gr.refl _))) ⟨y, iy, ty, rfl, Vy, hiy⟩⟩
end Mine
end
/-! N6 -/
section
namespace Mine
theorem sp_share (w : World) (v : Value) (mu nv : Led) (H : Shr nv v) : Spec (KK w) w 1 (.ref 380) [v] mu nv (Grw mu nv fun v' _ => v' = v) := by
  rcases H with ⟨x, kv, iv, av, rfl, V⟩ | ⟨x, rfl, N⟩
  · exact sp_shareV w x kv iv av mu nv V
  · exact sp_shareN w x mu nv N
/-- a list-Vector of what was handed in -/
noncomputable def ListOut (w : World) (nv' : Led) (v : Value) (xs : List Value) (nm : Option (List Str)) : Prop := ∃ x il c t av, v = .ref x ∧ VecAt nv' x (.str "list" t) (.ref il) av ∧ (il, listOf xs.toArray c) ∈ nv' ∧ NmIn w nv' av nm
theorem sp_listof2 (w : World) (l : Addr) (xs : Array Value) (n : Nat) (nav : Value) (nm : Option (List Str)) (mu nv : Led) (hm : (l, listOf xs n) ∈ mu ++ nv) (hs : ∀ v ∈ xs.toList, Shr nv v) (hN : NmArg (mu ++ nv) nav nm) (hz : ∀ ns, nm = some ns → ns.length ≤ 1000) (hz2 : xs.size ≤ 1000) :
    Spec (KK w) w 5 (.ref 352) [.ref l, nav] mu nv (Grw mu nv fun v nv' => ListOut w nv' v xs.toList nm) := by
  refine' Spec.plain (vr := ["items", "names"]) (vs := [some (.ref l), some (nav)]) (binds := [("items", .ref l), ("names", nav)]) ?ho ?hcd ?hbind ?hloc ?hm ?hcell ?hco ?hgen ?hk ?B
  case ho => (show List.lookup _ (Mine.hp.heap_1 w.params) = _; k_is)
  case hcd => (show codeIn (Mine.hp.heap_1 w.params) _ _ = _; k_is)
  case hbind => exact fun s X => kp_binds X fun S => by (show peek (Mine.hp.heap_1 w.params) _ _ = _; kernel_rfl)
  case hloc => exact locs rfl
  case hm => exact binds_mV (ns := ["items", "names"]) (more := []) (vals := [.ref l, nav]) (k := 0) rfl (by decide)
  case hcell => decide
  case hco => rfl
  case hgen => rfl
  case hk => rfl
  intro prog A env g s Q hsc G M S q
  have l_items : IsLoc env ["items", "names"] "items" 0 := .of hsc rfl rfl
  have l_names : IsLoc env ["items", "names"] "names" 1 := .of hsc rfl rfl
  have gl_named : IsGlb env "named" := .of hsc rfl rfl
  have c_named := c_named w
  have gl_Vector : IsGlb env "Vector" := .of hsc rfl rfl
  have c_Vector := c_Vector w
  clear hsc
  tb_look
  refine ⟨e_comp (fun i acc mu' nv' => mu' = mu ∧ Gr nv nv' ∧ acc = xs.toList.take i) M S (clos_none rfl) (by decide) rfl (by decide) rfl ?_⟩
  tb_look
  refine ⟨_, _, mu, nv, .list rfl (S.mem hm) (.inr fun i acc mu' nv' _ h => ?_), S, by rw [sizeLine_eq]; omega, ⟨rfl, Gr.refl _, rfl⟩, CompTurn.plain ?_, ?_⟩
  · obtain ⟨rfl, g, _⟩ := h
    exact mem_gr g hm
  · rintro I i v acc mu' nv' C oC D k io' env' h tk QL hi hv ⟨rfl, gg, rfl⟩ _ ce hk hin S2
    revert S2; (repeat (rename Sta _ _ _ _ _ _ => So; clear So)); intro S2
    have G' := ce.g G hk
    have cv := ce.var hin (x := "item") rfl (by decide)
    have gl_sh : IsGlb env' "share" := ce.glb rfl (by decide)
    have c_sh := c_share w
    rw [← Array.getElem?_toList] at hv
    tb_look
    refine ⟨(sp_share w v _ _ ((hs v (List.mem_of_getElem? hv)).gr gg)).grw (by decide) M S2 fun v' h' tk nv'' S3 g2 P => ?_⟩
    obtain rfl := P
    exact CompEnd.mk' S3 ⟨rfl, gg.trans g2, by rw [List.take_succ, hv]; rfl⟩
  · rintro acc mu' nv' D k h tk ⟨rfl, gg, rfl⟩ hl S2
    revert S2; (repeat (rename Sta _ _ _ _ _ _ => So; clear So)); intro S2
    rw [List.take_of_length_le (by simp)] at S2
    tb_look
    refine ⟨((sp_V2 w _ _ _ _).less (by decide)) _ _ _ _ _ _ _ M S2.keep1 fun v' h' tk mu'' nv'' S3 P => ?_⟩
    obtain ⟨x, dx, o, rfl, V, rfl, rfl⟩ := P
    tb_look
    have hN' : NmArg (mu' ++ (x, instObj 314 dx) :: (D, listOf xs.toList.toArray k) :: nv') nav nm := by
      cases nm with
      | none => exact hN
      | some ns =>
        obtain ⟨l2, n2, xs2, e, h2, h3⟩ := hN
        exact ⟨l2, n2, xs2, e, mem_gr (Gr.cons _ (Gr.cons _ gg)) h2, h3⟩
    refine ⟨(sp_named w x dx o _ _ nav nm _ _ (.head _) V hN' hz) _ _ _ _ _ _ _ M S3 fun v' h' tk mu'' nv'' S4 P => ?_⟩
    obtain ⟨rfl, g3, o', av', rfl, V', hN2⟩ := P
    exact q _ _ _ _ _ _ S4.keep1 ⟨rfl, (gg.trans (Gr.cons _ (Gr.cons _ (Gr.refl _)))).trans (g3.trans (Gr.cons _ (Gr.refl _))), x, D, k, _, av', rfl, ⟨dx, o', .tail _ (g3.inst (.head _)), .head _, V'⟩,
      .tail _ (g3.list (.tail _ (.head _))), hN2.gr (Gr.cons _ (Gr.refl _))⟩
end Mine
end
/-! N8 -/
section
namespace Mine
noncomputable def nw (n d : Int) : Int := let low := n.fdiv d; let rest := 2 * (n - low * d); if rest > d ∨ (rest = d ∧ low.fmod 2 = 1) then low + 1 else low
theorem sp_nw (w : World) (n d : Int) (t u : Tok) (mu nv : Led) (h0 : 0 < d) (h1 : d < 1000) (hn : 0 ≤ n) (h2 : n < 10 ^ 17) : Spec (KK w) w 1 (.ref 136) [.int n t, .int d u] mu nv (Same mu nv fun v => ∃ t, v = .int (nw n d) t) := by
  refine' Spec.plain (vr := ["n", "d", "low", "rest"]) (vs := [some (.int n t), some (.int d u), none, none]) (binds := [("n", .int n t), ("d", .int d u)]) ?ho ?hcd ?hbind ?hloc ?hm ?hcell ?hco ?hgen ?hk ?B
  case ho => (show List.lookup _ (Mine.hp.heap_1 w.params) = _; k_is)
  case hcd => (show codeIn (Mine.hp.heap_1 w.params) _ _ = _; k_is)
  case hbind => exact fun s _ => BindsTo.of_eq rfl
  case hloc => exact locs rfl
  case hm => exact binds_mV (ns := ["n", "d"]) (more := ["low", "rest"]) (vals := [.int n t, .int d u]) (k := 2) rfl (by decide)
  case hcell => decide
  case hco => rfl
  case hgen => rfl
  case hk => rfl
  intro prog A env g s Q hsc G M S q
  have l_n : IsLoc env ["n", "d", "low", "rest"] "n" 0 := .of hsc rfl rfl
  have l_d : IsLoc env ["n", "d", "low", "rest"] "d" 1 := .of hsc rfl rfl
  have l_low : IsLoc env ["n", "d", "low", "rest"] "low" 2 := .of hsc rfl rfl
  have l_rest : IsLoc env ["n", "d", "low", "rest"] "rest" 3 := .of hsc rfl rfl
  clear hsc
  tb_look
  refine ⟨j_fdiv (by omega) (by omega) ?_⟩
  tb_look
  refine ⟨j_mulR (by omega) ?_⟩
  tb_look
  refine ⟨j_mulL (by decide) ?_⟩
  tb_look
  all_goals (refine q _ _ _ _ _ _ (by assumption) ⟨rfl, rfl, _, congrArg (Value.int · _) ?_⟩; simp only [nw]; simp_all <;> (intros; omega))
theorem sp_special (w : World) (a : Addr) (n d : Int) (mu nv : Led) (R : RatAt nv a n d) (h0 : 0 < d) : Spec (KK w) w 1 (.ref 157) [.ref a] mu nv (Same mu nv fun v => v = .none) := by
  refine' Spec.plain (vr := ["x"]) (vs := [some (.ref a)]) (binds := [("x", .ref a)]) ?ho ?hcd ?hbind ?hloc ?hm ?hcell ?hco ?hgen ?hk ?B
  case ho => (show List.lookup _ (Mine.hp.heap_1 w.params) = _; k_is)
  case hcd => (show codeIn (Mine.hp.heap_1 w.params) _ _ = _; k_is)
  case hbind => exact fun s _ => BindsTo.of_eq rfl
  case hloc => exact locs rfl
  case hm => exact binds_mV (ns := ["x"]) (more := []) (vals := [.ref a]) (k := 0) rfl (by decide)
  case hcell => decide
  case hco => rfl
  case hgen => rfl
  case hk => rfl
  intro prog A env g s Q hsc G M S q
  have l_x : IsLoc env ["x"] "x" 0 := .of hsc rfl rfl
  clear hsc
  have hd : decide (d > 0) = true := by simpa using h0
  tb_look
  exact q _ _ _ _ _ _ S ⟨rfl, rfl, rfl⟩
theorem sp_whole (w : World) (n : Int) (t : Tok) (mu nv : Led) (h0 : 0 ≤ n) (h2 : n < 10 ^ 17) : Spec (KK w) w 1 (.ref 150) [.int n t] mu nv (Same mu nv fun v => ∃ t, v = .str (toString n) t) := by
  refine' Spec.plain (vr := ["n", "rest", "row", "part"]) (vs := [some (.int n t), none, none, none]) (binds := [("n", .int n t)]) ?ho ?hcd ?hbind ?hloc ?hm ?hcell ?hco ?hgen ?hk ?B
  case ho => (show List.lookup _ (Mine.hp.heap_1 w.params) = _; k_is)
  case hcd => (show codeIn (Mine.hp.heap_1 w.params) _ _ = _; k_is)
  case hbind => exact fun s _ => BindsTo.of_eq rfl
  case hloc => exact locs rfl
  case hm => exact binds_mV (ns := ["n"]) (more := ["rest", "row", "part"]) (vals := [.int n t]) (k := 3) rfl (by decide)
  case hcell => decide
  case hco => rfl
  case hgen => rfl
  case hk => rfl
  intro prog A env g s Q hsc G M S q
  have l_n : IsLoc env ["n", "rest", "row", "part"] "n" 0 := .of hsc rfl rfl
  have l_rest : IsLoc env ["n", "rest", "row", "part"] "rest" 1 := .of hsc rfl rfl
  have l_row : IsLoc env ["n", "rest", "row", "part"] "row" 2 := .of hsc rfl rfl
  have l_part : IsLoc env ["n", "rest", "row", "part"] "part" 3 := .of hsc rfl rfl
  have gl_abs : IsGlb env "abs" := .of hsc rfl rfl
  have c_abs := b_abs w
  have gl_str : IsGlb env "str" := .of hsc rfl rfl
  have c_str := b_str w
  clear hsc
  tb_look
  refine ⟨j_new (by assumption) (by simp [sizeLine_eq]) fun D h' S' => ?_⟩
  tb_look
  refine ⟨x_while (fun _ s' => ∃ h' tk u, s' = { s with heap := h', toks := tk } ∧ Sta g env.locals h' (mV ["n", "rest", "row", "part"] [some (.int n t), some (.int n.natAbs u), some (.ref D), none]) ((D, listOf #[] 0) :: mu) nv) 0 ⟨_, _, _, rfl, by assumption⟩ ?_⟩
  rintro k s' QL ⟨h2', tk, u, rfl, S2⟩
  tb_look
  refine ⟨j_pow10 (by decide) (by decide) ?_⟩
  rw [show (10 : Int) ^ (18 : Int).toNat = 1000000000000000000 by decide]
  have e1 : decide ((n.natAbs : Int) ≥ 1000000000000000000) = false := decide_eq_false (by omega)
  tb_look
  have e2 : (n.natAbs : Int) = n := by omega
  refine ⟨PySem.P.str_of_int (int_log2 (by omega)) ?_⟩
  tb_look
  refine ⟨j_append (xs := []) S2 (by simp) fun n2 h3 S3 => ?_⟩
  have e3 : decide (n < 0) = false := decide_eq_false (by omega)
  tb_look
  refine ⟨j_reverse S3 (by simp) fun n2 h3 S3 => ?_⟩
  tb_look
  refine ⟨PyProof.Rows.join_list (S3.isList (by k_mem)) (.cons _ _ .nil) ?_ fun t' k => ?_⟩
  · have := int_len (n := (n.natAbs : Int)) (by omega)
    simp only [List.map_cons, List.map_nil, List.sum_cons, List.sum_nil, List.length_cons, List.length_nil]
    have h0 : (Str.ofString "").length = 0 := rfl
    omega
  · tb_look
    exact q _ _ _ _ _ _ S3.drop ⟨rfl, rfl, t', by rw [e2]; simp [retOf, join_one]⟩
end Mine
end
/-! N9 -/
section
namespace Mine
noncomputable def ex (N d : Int) : Int := if N ≥ 10 * d then 1 else if N < d then -1 else 0
theorem sp_expo (w : World) (a : Addr) (n d : Int) (mu nv : Led) (R : RatAt nv a n d) (h1 : 1 ≤ n.natAbs) (h2 : n.natAbs < 100 * d) (h3 : d ≤ n.natAbs * 10) (h4 : 0 < d) (h5 : d < 10) : Spec (KK w) w 1 (.ref 143) [.ref a] mu nv (Same mu nv fun v => ∃ t, v = .int (ex n.natAbs d) t) := by
  refine' Spec.plain (vr := ["x", "n", "d", "e"]) (vs := [some (.ref a), none, none, none]) (binds := [("x", .ref a)]) ?ho ?hcd ?hbind ?hloc ?hm ?hcell ?hco ?hgen ?hk ?B
  case ho => (show List.lookup _ (Mine.hp.heap_1 w.params) = _; k_is)
  case hcd => (show codeIn (Mine.hp.heap_1 w.params) _ _ = _; k_is)
  case hbind => exact fun s _ => BindsTo.of_eq rfl
  case hloc => exact locs rfl
  case hm => exact binds_mV (ns := ["x"]) (more := ["n", "d", "e"]) (vals := [.ref a]) (k := 3) rfl (by decide)
  case hcell => decide
  case hco => rfl
  case hgen => rfl
  case hk => rfl
  intro prog A env g s Q hsc G M S q
  have l_x : IsLoc env ["x", "n", "d", "e"] "x" 0 := .of hsc rfl rfl
  have l_n : IsLoc env ["x", "n", "d", "e"] "n" 1 := .of hsc rfl rfl
  have l_d : IsLoc env ["x", "n", "d", "e"] "d" 2 := .of hsc rfl rfl
  have l_e : IsLoc env ["x", "n", "d", "e"] "e" 3 := .of hsc rfl rfl
  have gl_abs : IsGlb env "abs" := .of hsc rfl rfl
  have c_abs := b_abs w
  clear hsc
  generalize hN : (n.natAbs : Int) = N at *
  tb_look
  refine ⟨x_while (fun k s' => ∃ h' tk t0 t1 t2 D E, s' = { s with heap := h', toks := tk } ∧ Sta g env.locals h' (mV ["x", "n", "d", "e"] [some (.ref a), some (.int N t0), some (.int D t1), some (.int E t2)]) mu nv ∧ ((k = 1 ∧ D = d ∧ E = 0) ∨ (k = 0 ∧ D = d * 10 ∧ E = 1 ∧ N ≥ 10 * d))) 1 ⟨_, _, _, _, _, _, _, rfl, (by rw [hN] at *; assumption), .inl ⟨rfl, rfl, rfl⟩⟩ ?_⟩
  rintro k s' QL ⟨h', tk, t0, t1, t2, D, E, rfl, S2, hk⟩
  tb_look
  refine ⟨j_mulL (by decide) ?_⟩
  tb_look
  · rename_i ec
    refine ⟨j_mulR (by decide) ?_⟩
    tb_look
    have ec' := of_decide_eq_true ec
    rcases hk with ⟨rfl, rfl, rfl⟩ | ⟨rfl, rfl, rfl, h⟩
    · exact ⟨0, by decide, _, _, _, _, _, _, _, rfl, by assumption, .inr ⟨rfl, rfl, rfl, ec'⟩⟩
    · omega
  · rename_i ec
    have ec' := of_decide_eq_false ec
    refine ⟨x_while (fun k s' => ∃ h' tk t0 t1 t2 N' E', s' = { s with heap := h', toks := tk } ∧ Sta g env.locals h' (mV ["x", "n", "d", "e"] [some (.ref a), some (.int N' t0), some (.int D t1), some (.int E' t2)]) mu nv ∧ ((k = 1 ∧ N' = N ∧ E' = E) ∨ (k = 0 ∧ N' = N * 10 ∧ E' = E - 1 ∧ N < D))) 1 ⟨_, _, _, _, _, _, _, rfl, S2, .inl ⟨rfl, rfl, rfl⟩⟩ ?_⟩
    rintro k' s' QL ⟨h', tk, t0, t1, t2, N', E', rfl, S2, hk'⟩
    tb_look
    · rename_i ed
      have ed' := of_decide_eq_true ed
      refine ⟨j_mulR (by decide) ?_⟩
      tb_look
      rcases hk' with ⟨rfl, rfl, rfl⟩ | ⟨rfl, rfl, rfl, h⟩
      · exact ⟨0, by decide, _, _, _, _, _, _, _, rfl, by assumption, .inr ⟨rfl, rfl, rfl, ed'⟩⟩
      · rcases hk with ⟨rfl, rfl, rfl⟩ | ⟨rfl, rfl, rfl, h⟩ <;> omega
    · rename_i ed
      have ed' := of_decide_eq_false ed
      refine q _ _ _ _ _ _ S2 ⟨rfl, rfl, _, congrArg (Value.int · _) ?_⟩
      unfold ex
      rcases hk' with ⟨rfl, rfl, rfl⟩ | ⟨rfl, rfl, rfl, h⟩ <;> rcases hk with ⟨rfl, rfl, rfl⟩ | ⟨rfl, rfl, rfl, h'⟩ <;> (repeat' split) <;> omega
end Mine
end
/-! N10 -/
section
namespace Mine
theorem sp_scaled (w : World) (a : Addr) (n d e : Int) (t u : Tok) (mu nv : Led) (R : RatAt nv a n d) (h0 : n.natAbs ≤ 40) (h4 : 0 < d) (h5 : d < 10) (he0 : -1 ≤ e) (he1 : e ≤ 14) : Spec (KK w) w 2 (.ref 164) [.ref a, .int e t, .int 15 u] mu nv (Same mu nv fun v => ∃ t, v = .int (nw (n.natAbs * 10 ^ (14 - e).toNat) d) t) := by
  refine' Spec.plain (vr := ["x", "e", "digits", "shift"]) (vs := [some (.ref a), some (.int e t), some (.int 15 u), none]) (binds := [("x", .ref a), ("e", .int e t), ("digits", .int 15 u)]) ?ho ?hcd ?hbind ?hloc ?hm ?hcell ?hco ?hgen ?hk ?B
  case ho => (show List.lookup _ (Mine.hp.heap_1 w.params) = _; k_is)
  case hcd => (show codeIn (Mine.hp.heap_1 w.params) _ _ = _; k_is)
  case hbind => exact fun s _ => BindsTo.of_eq rfl
  case hloc => exact locs rfl
  case hm => exact binds_mV (ns := ["x", "e", "digits"]) (more := ["shift"]) (vals := [.ref a, .int e t, .int 15 u]) (k := 1) rfl (by decide)
  case hcell => decide
  case hco => rfl
  case hgen => rfl
  case hk => rfl
  intro prog A env g s Q hsc G M S q
  have l_x : IsLoc env ["x", "e", "digits", "shift"] "x" 0 := .of hsc rfl rfl
  have l_e : IsLoc env ["x", "e", "digits", "shift"] "e" 1 := .of hsc rfl rfl
  have l_digits : IsLoc env ["x", "e", "digits", "shift"] "digits" 2 := .of hsc rfl rfl
  have l_shift : IsLoc env ["x", "e", "digits", "shift"] "shift" 3 := .of hsc rfl rfl
  have gl_nearest_whole : IsGlb env "nearest_whole" := .of hsc rfl rfl
  have c_nearest_whole := c_nearest_whole w
  have gl_abs : IsGlb env "abs" := .of hsc rfl rfl
  have c_abs := b_abs w
  clear hsc
  have h1 : decide (15 - 1 - e ≥ 0) = true := decide_eq_true (by omega)
  tb_look
  refine ⟨j_pow10 (by omega) (by omega) ?_⟩
  tb_look
  refine ⟨j_mulL (by omega) ?_⟩
  tb_look
  have h15 : (10 : Int) ^ (15 - 1 - e).toNat ≤ 10 ^ 15 := by
    have : (15 - 1 - e).toNat ≤ 15 := by omega
    exact_mod_cast Nat.pow_le_pow_right (by decide : 0 < 10) this
  have h16 : (0 : Int) ≤ 10 ^ (15 - 1 - e).toNat := Int.le_of_lt (Int.pow_pos (by decide))
  have h17 : (n.natAbs : Int) * 10 ^ (15 - 1 - e).toNat ≤ 40 * 10 ^ 15 := Int.mul_le_mul (by omega) h15 h16 (by decide)
  refine ⟨sp_nw w _ d _ _ _ _ h4 (by omega) (Int.mul_nonneg (by omega) h16) (by omega) _ _ _ _ _ _ _ M (by assumption) fun v h' tk mu' nv' S' P => ?_⟩
  obtain ⟨rfl, rfl, t', rfl⟩ := P
  exact q _ _ _ _ _ _ S' ⟨rfl, rfl, t', rfl⟩
noncomputable def sg (n d : Int) : Int × Str × Int := if n = 0 then (0, "000000000000000", 0) else (if n > 0 then 1 else -1, toString (nw (n.natAbs * 10 ^ (14 - ex n.natAbs d).toNat) d), ex n.natAbs d)
/-- the numbers that are told -/
structure RatOk (n d : Int) : Prop where
  a : n.natAbs ≤ 20
  d0 : 0 < d
  d1 : d ≤ 2
  s : n = 0 ∨ (1 ≤ n.natAbs ∧ n.natAbs < 20 * d + 1 ∧ d ≤ n.natAbs * 10)
theorem ex_range (N d : Int) : -1 ≤ ex N d ∧ ex N d ≤ 1 := by unfold ex; (repeat' split) <;> omega
noncomputable def SigAt (nv' : Led) (v : Value) (r : Int × Str × Int) : Prop := ∃ D k t1 t2 t3, v = .ref D ∧ (D, tupOf #[.int r.1 t1, .str r.2.1 t2, .int r.2.2 t3] k) ∈ nv'
theorem sp_sig (w : World) (a : Addr) (n d : Int) (u : Tok) (mu nv : Led) (R : RatAt nv a n d) (h0 : RatOk n d) (hb : n ≠ 0 → nw (n.natAbs * 10 ^ (14 - ex n.natAbs d).toNat) d < 10 ^ 15) (hb0 : n ≠ 0 → 0 ≤ nw (n.natAbs * 10 ^ (14 - ex n.natAbs d).toNat) d) :
    Spec (KK w) w 3 (.ref 171) [.ref a, .int 15 u] mu nv (Grw mu nv fun v nv' => SigAt nv' v (sg n d)) := by
  obtain ⟨h1, h2, h3, h4⟩ := h0
  refine' Spec.plain (vr := ["x", "digits", "e", "n"]) (vs := [some (.ref a), some (.int 15 u), none, none]) (binds := [("x", .ref a), ("digits", .int 15 u)]) ?ho ?hcd ?hbind ?hloc ?hm ?hcell ?hco ?hgen ?hk ?B
  case ho => (show List.lookup _ (Mine.hp.heap_1 w.params) = _; k_is)
  case hcd => (show codeIn (Mine.hp.heap_1 w.params) _ _ = _; k_is)
  case hbind => exact fun s _ => BindsTo.of_eq rfl
  case hloc => exact locs rfl
  case hm => exact binds_mV (ns := ["x", "digits"]) (more := ["e", "n"]) (vals := [.ref a, .int 15 u]) (k := 2) rfl (by decide)
  case hcell => decide
  case hco => rfl
  case hgen => rfl
  case hk => rfl
  intro prog A env g s Q hsc G M S q
  have l_x : IsLoc env ["x", "digits", "e", "n"] "x" 0 := .of hsc rfl rfl
  have l_digits : IsLoc env ["x", "digits", "e", "n"] "digits" 1 := .of hsc rfl rfl
  have l_e : IsLoc env ["x", "digits", "e", "n"] "e" 2 := .of hsc rfl rfl
  have l_n : IsLoc env ["x", "digits", "e", "n"] "n" 3 := .of hsc rfl rfl
  have gl_exponent : IsGlb env "exponent" := .of hsc rfl rfl
  have c_exponent := c_exponent w
  have gl_scaled : IsGlb env "scaled" := .of hsc rfl rfl
  have c_scaled := c_scaled w
  have gl_str : IsGlb env "str" := .of hsc rfl rfl
  have c_str := b_str w
  clear hsc
  tb_look
  · rename_i e
    have e : n = 0 := by simpa using e
    subst e
    refine ⟨PySem.P.mul_str (by decide) (fun _ _ => by decide) (fun _ _ => by decide) ?_⟩
    rw [if_neg (by decide), if_neg (by decide)]
    refine ⟨by decide, ?_⟩
    tb_look
    refine ⟨j_newT S (by simp [sizeLine_eq]) fun D h' S' => ?_⟩
    exact q _ _ _ _ _ _ S' ⟨rfl, Gr.cons _ (Gr.refl _), D, _, _, _, _, rfl, .head _⟩
  · rename_i e
    have e : n ≠ 0 := by simpa using e
    refine ⟨(sp_expo w a n d _ _ R (by omega) (by omega) (by omega) h2 (by omega)).same (by decide) M S fun v h' tk S' P => ?_⟩
    obtain ⟨t', rfl⟩ := P
    tb_look
    have h7 := ex_range n.natAbs d
    refine ⟨sp_scaled w a n d _ _ _ _ _ R (by omega) h2 (by omega) h7.1 (by omega) _ _ _ _ _ _ _ M (by assumption) fun v h' tk mu' nv' S' P => ?_⟩
    obtain ⟨rfl, rfl, t', rfl⟩ := P
    tb_look
    refine ⟨j_pow10 (by decide) (by decide) ?_⟩
    rw [show (10 : Int) ^ (15 : Int).toNat = 10 ^ 15 by decide]
    have e1 : decide (nw (n.natAbs * 10 ^ (14 - ex n.natAbs d).toNat) d ≥ 10 ^ 15) = false := decide_eq_false (by have := hb e; omega)
    tb_look
    all_goals (
      rename_i en
      refine ⟨PySem.P.str_of_int (int_log2 (by have := hb e; have := hb0 e; omega)) ?_⟩
      tb_look
      refine ⟨j_newT (by assumption) (by simp [sizeLine_eq]) fun D h' S' => ?_⟩
      first
        | (have en := of_decide_eq_true en; rw [sg, if_neg e, if_pos en] at q; exact q _ _ _ _ _ _ S' ⟨rfl, Gr.cons _ (Gr.refl _), D, _, _, _, _, rfl, .head _⟩)
        | (have en := of_decide_eq_false en; rw [sg, if_neg e, if_neg en] at q; exact q _ _ _ _ _ _ S' ⟨rfl, Gr.cons _ (Gr.refl _), D, _, _, _, _, rfl, .head _⟩))
end Mine
end
/-! N11 -/
section
namespace Mine
noncomputable def endN (x : Str) : Nat → Nat
  | 0 => 0
  | 1 => 1
  | k + 2 => if (Txt.item x (k + 1) == "0") = true then endN x (k + 1) else k + 2
theorem endN_le (x : Str) : ∀ k, endN x k ≤ k
  | 0 => Nat.le_refl _
  | 1 => Nat.le_refl _
  | k + 2 => by
    unfold endN
    split
    · exact Nat.le_trans (endN_le x (k + 1)) (by omega)
    · exact Nat.le_refl _
theorem sp_notail (w : World) (x : Str) (t : Tok) (mu nv : Led) (h1 : x.length ≤ 1000) : Spec (KK w) w 1 (.ref 178) [.str x t] mu nv (Same mu nv fun v => ∃ t, v = .str (Txt.slice x none (some (endN x x.length : Nat))) t) := by
  refine' Spec.plain (vr := ["text", "end"]) (vs := [some (.str x t), none]) (binds := [("text", .str x t)]) ?ho ?hcd ?hbind ?hloc ?hm ?hcell ?hco ?hgen ?hk ?B
  case ho => (show List.lookup _ (Mine.hp.heap_1 w.params) = _; k_is)
  case hcd => (show codeIn (Mine.hp.heap_1 w.params) _ _ = _; k_is)
  case hbind => exact fun s _ => BindsTo.of_eq rfl
  case hloc => exact locs rfl
  case hm => exact binds_mV (ns := ["text"]) (more := ["end"]) (vals := [.str x t]) (k := 1) rfl (by decide)
  case hcell => decide
  case hco => rfl
  case hgen => rfl
  case hk => rfl
  intro prog A env g s Q hsc G M S q
  have l_text : IsLoc env ["text", "end"] "text" 0 := .of hsc rfl rfl
  have l_end : IsLoc env ["text", "end"] "end" 1 := .of hsc rfl rfl
  have gl_len : IsGlb env "len" := .of hsc rfl rfl
  have c_len := b_len w
  clear hsc
  tb_look
  refine ⟨PyProof.Rows.len_str (by omega) ?_⟩
  tb_look
  refine ⟨x_while (fun k s' => ∃ h' tk t0, s' = { s with heap := h', toks := tk } ∧ Sta g env.locals h' (mV ["text", "end"] [some (.str x t), some (.int (k : Nat) t0)]) mu nv ∧ k ≤ x.length ∧ endN x k = endN x x.length) x.length ⟨_, _, _, rfl, by assumption, Nat.le_refl _, rfl⟩ ?_⟩
  rintro k s' QL ⟨h', tk, t0, rfl, S2, hk, he⟩
  tb_look
  · rename_i ec
    have ec' := of_decide_eq_true ec
    refine ⟨PyProof.Rows.item_str (by unfold fitsSsize; simp; omega) (by omega) (by omega) fun _ => ?_⟩
    tb_look
    · rename_i ed h9 S3
      rw [show (k : Int) - 1 = ((k - 1 : Nat) : Int) by omega] at S3
      refine ⟨k - 1, by omega, _, _, _, rfl, S3, by omega, ?_⟩
      rw [← he]
      obtain ⟨j, rfl⟩ : ∃ j, k = j + 2 := ⟨k - 2, by omega⟩
      rw [show endN x (j + 2) = (if (Txt.item x (j + 1) == "0") = true then endN x (j + 1) else j + 2) from rfl, if_pos]
      · rfl
      · rw [← ed]
        congr 2
        omega
    · rename_i ed
      refine ⟨j_slns S2 h1 fun h' t' k2 S' => ?_⟩
      tb_look
      have e : endN x k = k := by
        obtain ⟨j, rfl⟩ : ∃ j, k = j + 2 := ⟨k - 2, by omega⟩
        rw [show endN x (j + 2) = (if (Txt.item x (j + 1) == "0") = true then endN x (j + 1) else j + 2) from rfl, if_neg]
        have e1 : ((j + 2 : Nat) : Int) - 1 = (j : Int) + 1 := by omega
        rw [e1] at ed
        rw [ed]
        decide
      refine q _ _ _ _ _ _ S' ⟨rfl, rfl, t', ?_⟩
      rw [← he, e]
      rfl
  · rename_i ec
    have ec' := of_decide_eq_false ec
    refine ⟨j_slns S2 h1 fun h' t' k2 S' => ?_⟩
    tb_look
    have e : endN x k = k := by
      rcases k with _ | _ | k
      · rfl
      · rfl
      · omega
    refine q _ _ _ _ _ _ S' ⟨rfl, rfl, t', ?_⟩
    rw [← he, e]
    rfl
end Mine
namespace Mine
theorem str_len_app (x y : Str) : (x ++ y).length = x.length + y.length := by
  show (x.cps ++ y.cps).size = x.cps.size + y.cps.size
  exact Array.size_append
noncomputable def fxT (n d : Int) (p : Nat) : Str :=
  let t := Txt.rjustF (toString (nw (n.natAbs * 10 ^ p) d)) ((p : Int) + 1) 48
  let t2 := if 0 < p then (Txt.slice t none (some ((t.length : Int) - p)) ++ ".") ++ Txt.slice t (some ((t.length : Int) - p)) none else t
  if n < 0 then "-" ++ t2 else t2
theorem sp_fixed (w : World) (a : Addr) (n d : Int) (p : Nat) (t : Tok) (mu nv : Led) (R : RatAt nv a n d) (h0 : RatOk n d) (hp : p ≤ 3) (hb : nw (n.natAbs * 10 ^ p) d < 10 ^ 15) (hb0 : 0 ≤ nw (n.natAbs * 10 ^ p) d) :
    Spec (KK w) w 2 (.ref 192) [.ref a, .int (p : Nat) t] mu nv (Same mu nv fun v => ∃ t, v = .str (fxT n d p) t) := by
  obtain ⟨h1, h2, h3, h4⟩ := h0
  refine' Spec.plain (vr := ["x", "places", "n", "text"]) (vs := [some (.ref a), some (.int (p : Nat) t), none, none]) (binds := [("x", .ref a), ("places", .int (p : Nat) t)]) ?ho ?hcd ?hbind ?hloc ?hm ?hcell ?hco ?hgen ?hk ?B
  case ho => (show List.lookup _ (Mine.hp.heap_1 w.params) = _; k_is)
  case hcd => (show codeIn (Mine.hp.heap_1 w.params) _ _ = _; k_is)
  case hbind => exact fun s _ => BindsTo.of_eq rfl
  case hloc => exact locs rfl
  case hm => exact binds_mV (ns := ["x", "places"]) (more := ["n", "text"]) (vals := [.ref a, .int (p : Nat) t]) (k := 2) rfl (by decide)
  case hcell => decide
  case hco => rfl
  case hgen => rfl
  case hk => rfl
  intro prog A env g s Q hsc G M S q
  have l_x : IsLoc env ["x", "places", "n", "text"] "x" 0 := .of hsc rfl rfl
  have l_places : IsLoc env ["x", "places", "n", "text"] "places" 1 := .of hsc rfl rfl
  have l_n : IsLoc env ["x", "places", "n", "text"] "n" 2 := .of hsc rfl rfl
  have l_text : IsLoc env ["x", "places", "n", "text"] "text" 3 := .of hsc rfl rfl
  have gl_nearest_whole : IsGlb env "nearest_whole" := .of hsc rfl rfl
  have c_nearest_whole := c_nearest_whole w
  have gl_abs : IsGlb env "abs" := .of hsc rfl rfl
  have c_abs := b_abs w
  have gl_whole_text : IsGlb env "whole_text" := .of hsc rfl rfl
  have c_whole_text := c_whole_text w
  have gl_len : IsGlb env "len" := .of hsc rfl rfl
  have c_len := b_len w
  clear hsc
  tb_look
  refine ⟨j_pow10 (by omega) (by omega) ?_⟩
  rw [Int.toNat_natCast]
  tb_look
  refine ⟨j_mulL (by omega) ?_⟩
  tb_look
  have h15 : (10 : Int) ^ p ≤ 10 ^ 3 := by exact_mod_cast Nat.pow_le_pow_right (by decide : 0 < 10) hp
  have h16 : (0 : Int) ≤ 10 ^ p := Int.le_of_lt (Int.pow_pos (by decide))
  have h17 : (n.natAbs : Int) * 10 ^ p ≤ 20 * 10 ^ 3 := Int.mul_le_mul (by omega) h15 h16 (by decide)
  refine ⟨(sp_nw w _ d _ _ _ _ h2 (by omega) (Int.mul_nonneg (by omega) h16) (by omega)).same (by decide) M (by assumption) fun v h' tk S' P => ?_⟩
  obtain ⟨t', rfl⟩ := P
  tb_look
  refine ⟨(sp_whole w _ _ _ _ hb0 (by omega)).same (by decide) M (by assumption) fun v h' tk S' P => ?_⟩
  obtain ⟨t', rfl⟩ := P
  tb_look
  refine ⟨j_rjust (by omega) (by omega) fun t' k2 => ?_⟩
  have hl1 := int_len (n := nw (n.natAbs * 10 ^ p) d) (by omega)
  have hl2 := len_rjustF (x := toString (nw (n.natAbs * 10 ^ p) d)) (i := (p : Int) + 1) (c := 48)
  tb_look
  · rename_i ep
    have ep' := of_decide_eq_true ep
    have ep2 : 0 < p := by omega
    generalize hT : Txt.rjustF (Str.ofString (toString (nw (n.natAbs * 10 ^ p) d))) ((p : Int) + 1) 48 = T at *
    refine ⟨PyProof.Rows.len_str (by omega) ?_⟩
    tb_look
    refine ⟨j_slns (by assumption) (by omega) fun h' t' k2 S' => ?_⟩
    tb_look
    have hs1 := PyProof.Txt.length_slice_le T none (some ((T.length : Int) - p))
    refine ⟨PyProof.Rows.add_str (fun t' tk => ?_) (by rw [sizeLine_eq]; have : (Str.ofString ".").length = 1 := rfl; omega)⟩
    tb_look
    refine ⟨PyProof.Rows.len_str (by omega) ?_⟩
    tb_look
    refine ⟨j_slsn S' (by omega) fun h' t' k2 S' => ?_⟩
    tb_look
    have hs2 := PyProof.Txt.length_slice_le T (some ((T.length : Int) - p)) none
    have hs3 : (Txt.slice T none (some ((T.length : Int) - p)) ++ (Str.ofString ".")).length = (Txt.slice T none (some ((T.length : Int) - p))).length + 1 := str_len_app _ _
    refine ⟨PyProof.Rows.add_str (fun t' tk => ?_) (by rw [sizeLine_eq]; omega)⟩
    have hs4 := str_len_app (Txt.slice T none (some ((T.length : Int) - p)) ++ (Str.ofString ".")) (Txt.slice T (some ((T.length : Int) - p)) none)
    tb_look
    · rename_i en
      have en' := of_decide_eq_true en
      refine ⟨PyProof.Rows.add_str (fun t' tk => ?_) (by rw [sizeLine_eq]; have : (Str.ofString "-").length = 1 := rfl; omega)⟩
      tb_look
      refine q _ _ _ _ _ _ (by assumption) ⟨rfl, rfl, _, congrArg (Value.str · _) ?_⟩
      (simp only [fxT, hT, if_pos ep2, if_pos en']) <;> rfl
    · rename_i en
      have en' := of_decide_eq_false en
      refine q _ _ _ _ _ _ (by assumption) ⟨rfl, rfl, _, congrArg (Value.str · _) ?_⟩
      (simp only [fxT, hT, if_pos ep2, if_neg en']) <;> rfl
  · have ep2 : ¬ 0 < p := by simp_all
    have en' : n < 0 := by simp_all
    refine ⟨PyProof.Rows.add_str (fun t' tk => ?_) (by rw [sizeLine_eq]; have : (Str.ofString "-").length = 1 := rfl; omega)⟩
    tb_look
    refine q _ _ _ _ _ _ (by assumption) ⟨rfl, rfl, _, congrArg (Value.str · _) ?_⟩
    (simp only [fxT, if_neg ep2, if_pos en']) <;> rfl
  · have ep2 : ¬ 0 < p := by simp_all
    have en' : ¬ n < 0 := by simp_all
    refine q _ _ _ _ _ _ (by assumption) ⟨rfl, rfl, _, congrArg (Value.str · _) ?_⟩
    (simp only [fxT, if_neg ep2, if_neg en']) <;> rfl
end Mine
end
/-! N12 -/
section
namespace Mine
noncomputable def ms (n d : Int) : Int × Int × Int × Int :=
  let r := sg n d
  let c : Int := (Txt.slice r.2.1 none (some (endN r.2.1 r.2.1.length : Nat))).length
  (c, if n < 0 then max r.2.2 0 + 1 + 1 else max r.2.2 0 + 1, max (c - 1 - r.2.2) 0, r.2.2)
/-- what is known of the number -/
structure RatFit (n d : Int) : Prop where
  ok : RatOk n d
  hb : n ≠ 0 → nw (n.natAbs * 10 ^ (14 - ex n.natAbs d).toNat) d < 10 ^ 15
  hb0 : n ≠ 0 → 0 ≤ nw (n.natAbs * 10 ^ (14 - ex n.natAbs d).toNat) d
theorem sg_len {n d : Int} (H : RatFit n d) : (sg n d).2.1.length ≤ 19 := by
  unfold sg
  by_cases e : n = 0
  · rw [if_pos e]; decide
  · rw [if_neg e]
    exact int_len (by have := H.hb e; have := H.hb0 e; omega)
noncomputable def MsAt (nv' : Led) (v : Value) (r : Int × Int × Int × Int) : Prop := ∃ D k t1 t2 t3 t4, v = .ref D ∧ (D, tupOf #[.int r.1 t1, .int r.2.1 t2, .int r.2.2.1 t3, .int r.2.2.2 t4] k) ∈ nv'
theorem sp_meas (w : World) (a : Addr) (n d : Int) (u : Tok) (mu nv : Led) (R : RatAt nv a n d) (H : RatFit n d) :
    Spec (KK w) w 4 (.ref 199) [.ref a, .int 15 u] mu nv (Grw mu nv fun v nv' => MsAt nv' v (ms n d)) := by
  refine' Spec.plain (vr := ["x", "digits", "side", "text", "e", "count", "left"]) (vs := [some (.ref a), some (.int 15 u), none, none, none, none, none]) (binds := [("x", .ref a), ("digits", .int 15 u)]) ?ho ?hcd ?hbind ?hloc ?hm ?hcell ?hco ?hgen ?hk ?B
  case ho => (show List.lookup _ (Mine.hp.heap_1 w.params) = _; k_is)
  case hcd => (show codeIn (Mine.hp.heap_1 w.params) _ _ = _; k_is)
  case hbind => exact fun s _ => BindsTo.of_eq rfl
  case hloc => exact locs rfl
  case hm => exact binds_mV (ns := ["x", "digits"]) (more := ["side", "text", "e", "count", "left"]) (vals := [.ref a, .int 15 u]) (k := 5) rfl (by decide)
  case hcell => decide
  case hco => rfl
  case hgen => rfl
  case hk => rfl
  intro prog A env g s Q hsc G M S q
  have l_x : IsLoc env ["x", "digits", "side", "text", "e", "count", "left"] "x" 0 := .of hsc rfl rfl
  have l_digits : IsLoc env ["x", "digits", "side", "text", "e", "count", "left"] "digits" 1 := .of hsc rfl rfl
  have l_side : IsLoc env ["x", "digits", "side", "text", "e", "count", "left"] "side" 2 := .of hsc rfl rfl
  have l_text : IsLoc env ["x", "digits", "side", "text", "e", "count", "left"] "text" 3 := .of hsc rfl rfl
  have l_e : IsLoc env ["x", "digits", "side", "text", "e", "count", "left"] "e" 4 := .of hsc rfl rfl
  have l_count : IsLoc env ["x", "digits", "side", "text", "e", "count", "left"] "count" 5 := .of hsc rfl rfl
  have l_left : IsLoc env ["x", "digits", "side", "text", "e", "count", "left"] "left" 6 := .of hsc rfl rfl
  have gl_significant : IsGlb env "significant" := .of hsc rfl rfl
  have c_significant := c_significant w
  have gl_len : IsGlb env "len" := .of hsc rfl rfl
  have c_len := b_len w
  have gl_without_tail : IsGlb env "without_tail" := .of hsc rfl rfl
  have c_without_tail := c_without_tail w
  have gl_max : IsGlb env "max" := .of hsc rfl rfl
  have c_max := b_max w
  clear hsc
  tb_look
  refine ⟨x_asg3' M S ?_⟩
  tb_look
  refine ⟨sp_sig w a n d u _ _ R H.ok H.hb H.hb0 _ _ _ _ _ _ _ M S fun v h' tk mu' nv' S' P => ?_⟩
  obtain ⟨rfl, g1, D, k, t1, t2, t3, rfl, hD⟩ := P
  have hl := sg_len H
  generalize hr : sg n d = r at *
  have R' := R.gr g1
  refine ⟨_, _, _, _, _, _, _, rfl, List.mem_append_right _ hD, S', fun h' S'' => ?_⟩
  tb_look
  refine ⟨(sp_notail w r.2.1 _ _ _ (by omega)).same (by decide) M (by assumption) fun v h' tk S' P => ?_⟩
  obtain ⟨t', rfl⟩ := P
  tb_look
  have hl2 := PyProof.Txt.length_slice_le r.2.1 none (some ((endN r.2.1 r.2.1.length : Nat) : Int))
  refine ⟨PyProof.Rows.len_str (by omega) ?_⟩
  tb_look
  refine ⟨j_max M (by assumption) fun h' tk t5 S5 => ?_⟩
  tb_look
  · have en' : n < 0 := by simp_all
    refine ⟨j_max M (by assumption) fun h' tk t5 S5 => ?_⟩
    tb_look
    refine ⟨j_newT S5 (by simp [sizeLine_eq]) fun D h' S' => ?_⟩
    simp only [ms, hr, if_pos en'] at q
    exact q _ _ _ _ _ _ S' ⟨rfl, Gr.cons _ g1, D, _, _, _, _, _, rfl, .head _⟩
  · have en' : ¬ n < 0 := by simp_all
    refine ⟨j_max M (by assumption) fun h' tk t5 S5 => ?_⟩
    tb_look
    refine ⟨j_newT S5 (by simp [sizeLine_eq]) fun D h' S' => ?_⟩
    simp only [ms, hr, if_neg en'] at q
    exact q _ _ _ _ _ _ S' ⟨rfl, Gr.cons _ g1, D, _, _, _, _, _, rfl, .head _⟩
/-- the places after the point; the fixed form is taken -/
noncomputable def cfFix (n d : Int) : Prop :=
  let r := ms n d
  max 1 r.2.1 + (if max 0 r.2.2.1 > 0 then max 0 r.2.2.1 + 1 else 0) ≤ (if n < 0 then 1 else 0) + (if max 1 r.1 > 1 then max 1 r.1 + 1 else 1) + 4 + 0
theorem sp_form (w : World) (l a : Addr) (k : Nat) (n d : Int) (u : Tok) (mu nv : Led) (hl : (l, listOf #[.ref a] k) ∈ mu ++ nv) (R : RatAt nv a n d) (H : RatFit n d) (hf : cfFix n d) (he : (ms n d).2.2.2.natAbs < 100) :
    Spec (KK w) w 5 (.ref 206) [.ref l, .int 15 u] mu nv (Grw mu nv fun v nv' => ∃ D k t1 t2, v = .ref D ∧ (D, tupOf #[.str "fixed" t1, .int (max 0 (ms n d).2.2.1) t2] k) ∈ nv') := by
  refine' Spec.plain (vr := ["xs", "digits", "count", "left", "places", "wide", "minus", "x", "row", "fixed_width", "scientific_width"]) (vs := [some (.ref l), some (.int 15 u), none, none, none, none, none, none, none, none, none]) (binds := [("xs", .ref l), ("digits", .int 15 u)]) ?ho ?hcd ?hbind ?hloc ?hm ?hcell ?hco ?hgen ?hk ?B
  case ho => (show List.lookup _ (Mine.hp.heap_1 w.params) = _; k_is)
  case hcd => (show codeIn (Mine.hp.heap_1 w.params) _ _ = _; k_is)
  case hbind => exact fun s _ => BindsTo.of_eq rfl
  case hloc => exact locs rfl
  case hm => exact binds_mV (ns := ["xs", "digits"]) (more := ["count", "left", "places", "wide", "minus", "x", "row", "fixed_width", "scientific_width"]) (vals := [.ref l, .int 15 u]) (k := 9) rfl (by decide)
  case hcell => decide
  case hco => rfl
  case hgen => rfl
  case hk => rfl
  intro prog A env g s Q hsc G M S q
  have l_xs : IsLoc env ["xs", "digits", "count", "left", "places", "wide", "minus", "x", "row", "fixed_width", "scientific_width"] "xs" 0 := .of hsc rfl rfl
  have l_digits : IsLoc env ["xs", "digits", "count", "left", "places", "wide", "minus", "x", "row", "fixed_width", "scientific_width"] "digits" 1 := .of hsc rfl rfl
  have l_count : IsLoc env ["xs", "digits", "count", "left", "places", "wide", "minus", "x", "row", "fixed_width", "scientific_width"] "count" 2 := .of hsc rfl rfl
  have l_left : IsLoc env ["xs", "digits", "count", "left", "places", "wide", "minus", "x", "row", "fixed_width", "scientific_width"] "left" 3 := .of hsc rfl rfl
  have l_places : IsLoc env ["xs", "digits", "count", "left", "places", "wide", "minus", "x", "row", "fixed_width", "scientific_width"] "places" 4 := .of hsc rfl rfl
  have l_wide : IsLoc env ["xs", "digits", "count", "left", "places", "wide", "minus", "x", "row", "fixed_width", "scientific_width"] "wide" 5 := .of hsc rfl rfl
  have l_minus : IsLoc env ["xs", "digits", "count", "left", "places", "wide", "minus", "x", "row", "fixed_width", "scientific_width"] "minus" 6 := .of hsc rfl rfl
  have l_x : IsLoc env ["xs", "digits", "count", "left", "places", "wide", "minus", "x", "row", "fixed_width", "scientific_width"] "x" 7 := .of hsc rfl rfl
  have l_row : IsLoc env ["xs", "digits", "count", "left", "places", "wide", "minus", "x", "row", "fixed_width", "scientific_width"] "row" 8 := .of hsc rfl rfl
  have l_fixed_width : IsLoc env ["xs", "digits", "count", "left", "places", "wide", "minus", "x", "row", "fixed_width", "scientific_width"] "fixed_width" 9 := .of hsc rfl rfl
  have l_scientific_width : IsLoc env ["xs", "digits", "count", "left", "places", "wide", "minus", "x", "row", "fixed_width", "scientific_width"] "scientific_width" 10 := .of hsc rfl rfl
  have gl_measures : IsGlb env "measures" := .of hsc rfl rfl
  have c_measures := c_measures w
  have gl_max : IsGlb env "max" := .of hsc rfl rfl
  have c_max := b_max w
  have gl_abs : IsGlb env "abs" := .of hsc rfl rfl
  have c_abs := b_abs w
  have gl_len : IsGlb env "len" := .of hsc rfl rfl
  have c_len := b_len w
  have gl_str : IsGlb env "str" := .of hsc rfl rfl
  have c_str := b_str w
  clear hsc
  tb_look
  rename_i h9 S9
  generalize hr : ms n d = r at *
  refine ⟨x_forL (fun i vs mu' nv' => mu' = mu ∧ Gr nv nv' ∧ ∃ c lf p mi t1 t2 t3 t4 t5 x row, vs = [some (.ref l), some (.int 15 u), some (.int c t1), some (.int lf t2), some (.int p t3), some (.int 0 t4), some (.int mi t5), x, row, none, none] ∧
    ((i = 0 ∧ c = 1 ∧ lf = 1 ∧ p = 0 ∧ mi = 0) ∨ (i = 1 ∧ c = max 1 r.1 ∧ lf = max 1 r.2.1 ∧ p = max 0 r.2.2.1 ∧ mi = if n < 0 then 1 else 0))) l_x G M (by rintro i vs mu' nv' ⟨_, _, _, _, _, _, _, _, _, _, _, _, _, rfl, _⟩; rfl) ?_⟩
  tb_look
  refine ⟨l, _, _, _, _, _, rfl, S9, ⟨rfl, Gr.refl _, 1, 1, 0, 0, _, _, _, _, _, _, _, rfl, .inl ⟨rfl, rfl, rfl, rfl, rfl⟩⟩, S9.mem hl, .inr ?_, ?_, ?_⟩
  · rintro i vs mu' nv' _ ⟨rfl, g1, _⟩
    exact mem_gr g1 hl
  · rintro I i v vs mu' nv' io h tk QL hi hv ⟨rfl, g1, c, lf, p, mi, t1, t2, t3, t4, t5, x, row, rfl, hc⟩ S3
    revert S3; (repeat (rename Sta _ _ _ _ _ _ => So; clear So)); intro S3
    have hi0 : i = 0 := by simpa using hi
    subst hi0
    obtain rfl : v = .ref a := by simpa using hv.symm
    rcases hc with ⟨_, rfl, rfl, rfl, rfl⟩ | ⟨h1, _⟩
    · have R' := R.gr g1
      tb_look
      refine ⟨sp_meas w a n d u _ _ R' H _ _ _ _ _ _ _ M S3 fun v h' tk mu' nv2 S4 P => ?_⟩
      obtain ⟨rfl, g2, D, k, u1, u2, u3, u4, rfl, hD⟩ := P
      rw [hr] at hD
      have R'' := R'.gr g2
      tb_look
      refine ⟨j_max M (by assumption) fun h' tk t5 S5 => ?_⟩
      tb_look
      refine ⟨j_max M (by assumption) fun h' tk t5 S5 => ?_⟩
      tb_look
      refine ⟨j_max M (by assumption) fun h' tk t5 S5 => ?_⟩
      have he' : decide ((r.2.2.2.natAbs : Int) ≥ 100) = false := decide_eq_false (by omega)
      tb_look
      · rename_i en h9 S9
        have en' : n < 0 := by simpa using en
        exact ForQ.next S9 ⟨rfl, g1.trans g2, _, _, _, _, _, _, _, _, _, _, _, rfl, .inr ⟨rfl, rfl, rfl, rfl, by rw [if_pos en']⟩⟩
      · rename_i en
        have en' : ¬ n < 0 := by simpa using en
        refine ForQ.next (by assumption) ⟨rfl, g1.trans g2, _, _, _, _, _, _, _, _, _, _, _, rfl, .inr ⟨rfl, rfl, rfl, rfl, by rw [if_neg en']⟩⟩
    · cases h1
  · rintro vs mu' nv' h tk ⟨rfl, g1, c, lf, p, mi, t1, t2, t3, t4, t5, x, row, rfl, hc⟩ S3
    revert S3; (repeat (rename Sta _ _ _ _ _ _ => So; clear So)); intro S3
    rcases hc with ⟨h1, _⟩ | ⟨_, rfl, rfl, rfl, rfl⟩
    · cases h1
    · tb_look
      all_goals first
        | (refine ⟨j_newT (by assumption) (by simp [sizeLine_eq]) fun D h' S' => ?_⟩
           tb_look
           exact q _ _ _ _ _ _ S' ⟨rfl, Gr.cons _ g1, D, _, _, _, rfl, .head _⟩)
        | (exfalso
           simp only [cfFix, hr] at hf
           simp only [decide_eq_true_eq, decide_eq_false_iff_not] at *
           omega)
end Mine
end
/-! N13 -/
section
namespace Mine
theorem sp_formed (w : World) (a D : Addr) (k p : Nat) (P : Int) (t1 t2 : Tok) (n d : Int) (mu nv : Led) (R : RatAt nv a n d) (H : RatFit n d) (hD : (D, tupOf #[.str "fixed" t1, .int P t2] k) ∈ nv) (hP : P = (p : Int)) (hp : p ≤ 3) (hb : nw (n.natAbs * 10 ^ p) d < 10 ^ 15) (hb0 : 0 ≤ nw (n.natAbs * 10 ^ p) d) :
    Spec (KK w) w 3 (.ref 213) [.ref a, .ref D] mu nv (Same mu nv fun v => ∃ t, v = .str (fxT n d p) t) := by
  subst hP
  refine' Spec.plain (vr := ["x", "form", "text"]) (vs := [some (.ref a), some (.ref D), none]) (binds := [("x", .ref a), ("form", .ref D)]) ?ho ?hcd ?hbind ?hloc ?hm ?hcell ?hco ?hgen ?hk ?B
  case ho => (show List.lookup _ (Mine.hp.heap_1 w.params) = _; k_is)
  case hcd => (show codeIn (Mine.hp.heap_1 w.params) _ _ = _; k_is)
  case hbind => exact fun s _ => BindsTo.of_eq rfl
  case hloc => exact locs rfl
  case hm => exact binds_mV (ns := ["x", "form"]) (more := ["text"]) (vals := [.ref a, .ref D]) (k := 1) rfl (by decide)
  case hcell => decide
  case hco => rfl
  case hgen => rfl
  case hk => rfl
  intro prog A env g s Q hsc G M S q
  have l_x : IsLoc env ["x", "form", "text"] "x" 0 := .of hsc rfl rfl
  have l_form : IsLoc env ["x", "form", "text"] "form" 1 := .of hsc rfl rfl
  have l_text : IsLoc env ["x", "form", "text"] "text" 2 := .of hsc rfl rfl
  have gl_special_text : IsGlb env "special_text" := .of hsc rfl rfl
  have c_special_text := c_special_text w
  have gl_fixed_text : IsGlb env "fixed_text" := .of hsc rfl rfl
  have c_fixed_text := c_fixed_text w
  clear hsc
  have e0 : (("fixed" : Str) == "fixed") = true := beq_self_eq_true _
  tb_look
  refine ⟨(sp_special w a n d _ _ R H.ok.d0).same (by decide) M S fun v h' tk S4 P => ?_⟩
  obtain rfl := P
  tb_look
  refine ⟨sp_fixed w a n d p _ _ _ R H.ok hp hb hb0 _ _ _ _ _ _ _ M (by assumption) fun v h' tk mu' nv2 S5 P => ?_⟩
  obtain ⟨rfl, rfl, t', rfl⟩ := P
  tb_look
  exact q _ _ _ _ _ _ S5 ⟨rfl, rfl, t', rfl⟩
noncomputable def CL_common_texts : List (Str × Nat) := [("form", 0)]
theorem sp_ctexts (w : World) (l a : Addr) (k0 p : Nat) (n d : Int) (u : Tok) (mu nv : Led) (hl : (l, listOf #[.ref a] k0) ∈ mu ++ nv) (R : RatAt nv a n d) (H : RatFit n d) (hf : cfFix n d) (he : (ms n d).2.2.2.natAbs < 100) (hP : max 0 (ms n d).2.2.1 = (p : Int)) (hp : p ≤ 3) (hb : nw (n.natAbs * 10 ^ p) d < 10 ^ 15) (hb0 : 0 ≤ nw (n.natAbs * 10 ^ p) d) :
    Spec (KK w) w 6 (.ref 218) [.ref l, .int 15 u] mu nv (Grw mu nv fun v nv' => ∃ D k t, v = .ref D ∧ (D, listOf #[.str (fxT n d p) t] k) ∈ nv') := by
  refine' Spec.cells (vr := ["xs", "digits", "fractions"]) (vs := [some (.ref l), some (.int 15 u), none]) (binds := [("xs", .ref l), ("digits", .int 15 u)]) (cl := CL_common_texts) ?ho ?hcd ?hbind ?hkind ?hcl ?hcl1 ?hcl2 ?hm ?hco ?hgen ?hk ?B
  case ho => (show List.lookup _ (Mine.hp.heap_1 w.params) = _; k_is)
  case hcd => (show codeIn (Mine.hp.heap_1 w.params) _ _ = _; k_is)
  case hbind => exact fun s _ => BindsTo.of_eq rfl
  case hkind => rfl
  case hcl => exact fun n => rfl
  case hcl1 => decide
  case hcl2 => decide
  case hm => exact hm_cells (ns := ["xs", "digits"]) (more := ["fractions"]) (vals := [.ref l, .int 15 u]) (k := 1) (by rfl) rfl (by decide)
  case hco => rfl
  case hgen => rfl
  case hk => rfl
  intro prog A env g s Q cells hsc G M hce Y S q
  have l_xs : IsLoc env ["xs", "digits", "fractions"] "xs" 0 := .of hsc rfl rfl
  have l_digits : IsLoc env ["xs", "digits", "fractions"] "digits" 1 := .of hsc rfl rfl
  have l_fractions : IsLoc env ["xs", "digits", "fractions"] "fractions" 2 := .of hsc rfl rfl
  have kc_form : env.kindOf "form" = some .cell := kof hsc rfl
  have gl_chosen_form : IsGlb env "chosen_form" := .of hsc rfl rfl
  have c_chosen_form := c_chosen_form w
  obtain ⟨o, ho, rfl⟩ := cells1 Y
  have cc : CCel env "form" (env.locals + 1 + 0) := ⟨kc_form, rfl, rfl, by rw [hce]; rfl⟩
  clear hsc hce Y
  generalize env.locals + 1 + 0 = c at *
  simp only [List.singleton_append] at S
  tb_look
  refine ⟨x_asgComp (fun i acc mu' nv' => mu' = (c, o) :: mu ∧ nv' = nv ∧ acc = [Value.ref a].take i) M S l_fractions G rfl (swaps_loc G l_fractions rfl rfl) (clos_none rfl) (by decide) rfl (by decide) rfl ?_⟩
  tb_look
  refine ⟨_, _, _, nv, .list rfl (S.mem (by exact .tail _ hl)) (.inr fun i acc mu' nv' _ h => ?_), S, by rw [sizeLine_eq]; simp, ⟨rfl, rfl, rfl⟩, CompTurn.if1 ?_, ?_⟩
  · obtain ⟨rfl, rfl, _⟩ := h
    exact .tail _ hl
  · rintro I i v acc mu' nv' C oC D k io' env' h tk QL QN hi hv ⟨rfl, rfl, rfl⟩ _ ce hk hin S2
    revert S2; (repeat (rename Sta _ _ _ _ _ _ => So; clear So)); intro S2
    have hi0 : i = 0 := by simpa using hi
    subst hi0
    obtain rfl : v = .ref a := by simpa using hv.symm
    have G' := ce.g G hk
    have cv := ce.var hin (x := "x") rfl (by decide)
    have hd : decide (d > 0) = true := decide_eq_true H.ok.d0
    tb_look
    exact CompEnd.mk' S2 ⟨rfl, rfl, rfl⟩
  · rintro acc mu' nv' D k h tk ⟨rfl, rfl, rfl⟩ hl' S2
    revert S2; (repeat (rename Sta _ _ _ _ _ _ => So; clear So)); intro S2
    tb_look
    refine ⟨sp_form w D a k n d _ _ _ (.head _) R H hf he _ _ _ _ _ _ _ M S2 fun v h' tk mu' nv2 S3 P => ?_⟩
    obtain ⟨rfl, g1, D2, k2, t1, t2, rfl, hD2⟩ := P
    tb_look
    refine ⟨st_cl cc G S3.swap ho fun h' o' ho' S4 => ?_⟩
    have R' := R.gr g1
    tb_look
    have hl2 := fun {nv2 : Led} (gg : Gr nv' nv2) => mem_gr gg hl
    refine ⟨e_comp (fun i acc mu' nv' => mu' = (c, o') :: (D, listOf [Value.ref a].toArray k) :: mu ∧ nv' = nv2 ∧ ((i = 0 ∧ acc = []) ∨ ∃ t, i = 1 ∧ acc = [Value.str (fxT n d p) t])) M S4 (clos_list [("form", c)] rfl (by intro p hp; rw [List.mem_singleton.mp hp]; exact cc.c)) (by decide) rfl (by decide) rfl ?_⟩
    tb_look
    refine ⟨_, _, _, _, .list rfl (S4.mem (by exact .tail _ (.tail _ (hl2 g1)))) (.inr fun i acc mu' nv' _ h => ?_), S4, by rw [sizeLine_eq]; simp, ⟨rfl, rfl, .inl ⟨rfl, rfl⟩⟩, CompTurn.plain ?_, ?_⟩
    · obtain ⟨rfl, rfl, _⟩ := h
      exact .tail _ (.tail _ (hl2 g1))
    · rintro I i v acc mu' nv' C oC D3 k3 io' env' h tk QL hi hv ⟨rfl, rfl, hacc⟩ _ ce hk hin S5
      revert S5; (repeat (rename Sta _ _ _ _ _ _ => So; clear So)); intro S5
      have hi0 : i = 0 := by simpa using hi
      subst hi0
      obtain rfl : v = .ref a := by simpa using hv.symm
      have ha : acc = [] := by
        rcases hacc with ⟨_, h⟩ | ⟨_, h, _⟩
        · exact h
        · cases h
      subst ha
      have G' := ce.g G hk
      have cv := ce.var hin (x := "x") rfl (by decide)
      have cc' : CCel env' "form" c := ⟨ce.kindF G cc.k rfl, rfl, rfl, by rw [ce.cells]; rfl⟩
      have gl_f : IsGlb env' "formed" := ce.glb rfl (by decide)
      have c_f := c_formed w
      tb_look
      refine ⟨(sp_formed w a D2 k2 p _ t1 t2 n d _ _ R' H hD2 hP hp hb hb0).same (by decide) M S5 fun v' h' tk S6 P => ?_⟩
      obtain ⟨t', rfl⟩ := P
      exact CompEnd.mk' S6 ⟨rfl, rfl, .inr ⟨t', rfl, rfl⟩⟩
    · rintro acc mu' nv' D3 k3 h tk ⟨rfl, rfl, hacc⟩ hl' S5
      revert S5; (repeat (rename Sta _ _ _ _ _ _ => So; clear So)); intro S5
      obtain ⟨t, rfl⟩ : ∃ t, acc = [Value.str (fxT n d p) t] := by
        rcases hacc with ⟨h, _⟩ | ⟨t, _, h⟩
        · cases h
        · exact ⟨t, h⟩
      exact q _ _ _ _ _ _ S5.keep1.drop.drop ⟨rfl, Gr.cons _ g1, D3, k3, t, rfl, .head _⟩
end Mine
end
/-! N14 -/
section
namespace Mine
section
variable {prog : Program} {w : World} {A : Around} {s : Shared} {h₀ h : Heap} {L : Addr} {m : Str → Option Value} {mu nv : Led}
/-- an item, whatever stands before the bracket -/
theorem j_itemC {value slice : Expr} {l : Addr} {xs : Array Value} {n : Nat} {k : Int} {u : Tok} {x : Value} {Q : Value → Shared → Prop} (hm : (l, listOf xs n) ∈ mu ++ nv) (S : Sta h₀ L s.heap m mu nv) (h0 : 0 ≤ k) (hf : k < 2 ^ 63) (hx : xs.toList[k.toNat]? = some x) (q : Q x s)
    (hs : subscripted slice false (.ref l) (.int k u) = operate [.ref l, .int k u] (getItem (.ref l) (.int k u)) := by with_unfolding_all rfl) :
    wp prog w A (subscriptTail value slice (.ref l) (.int k u)) Q s :=
  kba_turn (value' := PySem.Expr.Name (PySem.Str.ofString "_") ⟨0, 0, 0, 0⟩) (fun _ => rfl) (j_item hm S h0 hf hx q hs (fun _ => rfl))
end
end Mine
namespace Mine
/-- the doubles that are built -/
noncomputable def dbs : List (Int × Int) := (List.range 30).map fun (i : Nat) => let n : Int := (i : Int) - 9; if n.fmod 2 = 1 then (n, 2) else (n.fdiv 2, 1)
noncomputable def dbP (n d : Int) : Nat := (max 0 (ms n d).2.2.1).toNat
noncomputable def dbT (n d : Int) : Str := fxT n d (dbP n d)
noncomputable def dbOk (n d : Int) : Bool :=
  decide (n.natAbs ≤ 20) && decide (0 < d) && decide (d ≤ 2) && (decide (n = 0) || (decide (1 ≤ n.natAbs) && decide (((n.natAbs : Nat) : Int) < 20 * d + 1) && decide (d ≤ n.natAbs * 10))) &&
  (decide (n = 0) || (decide (nw (n.natAbs * 10 ^ (14 - ex n.natAbs d).toNat) d < 10 ^ 15) && decide (0 ≤ nw (n.natAbs * 10 ^ (14 - ex n.natAbs d).toNat) d))) &&
  decide (max 1 (ms n d).2.1 + (if max 0 (ms n d).2.2.1 > 0 then max 0 (ms n d).2.2.1 + 1 else 0) ≤ (if n < 0 then 1 else 0) + (if max 1 (ms n d).1 > 1 then max 1 (ms n d).1 + 1 else 1) + 4 + 0) &&
  decide ((ms n d).2.2.2.natAbs < 100) && decide (dbP n d ≤ 3) && decide (nw (n.natAbs * 10 ^ dbP n d) d < 10 ^ 15) && decide (0 ≤ nw (n.natAbs * 10 ^ dbP n d) d)
theorem dbs_ok : (dbs.all fun p => dbOk p.1 p.2) = true := by decide +kernel
structure DbOk (n d : Int) : Prop where
  fit : RatFit n d
  fix : cfFix n d
  e : (ms n d).2.2.2.natAbs < 100
  p : dbP n d ≤ 3
  hb : nw (n.natAbs * 10 ^ dbP n d) d < 10 ^ 15
  hb0 : 0 ≤ nw (n.natAbs * 10 ^ dbP n d) d
theorem db_ok {n d : Int} (h : (n, d) ∈ dbs) : DbOk n d := by
  have := List.all_eq_true.mp dbs_ok _ h
  simp only [dbOk, Bool.and_eq_true, Bool.or_eq_true, decide_eq_true_eq] at this
  obtain ⟨⟨⟨⟨⟨⟨⟨⟨⟨a1, a2⟩, a3⟩, a4⟩, a5⟩, a6⟩, a7⟩, a8⟩, a9⟩, a10⟩ := this
  refine ⟨⟨⟨a1, a2, a3, ?_⟩, ?_, ?_⟩, a6, a7, a8, a9, a10⟩
  · rcases a4 with a4 | ⟨⟨b1, b2⟩, b3⟩
    · exact .inl a4
    · exact .inr ⟨b1, b2, b3⟩
  · intro hn
    rcases a5 with a5 | ⟨b1, b2⟩
    · exact absurd a5 hn
    · exact b1
  · intro hn
    rcases a5 with a5 | ⟨b1, b2⟩
    · exact absurd a5 hn
    · exact b2
theorem sp_ntext (w : World) (a : Addr) (n d : Int) (u : Tok) (mu nv : Led) (R : RatAt nv a n d) (H : DbOk n d) :
    Spec (KK w) w 7 (.ref 226) [.ref a, .int 15 u] mu nv (Grw mu nv fun v _ => ∃ t, v = .str (dbT n d) t) := by
  refine' Spec.plain (vr := ["x", "digits"]) (vs := [some (.ref a), some (.int 15 u)]) (binds := [("x", .ref a), ("digits", .int 15 u)]) ?ho ?hcd ?hbind ?hloc ?hm ?hcell ?hco ?hgen ?hk ?B
  case ho => (show List.lookup _ (Mine.hp.heap_1 w.params) = _; k_is)
  case hcd => (show codeIn (Mine.hp.heap_1 w.params) _ _ = _; k_is)
  case hbind => exact fun s X => kp_binds X fun S => by (show peek (Mine.hp.heap_1 w.params) _ _ = _; kernel_rfl)
  case hloc => exact locs rfl
  case hm => exact binds_mV (ns := ["x", "digits"]) (more := []) (vals := [.ref a, .int 15 u]) (k := 0) rfl (by decide)
  case hcell => decide
  case hco => rfl
  case hgen => rfl
  case hk => rfl
  intro prog A env g s Q hsc G M S q
  have l_x : IsLoc env ["x", "digits"] "x" 0 := .of hsc rfl rfl
  have l_digits : IsLoc env ["x", "digits"] "digits" 1 := .of hsc rfl rfl
  have gl_common_texts : IsGlb env "common_texts" := .of hsc rfl rfl
  have c_common_texts := c_common_texts w
  clear hsc
  tb_look
  refine ⟨j_new (by assumption) (by simp [sizeLine_eq]) fun D h' S' => ?_⟩
  tb_look
  have hP : max 0 (ms n d).2.2.1 = ((dbP n d : Nat) : Int) := by unfold dbP; omega
  refine ⟨sp_ctexts w D a 0 (dbP n d) n d u _ _ (.head _) R H.fit H.fix H.e hP H.p H.hb H.hb0 _ _ _ _ _ _ _ M S' fun v h' tk mu' nv' S2 P => ?_⟩
  obtain ⟨rfl, g1, D2, k, t, rfl, hD⟩ := P
  tb_look
  refine ⟨j_itemC (List.mem_append_right _ hD) S2 (by decide) (by decide) (by rfl) ?_⟩
  tb_look
  exact q _ _ _ _ _ _ S2.drop ⟨rfl, g1, t, rfl⟩
theorem sp_fromint (w : World) (i : Int) (u : Tok) (mu nv : Led) : Spec (KK w) w 1 (.ref 101) [.int i u] mu nv (Grw mu nv fun v nv' => ∃ D, v = .ref D ∧ RatAt nv' D i 1) := by
  refine' Spec.plain (vr := ["n"]) (vs := [some (.int i u)]) (binds := [("n", .int i u)]) ?ho ?hcd ?hbind ?hloc ?hm ?hcell ?hco ?hgen ?hk ?B
  case ho => (show List.lookup _ (Mine.hp.heap_1 w.params) = _; k_is)
  case hcd => (show codeIn (Mine.hp.heap_1 w.params) _ _ = _; k_is)
  case hbind => exact fun s _ => BindsTo.of_eq rfl
  case hloc => exact locs rfl
  case hm => exact binds_mV (ns := ["n"]) (more := []) (vals := [.int i u]) (k := 0) rfl (by decide)
  case hcell => decide
  case hco => rfl
  case hgen => rfl
  case hk => rfl
  intro prog A env g s Q hsc G M S q
  have l_n : IsLoc env ["n"] "n" 0 := .of hsc rfl rfl
  clear hsc
  tb_look
  refine ⟨j_newT S (by simp [sizeLine_eq]) fun D h' S' => ?_⟩
  exact q _ _ _ _ _ _ S' ⟨rfl, Gr.cons _ (Gr.refl _), D, rfl, _, _, _, .head _⟩
theorem sp_atomic (w : World) (k : Kd) (t : Tok) (mu nv : Led) : Spec (KK w) w 1 (.ref 464) [.str k.str t] mu nv (Same mu nv fun v => v = .bool (k != .ls)) := by
  refine' Spec.plain (vr := ["kind"]) (vs := [some (.str k.str t)]) (binds := [("kind", .str k.str t)]) ?ho ?hcd ?hbind ?hloc ?hm ?hcell ?hco ?hgen ?hk ?B
  case ho => (show List.lookup _ (Mine.hp.heap_1 w.params) = _; k_is)
  case hcd => (show codeIn (Mine.hp.heap_1 w.params) _ _ = _; k_is)
  case hbind => exact fun s _ => BindsTo.of_eq rfl
  case hloc => exact locs rfl
  case hm => exact binds_mV (ns := ["kind"]) (more := []) (vals := [.str k.str t]) (k := 0) rfl (by decide)
  case hcell => decide
  case hco => rfl
  case hgen => rfl
  case hk => rfl
  intro prog A env g s Q hsc G M S q
  have l_kind : IsLoc env ["kind"] "kind" 0 := .of hsc rfl rfl
  clear hsc
  tb_look
  refine ⟨j_newTm S (by simp [sizeLine_eq]) fun D o h' e S' => ?_⟩
  subst e
  tb_look
  have hi : ∀ b c d e : Tok, StrsAre [.str "logical" b, .str "integer" c, .str "double" d, .str "character" e] ["logical", "integer", "double", "character"] := fun _ _ _ _ => .cons _ _ (.cons _ _ (.cons _ _ (.cons _ _ .nil)))
  refine ⟨j_inT (by k_mem) S' (hi ..) ?_⟩
  rw [show ((["logical", "integer", "double", "character"] : List Str).any (· == k.str)) = (k != .ls) by cases k <;> decide]
  exact q _ _ _ _ _ _ S'.drop ⟨rfl, rfl, rfl⟩
end Mine
end
/-! N15 -/
section
namespace Mine
/-- texts that are held -/
noncomputable def SOk (x : Str) : Prop := x.length ≤ 10 ∧ PyData.strOk x = true
/-- the items that are held -/
noncomputable def ItOk : Kd → Dt → Prop
  | .lg, .atom d => d = .none ∨ d = .int 0 ∨ d = .int 1
  | .ig, .atom d => d = .none ∨ ∃ i, d = .int i ∧ -9 ≤ i ∧ i ≤ 20
  | .db, .atom d => d = .none ∨ ∃ n m, (n, m) ∈ dbs ∧ d = .tuple [.int n, .int m]
  | .ch, .atom d => d = .none ∨ ∃ x : Str, d = .str x ∧ SOk x
  | .ls, .one .ig d => ∃ i, d = .int i ∧ 0 ≤ i ∧ i ≤ 6
  | _, _ => False
/-- an item as one of another kind -/
noncomputable def cvA (k : Kd) : Kd → Dat → Dat
  | .db, .int i => .tuple [.int i, .int 1]
  | .ch, .int i => .str (if k = .lg then (if i = 1 then "TRUE" else "FALSE") else toString i)
  | .ch, .tuple [.int n, .int m] => .str (dbT n m)
  | _, d => d
noncomputable def cv (k to : Kd) : Dt → Dt
  | .one k' d => .one k' d
  | .atom d => if k = to then .atom d else if to = .ls then .one k d else .atom (cvA k to d)
theorem dat_rat {nv : Led} {v : Value} {n m : Int} (h : DatIn nv v (.tuple [.int n, .int m])) : ∃ a, v = .ref a ∧ RatAt nv a n m := by
  cases h with
  | tuple h r =>
    cases r with
    | cons h1 r => cases r with
      | cons h2 r => cases r with
        | nil => cases h1; cases h2; exact ⟨_, rfl, _, _, _, h⟩
theorem RatAt.dat {nv : Led} {a : Addr} {n m : Int} (h : RatAt nv a n m) : DatIn nv (.ref a) (.tuple [.int n, .int m]) := by
  obtain ⟨k, t, u, h⟩ := h
  exact .tuple h (.cons (.int _ _) (.cons (.int _ _) .nil))
theorem sp_totext (w : World) (k : Kd) (hk : k.rank < 3) (v : Value) (d : Dat) (t1 : Tok) (mu nv : Led) (hv : DatIn nv v d) (ho : ItOk k (.atom d)) : Spec (KK w) w 8 (.ref 450) [.str k.str t1, v] mu nv (Grw mu nv fun v' nv' => DatIn nv' v' (cvA k .ch d)) := by
  have e1 : (k.str == ("character" : Str)) = false := by cases k <;> first | rfl | (simp [Kd.rank] at hk)
  refine' Spec.plain (vr := ["kind", "item"]) (vs := [some (.str k.str t1), some (v)]) (binds := [("kind", .str k.str t1), ("item", v)]) ?ho ?hcd ?hbind ?hloc ?hm ?hcell ?hco ?hgen ?hk ?B
  case ho => (show List.lookup _ (Mine.hp.heap_1 w.params) = _; k_is)
  case hcd => (show codeIn (Mine.hp.heap_1 w.params) _ _ = _; k_is)
  case hbind => exact fun s _ => BindsTo.of_eq rfl
  case hloc => exact locs rfl
  case hm => exact binds_mV (ns := ["kind", "item"]) (more := []) (vals := [.str k.str t1, v]) (k := 0) rfl (by decide)
  case hcell => decide
  case hco => rfl
  case hgen => rfl
  case hk => rfl
  intro prog A env g s Q hsc G M S q
  have l_kind : IsLoc env ["kind", "item"] "kind" 0 := .of hsc rfl rfl
  have l_item : IsLoc env ["kind", "item"] "item" 1 := .of hsc rfl rfl
  have gl_number_text : IsGlb env "number_text" := .of hsc rfl rfl
  have c_number_text := c_number_text w
  have gl_str : IsGlb env "str" := .of hsc rfl rfl
  have c_str := b_str w
  clear hsc
  cases k with
  | lg =>
    have e2 : (Kd.lg.str == ("logical" : Str)) = true := rfl
    rcases ho with rfl | rfl | rfl
    · cases hv
      tb_look
      exact q _ _ _ _ _ _ S ⟨rfl, Gr.refl _, .none⟩
    · cases hv
      tb_look
      · rename_i e; exact absurd (of_decide_eq_true e) (by decide)
      · exact q _ _ _ _ _ _ (by assumption) ⟨rfl, Gr.refl _, .str _ _⟩
    · cases hv
      tb_look
      · exact q _ _ _ _ _ _ (by assumption) ⟨rfl, Gr.refl _, .str _ _⟩
      · rename_i e; exact absurd (of_decide_eq_false e) (by decide)
  | ig =>
    have e2 : (Kd.ig.str == ("logical" : Str)) = false := rfl
    have e3 : (Kd.ig.str == ("integer" : Str)) = true := rfl
    rcases ho with rfl | ⟨i, rfl, h1, h2⟩
    · cases hv
      tb_look
      exact q _ _ _ _ _ _ S ⟨rfl, Gr.refl _, .none⟩
    · cases hv
      tb_look
      refine ⟨PySem.P.str_of_int (int_log2 (by omega)) ?_⟩
      exact q _ _ _ _ _ _ S ⟨rfl, Gr.refl _, .str _ _⟩
  | db =>
    have e2 : (Kd.db.str == ("logical" : Str)) = false := rfl
    have e3 : (Kd.db.str == ("integer" : Str)) = false := rfl
    rcases ho with rfl | ⟨n, m, hm, rfl⟩
    · cases hv
      tb_look
      exact q _ _ _ _ _ _ S ⟨rfl, Gr.refl _, .none⟩
    · obtain ⟨a, rfl, R⟩ := dat_rat hv
      tb_look
      refine ⟨sp_ntext w a n m _ _ _ R (db_ok hm) _ _ _ _ _ _ _ M S fun v h' tk mu' nv' S2 P => ?_⟩
      obtain ⟨rfl, g1, t, rfl⟩ := P
      exact q _ _ _ _ _ _ S2 ⟨rfl, g1, .str _ _⟩
  | ch => simp [Kd.rank] at hk
  | ls => simp [Kd.rank] at hk
theorem sp_toint (w : World) (v nt : Value) (d : Dat) (t1 : Tok) (mu nv : Led) (hv : DatIn nv v d) (ho : ItOk .lg (.atom d)) : Spec (KK w) w 2 (.ref 436) [.str Kd.lg.str t1, v, nt] mu nv (Grw mu nv fun v' nv' => v' = v) := by
  refine' Spec.plain (vr := ["kind", "item", "notes"]) (vs := [some (.str Kd.lg.str t1), some (v), some (nt)]) (binds := [("kind", .str Kd.lg.str t1), ("item", v), ("notes", nt)]) ?ho ?hcd ?hbind ?hloc ?hm ?hcell ?hco ?hgen ?hk ?B
  case ho => (show List.lookup _ (Mine.hp.heap_1 w.params) = _; k_is)
  case hcd => (show codeIn (Mine.hp.heap_1 w.params) _ _ = _; k_is)
  case hbind => exact fun s _ => BindsTo.of_eq rfl
  case hloc => exact locs rfl
  case hm => exact binds_mV (ns := ["kind", "item", "notes"]) (more := []) (vals := [.str Kd.lg.str t1, v, nt]) (k := 0) rfl (by decide)
  case hcell => decide
  case hco => rfl
  case hgen => rfl
  case hk => rfl
  intro prog A env g s Q hsc G M S q
  have l_kind : IsLoc env ["kind", "item", "notes"] "kind" 0 := .of hsc rfl rfl
  have l_item : IsLoc env ["kind", "item", "notes"] "item" 1 := .of hsc rfl rfl
  have l_notes : IsLoc env ["kind", "item", "notes"] "notes" 2 := .of hsc rfl rfl
  clear hsc
  have e1 : (Kd.lg.str == ("character" : Str)) = false := rfl
  have e2 : (Kd.lg.str == ("double" : Str)) = false := rfl
  rcases ho with rfl | rfl | rfl <;> cases hv <;> tb_look <;> exact q _ _ _ _ _ _ S ⟨rfl, Gr.refl _, rfl⟩
theorem sp_todbl (w : World) (k : Kd) (hk : k.rank < 2) (v nt : Value) (d : Dat) (t1 : Tok) (mu nv : Led) (hv : DatIn nv v d) (ho : ItOk k (.atom d)) : Spec (KK w) w 2 (.ref 443) [.str k.str t1, v, nt] mu nv (Grw mu nv fun v' nv' => DatIn nv' v' (cvA k .db d)) := by
  have e1 : (k.str == ("character" : Str)) = false := by cases k <;> first | rfl | (simp [Kd.rank] at hk)
  have e2 : (k.str == ("double" : Str)) = false := by cases k <;> first | rfl | (simp [Kd.rank] at hk)
  have ho' : d = .none ∨ ∃ i, d = .int i := by
    cases k with
    | lg => rcases ho with rfl | rfl | rfl; exact .inl rfl; exact .inr ⟨_, rfl⟩; exact .inr ⟨_, rfl⟩
    | ig => rcases ho with rfl | ⟨i, rfl, _⟩; exact .inl rfl; exact .inr ⟨_, rfl⟩
    | db => simp [Kd.rank] at hk
    | ch => simp [Kd.rank] at hk
    | ls => simp [Kd.rank] at hk
  refine' Spec.plain (vr := ["kind", "item", "notes"]) (vs := [some (.str k.str t1), some (v), some (nt)]) (binds := [("kind", .str k.str t1), ("item", v), ("notes", nt)]) ?ho ?hcd ?hbind ?hloc ?hm ?hcell ?hco ?hgen ?hk ?B
  case ho => (show List.lookup _ (Mine.hp.heap_1 w.params) = _; k_is)
  case hcd => (show codeIn (Mine.hp.heap_1 w.params) _ _ = _; k_is)
  case hbind => exact fun s _ => BindsTo.of_eq rfl
  case hloc => exact locs rfl
  case hm => exact binds_mV (ns := ["kind", "item", "notes"]) (more := []) (vals := [.str k.str t1, v, nt]) (k := 0) rfl (by decide)
  case hcell => decide
  case hco => rfl
  case hgen => rfl
  case hk => rfl
  intro prog A env g s Q hsc G M S q
  have l_kind : IsLoc env ["kind", "item", "notes"] "kind" 0 := .of hsc rfl rfl
  have l_item : IsLoc env ["kind", "item", "notes"] "item" 1 := .of hsc rfl rfl
  have l_notes : IsLoc env ["kind", "item", "notes"] "notes" 2 := .of hsc rfl rfl
  have gl_from_int : IsGlb env "from_int" := .of hsc rfl rfl
  have c_from_int := c_from_int w
  clear hsc
  rcases ho' with rfl | ⟨i, rfl⟩
  · cases hv
    tb_look
    exact q _ _ _ _ _ _ S ⟨rfl, Gr.refl _, .none⟩
  · cases hv
    tb_look
    refine ⟨sp_fromint w i _ _ _ _ _ _ _ _ _ _ M S fun v h' tk mu' nv' S2 P => ?_⟩
    obtain ⟨rfl, g1, D, rfl, R⟩ := P
    exact q _ _ _ _ _ _ S2 ⟨rfl, g1, R.dat⟩
end Mine
end
/-! N16 -/
section
namespace Mine
theorem item_atom {k : Kd} {d : Dt} (hk : k ≠ .ls) (ho : ItOk k d) : ∃ a, d = .atom a := by
  cases k <;> cases d <;> first | exact ⟨_, rfl⟩ | exact ho.elim | exact absurd rfl hk
theorem cv_same (k : Kd) (d : Dt) : cv k k d = d := by
  cases d with
  | atom d => exact if_pos rfl
  | one k' d => rfl
theorem cv_atom {k to : Kd} {a : Dat} (h : ¬ k = to) : cv k to (.atom a) = if to = .ls then .one k a else .atom (cvA k to a) := if_neg h
theorem sp_item (w : World) (k to : Kd) (v nt : Value) (d : Dt) (t1 t2 : Tok) (mu nv : Led) (hv : DtIn nv v d) (ho : ItOk k d) (hr : k.rank ≤ to.rank) : Spec (KK w) w 9 (.ref 457) [.str k.str t1, v, .str to.str t2, nt] mu nv (Grw mu nv fun v' nv' => DtIn nv' v' (cv k to d)) := by
  refine' Spec.plain (vr := ["kind", "item", "to", "notes"]) (vs := [some (.str k.str t1), some (v), some (.str to.str t2), some (nt)]) (binds := [("kind", .str k.str t1), ("item", v), ("to", .str to.str t2), ("notes", nt)]) ?ho ?hcd ?hbind ?hloc ?hm ?hcell ?hco ?hgen ?hk ?B
  case ho => (show List.lookup _ (Mine.hp.heap_1 w.params) = _; k_is)
  case hcd => (show codeIn (Mine.hp.heap_1 w.params) _ _ = _; k_is)
  case hbind => exact fun s _ => BindsTo.of_eq rfl
  case hloc => exact locs rfl
  case hm => exact binds_mV (ns := ["kind", "item", "to", "notes"]) (more := []) (vals := [.str k.str t1, v, .str to.str t2, nt]) (k := 0) rfl (by decide)
  case hcell => decide
  case hco => rfl
  case hgen => rfl
  case hk => rfl
  intro prog A env g s Q hsc G M S q
  have l_kind : IsLoc env ["kind", "item", "to", "notes"] "kind" 0 := .of hsc rfl rfl
  have l_item : IsLoc env ["kind", "item", "to", "notes"] "item" 1 := .of hsc rfl rfl
  have l_to : IsLoc env ["kind", "item", "to", "notes"] "to" 2 := .of hsc rfl rfl
  have l_notes : IsLoc env ["kind", "item", "to", "notes"] "notes" 3 := .of hsc rfl rfl
  have gl_to_text : IsGlb env "to_text" := .of hsc rfl rfl
  have c_to_text := c_to_text w
  have gl_is_atomic_kind : IsGlb env "is_atomic_kind" := .of hsc rfl rfl
  have c_is_atomic_kind := c_is_atomic_kind w
  have gl_to_integer : IsGlb env "to_integer" := .of hsc rfl rfl
  have c_to_integer := c_to_integer w
  have gl_to_double : IsGlb env "to_double" := .of hsc rfl rfl
  have c_to_double := c_to_double w
  have gl_share : IsGlb env "share" := .of hsc rfl rfl
  have c_share := c_share w
  have gl_Vector : IsGlb env "Vector" := .of hsc rfl rfl
  have c_Vector := c_Vector w
  clear hsc
  by_cases hkt : k = to
  · subst hkt
    have e1 : (k.str == k.str) = true := beq_self_eq_true _
    tb_look
    refine q _ _ _ _ _ _ S ⟨rfl, Gr.refl _, ?_⟩
    rw [cv_same]
    exact hv
  · have hkl : k ≠ .ls := by rintro rfl; cases to <;> first | exact hkt rfl | (simp [Kd.rank] at hr)
    obtain ⟨a, rfl⟩ := item_atom hkl ho
    have e1 : (k.str == to.str) = false := by cases k <;> cases to <;> first | rfl | exact absurd rfl hkt
    have ek : (k != Kd.ls) = true := by simpa using hkl
    rw [cv_atom hkt] at q
    have en : (!true) = false := rfl
    cases to with
    | lg => cases k <;> first | exact absurd rfl hkt | (simp [Kd.rank] at hr)
    | ls =>
      have e2 : (Kd.ls.str == ("list" : Str)) = true := rfl
      tb_look
      refine ⟨(sp_atomic w k _ _ _).same (by decide) M S fun v' h' tk S2 P => ?_⟩
      obtain rfl := P
      rw [ek]
      tb_look
      refine ⟨j_new S2 (by simp [sizeLine_eq]) fun D h' S3 => ?_⟩
      tb_look
      refine ⟨((sp_V2 w _ _ _ _).less (by decide)) _ _ _ _ _ _ _ M S3 fun v' h' tk mu' nv' S4 P => ?_⟩
      obtain ⟨x, dx, o, rfl, V, rfl, rfl⟩ := P
      have S5 := S4.keep1.keep1
      tb_look
      have VA : VecAt ((D, listOf [v].toArray 0) :: (dx, o) :: (x, instObj 314 dx) :: nv) x (.str k.str t1) (.ref D) .none := ⟨dx, o, .tail _ (.tail _ (.head _)), .tail _ (.head _), V⟩
      refine ⟨(sp_shareV w x _ _ _ _ _ VA).grw (by decide) M S5 fun v' h' tk nv2 S6 g1 P => ?_⟩
      obtain rfl := P
      have g2 : Gr nv nv2 := (Gr.cons _ (Gr.cons _ (Gr.cons _ (Gr.refl _)))).trans g1
      exact q _ _ _ _ _ _ S6 ⟨rfl, g2, x, D, 0, v, t1, rfl, VA.gr g1, g1.list (.head _), DatIn.gr g2 hv⟩
    | ig =>
      have e2 : (Kd.ig.str == ("list" : Str)) = false := rfl
      have e3 : (Kd.ig.str == ("expression" : Str)) = false := rfl
      have e4 : (Kd.ig.str == ("pairlist" : Str)) = false := rfl
      have e5 : (Kd.ig.str == ("logical" : Str)) = false := rfl
      have e6 : (Kd.ig.str == ("integer" : Str)) = true := rfl
      have hk : k = .lg := by cases k <;> first | rfl | exact absurd rfl hkt | (simp [Kd.rank] at hr)
      subst hk
      tb_look
      refine ⟨(sp_atomic w .lg _ _ _).same (by decide) M S fun v' h' tk S2 P => ?_⟩
      obtain rfl := P
      rw [ek]
      tb_look
      refine ⟨(sp_toint w v nt a t1 _ _ hv ho).grw (by decide) M S2 fun v' h' tk nv2 S6 g1 P => ?_⟩
      obtain rfl := P
      refine q _ _ _ _ _ _ S6 ⟨rfl, g1, ?_⟩
      have e : cvA Kd.lg .ig a = a := by rcases ho with rfl | rfl | rfl <;> rfl
      rw [if_neg (by decide), e]
      exact DatIn.gr g1 hv
    | db =>
      have e2 : (Kd.db.str == ("list" : Str)) = false := rfl
      have e3 : (Kd.db.str == ("expression" : Str)) = false := rfl
      have e4 : (Kd.db.str == ("pairlist" : Str)) = false := rfl
      have e5 : (Kd.db.str == ("logical" : Str)) = false := rfl
      have e6 : (Kd.db.str == ("integer" : Str)) = false := rfl
      have e7 : (Kd.db.str == ("double" : Str)) = true := rfl
      have hk : k.rank < 2 := by cases k <;> first | decide | exact absurd rfl hkt | (simp [Kd.rank] at hr)
      tb_look
      refine ⟨(sp_atomic w k _ _ _).same (by decide) M S fun v' h' tk S2 P => ?_⟩
      obtain rfl := P
      rw [ek]
      tb_look
      refine ⟨(sp_todbl w k hk v nt a t1 _ _ hv ho).grw (by decide) M S2 fun v' h' tk nv2 S6 g1 hD => ?_⟩
      refine q _ _ _ _ _ _ S6 ⟨rfl, g1, ?_⟩
      rw [if_neg (by decide)]
      exact hD
    | ch =>
      have e2 : (Kd.ch.str == ("list" : Str)) = false := rfl
      have e3 : (Kd.ch.str == ("expression" : Str)) = false := rfl
      have e4 : (Kd.ch.str == ("pairlist" : Str)) = false := rfl
      have e5 : (Kd.ch.str == ("logical" : Str)) = false := rfl
      have e6 : (Kd.ch.str == ("integer" : Str)) = false := rfl
      have e7 : (Kd.ch.str == ("double" : Str)) = false := rfl
      have hk : k.rank < 3 := by cases k <;> first | decide | exact absurd rfl hkt | (simp [Kd.rank] at hr)
      tb_look
      refine ⟨(sp_atomic w k _ _ _).same (by decide) M S fun v' h' tk S2 P => ?_⟩
      obtain rfl := P
      rw [ek]
      tb_look
      refine ⟨(sp_totext w k hk v a t1 _ _ hv ho) _ _ _ _ _ _ _ M S2 fun v' h' tk mu' nv2 S6 P => ?_⟩
      obtain ⟨rfl, g1, hD⟩ := P
      refine q _ _ _ _ _ _ S6 ⟨rfl, g1, ?_⟩
      rw [if_neg (by decide)]
      exact hD
end Mine
end
/-! N17 -/
section
namespace Mine
noncomputable def CL_as_kind : List (Str × Nat) := [("notes", 2), ("kind", 1), ("v", 0)]
theorem sp_askind (w : World) (k to : Kd) (v nt : Value) (its : List Dt) (nm : Option (List Str)) (t2 : Tok) (mu nv : Led) (hv : VIn w nv v k its nm) (ho : ∀ d ∈ its, ItOk k d) (hr : k.rank ≤ to.rank) (hz : its.length ≤ 1000) (hzn : ∀ ns, nm = some ns → ns.length ≤ 1000) :
    Spec (KK w) w 10 (.ref 495) [v, .str to.str t2, nt] mu nv (Grw mu nv fun v' nv' => VIn w nv' v' to (its.map (cv k to)) nm) := by
  obtain ⟨a, il, n, xs, av, t, rfl, V, hl, hD, hN⟩ := hv
  refine' Spec.cells (vr := ["items"]) (vs := [none]) (binds := [("v", .ref a), ("kind", .str to.str t2), ("notes", nt)]) (cl := CL_as_kind) ?ho ?hcd ?hbind ?hkind ?hcl ?hcl1 ?hcl2 ?hm ?hco ?hgen ?hk ?B
  case ho => (show List.lookup _ (Mine.hp.heap_1 w.params) = _; k_is)
  case hcd => (show codeIn (Mine.hp.heap_1 w.params) _ _ = _; k_is)
  case hbind => exact fun s _ => BindsTo.of_eq rfl
  case hkind => rfl
  case hcl => exact fun n => rfl
  case hcl1 => decide
  case hcl2 => decide
  case hm => exact hm_cells (ns := []) (more := ["items"]) (vals := []) (k := 1) (by rfl) rfl (by decide)
  case hco => rfl
  case hgen => rfl
  case hk => rfl
  intro prog A env g s Q cells hsc G M hce Y S q
  have l_items : IsLoc env ["items"] "items" 0 := .of hsc rfl rfl
  have kc_kind : env.kindOf "kind" = some .cell := kof hsc rfl
  have kc_notes : env.kindOf "notes" = some .cell := kof hsc rfl
  have kc_v : env.kindOf "v" = some .cell := kof hsc rfl
  have gl_with_names : IsGlb env "with_names" := .of hsc rfl rfl
  have c_with_names := c_with_names w
  have gl_isinstance : IsGlb env "isinstance" := .of hsc rfl rfl
  have c_isinstance := b_isinstance w
  have gl_Vector : IsGlb env "Vector" := .of hsc rfl rfl
  have c_Vector := c_Vector w
  have gl_names_of : IsGlb env "names_of" := .of hsc rfl rfl
  have c_names_of := c_names_of w
  have gl_list : IsGlb env "list" := .of hsc rfl rfl
  have c_list := b_list w
  obtain ⟨o1, o2, o3, ho1, ho2, ho3, rfl⟩ := cells3 Y
  have cc1 : CCel env "notes" (env.locals + 1 + 2) := ⟨kc_notes, rfl, rfl, by rw [hce]; rfl⟩
  have cc2 : CCel env "kind" (env.locals + 1 + 1) := ⟨kc_kind, rfl, rfl, by rw [hce]; rfl⟩
  have cc3 : CCel env "v" (env.locals + 1 + 0) := ⟨kc_v, rfl, rfl, by rw [hce]; rfl⟩
  have hc1 : o1.data = .cell (some nt) := ho1
  have hc2 : o2.data = .cell (some (.str to.str t2)) := ho2
  have hc3 : o3.data = .cell (some (.ref a)) := ho3
  clear hsc hce Y ho1 ho2 ho3
  generalize env.locals + 1 + 2 = c1 at *
  generalize env.locals + 1 + 1 = c2 at *
  generalize env.locals + 1 + 0 = c3 at *
  have hlen := hD.length
  rw [Array.length_toList] at hlen
  simp only [List.cons_append, List.nil_append] at S
  have en : (!true) = false := rfl
  by_cases hkt : k = to
  · subst hkt
    have e1 : (k.str != k.str) = false := by simp
    have ei : its.map (cv k k) = its := by rw [List.map_congr_left (g := id) (fun d _ => cv_same k d), List.map_id]
    rw [ei] at q
    tb_look
    refine ⟨j_list (List.mem_append_right _ hl) (by assumption) (by rw [sizeLine_eq]; omega) fun D c h' S3 => ?_⟩
    have S4 := S3.keep1
    tb_look
    refine ⟨((sp_V2 w _ _ _ _).less (by decide)) _ _ _ _ _ _ _ M S4 fun v' h' tk mu' nv' S5 P => ?_⟩
    obtain ⟨x, dx, o, rfl, VV, rfl, rfl⟩ := P
    have g1 : Gr nv ((x, instObj 314 dx) :: (D, listOf xs c) :: nv) := Gr.cons _ (Gr.cons _ (Gr.refl _))
    tb_look
    refine ⟨((sp_names w a k t _ av nm _ _ (V.gr g1) (hN.gr g1) hzn).less (by decide)) _ _ _ _ _ _ _ M S5 fun v' h' tk mu' nv' S6 P => ?_⟩
    obtain ⟨rfl, P⟩ := P
    tb_look
    cases nm with
    | none =>
      obtain ⟨rfl, rfl⟩ := P
      refine ⟨((sp_withn w x dx o _ _ .none none _ _ (.head _) VV rfl (by rintro _ ⟨⟩)).less (by decide)) _ _ _ _ _ _ _ M S6 fun v' h' tk mu' nv' S7 P => ?_⟩
      obtain ⟨rfl, g2, o', av', rfl, V', N'⟩ := P
      refine q _ _ _ _ _ _ S7.keep1.drop.drop.drop ⟨rfl, (g1.trans g2).trans (Gr.cons _ (Gr.refl _)), x, D, c, xs, av', t2, rfl, ⟨dx, o', .tail _ (g2.inst (.head _)), .head _, V'⟩, .tail _ (g2.list (.tail _ (.head _))), hD.gr ((g1.trans g2).trans (Gr.cons _ (Gr.refl _))), N'.gr (Gr.cons _ (Gr.refl _))⟩
    | some ns =>
      obtain ⟨Dn, cn, xn, rfl, rfl, hi⟩ := P
      refine ⟨((sp_withn w x dx o _ _ (.ref Dn) (some ns) _ _ (.head _) VV ⟨Dn, cn, xn, rfl, .head _, hi⟩ hzn).less (by decide)) _ _ _ _ _ _ _ M S6.swap fun v' h' tk mu' nv' S7 P => ?_⟩
      obtain ⟨rfl, g2, o', av', rfl, V', N'⟩ := P
      refine q _ _ _ _ _ _ S7.keep1.drop.drop.drop.drop ⟨rfl, (g1.trans g2).trans (Gr.cons _ (Gr.refl _)), x, D, c, xs, av', t2, rfl, ⟨dx, o', .tail _ (g2.inst (.head _)), .head _, V'⟩, .tail _ (g2.list (.tail _ (.head _))), hD.gr ((g1.trans g2).trans (Gr.cons _ (Gr.refl _))), N'.gr (Gr.cons _ (Gr.refl _))⟩
  · have e1 : (k.str != to.str) = true := by cases k <;> cases to <;> first | rfl | exact absurd rfl hkt
    tb_look
    rename_i h9 S9
    refine ⟨x_asgComp (fun i acc mu' nv' => mu' = (c1, o1) :: (c2, o2) :: (c3, o3) :: mu ∧ Gr nv nv' ∧ DtAll nv' acc ((its.take i).map (cv k to))) M S9 l_items G rfl (swaps_loc G l_items rfl rfl)
      (clos_list [("kind", c2), ("notes", c1), ("v", c3)] rfl (by intro p hp; simp only [List.mem_cons, List.mem_nil_iff, or_false] at hp; rcases hp with rfl | rfl | rfl; exact cc2.c; exact cc1.c; exact cc3.c)) (by decide) rfl (by decide) rfl ?_⟩
    tb_look
    refine ⟨_, _, _, nv, .list rfl (S9.mem (List.mem_append_right _ hl)) (.inr fun i acc mu' nv' _ h => ?_), S9, by rw [sizeLine_eq]; omega, ⟨rfl, Gr.refl _, .nil⟩, CompTurn.plain ?_, ?_⟩
    · obtain ⟨rfl, g1, _⟩ := h
      exact List.mem_append_right _ (g1.list hl)
    · rintro I i v acc mu' nv' C oC D k0 io' env' h tk QL hi hvi ⟨rfl, gg, ha⟩ _ ce hk hin S2
      revert S2; (repeat (rename Sta _ _ _ _ _ _ => So; clear So)); intro S2
      have G' := ce.g G hk
      have cv0 := ce.var hin (x := "item") rfl (by decide)
      have gl_it : IsGlb env' "item_as" := ce.glb rfl (by decide)
      have c_it := c_item_as w
      have cc1' : CCel env' "notes" c1 := ⟨ce.kindF G cc1.k rfl, rfl, rfl, by rw [ce.cells]; rfl⟩
      have cc2' : CCel env' "kind" c2 := ⟨ce.kindF G cc2.k rfl, rfl, rfl, by rw [ce.cells]; rfl⟩
      have cc3' : CCel env' "v" c3 := ⟨ce.kindF G cc3.k rfl, rfl, rfl, by rw [ce.cells]; rfl⟩
      have V' := V.gr gg
      rw [← Array.getElem?_toList] at hvi
      obtain ⟨d, hd1, hd2⟩ := hD.get hvi
      tb_look
      refine ⟨(sp_item w k to v nt d _ _ _ _ (hd2.gr gg) (ho d (List.mem_of_getElem? hd1)) hr).grw (by decide) M S2 fun v' h' tk nv'' S3 g2 hv' => ?_⟩
      refine CompEnd.mk' S3 ⟨rfl, gg.trans g2, ?_⟩
      rw [List.take_succ, hd1, Option.toList_some, List.map_append, List.map_cons, List.map_nil]
      exact (ha.gr g2).append (.cons hv' .nil)
    · rintro acc mu' nv' D0 k0 h tk ⟨rfl, g0, ha⟩ hl' S2
      revert S2; (repeat (rename Sta _ _ _ _ _ _ => So; clear So)); intro S2
      rw [List.take_of_length_le (by omega)] at ha
      have S2 := S2.keep1
      have g1' : Gr nv ((D0, listOf acc.toArray k0) :: nv') := Gr.cons _ g0
      have V' := V.gr g1'
      have ha' : DtAll ((D0, listOf acc.toArray k0) :: nv') acc (its.map (cv k to)) := ha.gr (Gr.cons _ (Gr.refl _))
      have hN' := hN.gr g1'
      have hal := ha.length
      rw [List.length_map] at hal
      tb_look
      refine ⟨j_list (List.mem_append_right _ (.head _)) (by assumption) (by rw [sizeLine_eq, List.size_toArray]; omega) fun D c h' S3 => ?_⟩
      have S4 := S3.keep1
      tb_look
      refine ⟨((sp_V2 w _ _ _ _).less (by decide)) _ _ _ _ _ _ _ M S4 fun v' h' tk mu' nv2 S5 P => ?_⟩
      obtain ⟨x, dx, o, rfl, VV, rfl, rfl⟩ := P
      generalize (D0, listOf acc.toArray k0) :: nv' = nv3 at *
      have g1 : Gr nv3 ((x, instObj 314 dx) :: (D, listOf acc.toArray c) :: nv3) := Gr.cons _ (Gr.cons _ (Gr.refl _))
      tb_look
      refine ⟨((sp_names w a k t _ av nm _ _ (V'.gr g1) (hN'.gr g1) hzn).less (by decide)) _ _ _ _ _ _ _ M S5 fun v' h' tk mu' nv' S6 P => ?_⟩
      obtain ⟨rfl, P⟩ := P
      tb_look
      cases nm with
      | none =>
        obtain ⟨rfl, rfl⟩ := P
        refine ⟨((sp_withn w x dx o _ _ .none none _ _ (.head _) VV rfl (by rintro _ ⟨⟩)).less (by decide)) _ _ _ _ _ _ _ M S6 fun v' h' tk mu' nv' S7 P => ?_⟩
        obtain ⟨rfl, g2, o', av', rfl, V2, N'⟩ := P
        refine q _ _ _ _ _ _ S7.keep1.drop.drop.drop ⟨rfl, g1'.trans ((g1.trans g2).trans (Gr.cons _ (Gr.refl _))), x, D, c, _, av', t2, rfl, ⟨dx, o', .tail _ (g2.inst (.head _)), .head _, V2⟩, .tail _ (g2.list (.tail _ (.head _))), ha'.gr ((g1.trans g2).trans (Gr.cons _ (Gr.refl _))), N'.gr (Gr.cons _ (Gr.refl _))⟩
      | some ns =>
        obtain ⟨Dn, cn, xn, rfl, rfl, hi⟩ := P
        refine ⟨((sp_withn w x dx o _ _ (.ref Dn) (some ns) _ _ (.head _) VV ⟨Dn, cn, xn, rfl, .head _, hi⟩ hzn).less (by decide)) _ _ _ _ _ _ _ M S6.swap fun v' h' tk mu' nv' S7 P => ?_⟩
        obtain ⟨rfl, g2, o', av', rfl, V2, N'⟩ := P
        refine q _ _ _ _ _ _ S7.keep1.drop.drop.drop.drop ⟨rfl, g1'.trans ((g1.trans g2).trans (Gr.cons _ (Gr.refl _))), x, D, c, _, av', t2, rfl, ⟨dx, o', .tail _ (g2.inst (.head _)), .head _, V2⟩, .tail _ (g2.list (.tail _ (.head _))), ha'.gr ((g1.trans g2).trans (Gr.cons _ (Gr.refl _))), N'.gr (Gr.cons _ (Gr.refl _))⟩
end Mine
end
/-! N18 -/
section
namespace Mine
noncomputable def HV.kd : HV → Kd | .null => .lg | .vec k _ _ => k
noncomputable def HV.its : HV → List Dt | .null => [] | .vec _ its _ => its
noncomputable def HV.nm : HV → Option (List Str) | .null => none | .vec _ _ nm => nm
noncomputable def HV.isV : HV → Bool | .null => false | .vec _ _ _ => true
/-- the values that are held -/
noncomputable def HOk : HV → Prop
  | .null => True
  | .vec k its nm => (∀ d ∈ its, ItOk k d) ∧ its.length ≤ 3 ∧ ∀ ns, nm = some ns → ns.length = its.length ∧ ∀ x ∈ ns, SOk x
noncomputable def clen : Int → List HV → Int
  | s, [] => s
  | _, .null :: _ => -1
  | s, .vec _ its _ :: r => if s ≥ 0 ∧ (its.length : Int) ≠ s then -1 else clen its.length r
theorem HAll.mem {w : World} {nv : Led} : ∀ {vs : List Value} {ds : List HV}, HAll w nv vs ds → ∀ v ∈ vs, ∃ d ∈ ds, HIn w nv v d
  | _, _, .nil, v, h => by cases h
  | _, _, .cons h r, v, hm => by
    rcases List.mem_cons.mp hm with rfl | hm
    · exact ⟨_, .head _, h⟩
    · obtain ⟨d, h1, h2⟩ := r.mem v hm
      exact ⟨d, .tail _ h1, h2⟩
theorem sp_clen (w : World) (l : Addr) (xs : Array Value) (n : Nat) (hs : List HV) (mu nv : Led) (hm : (l, listOf xs n) ∈ mu ++ nv) (hA : HAll w nv xs.toList hs) (ho : ∀ h ∈ hs, HOk h) : Spec (KK w) w 2 (.ref 519) [.ref l] mu nv (Same mu nv fun v => ∃ t, v = .int (clen (-1) hs) t) := by
  refine' Spec.plain (vr := ["values", "shared", "value"]) (vs := [some (.ref l), none, none]) (binds := [("values", .ref l)]) ?ho ?hcd ?hbind ?hloc ?hm ?hcell ?hco ?hgen ?hk ?B
  case ho => (show List.lookup _ (Mine.hp.heap_1 w.params) = _; k_is)
  case hcd => (show codeIn (Mine.hp.heap_1 w.params) _ _ = _; k_is)
  case hbind => exact fun s _ => BindsTo.of_eq rfl
  case hloc => exact locs rfl
  case hm => exact binds_mV (ns := ["values"]) (more := ["shared", "value"]) (vals := [.ref l]) (k := 2) rfl (by decide)
  case hcell => decide
  case hco => rfl
  case hgen => rfl
  case hk => rfl
  intro prog A env g s Q hsc G M S q
  have l_values : IsLoc env ["values", "shared", "value"] "values" 0 := .of hsc rfl rfl
  have l_shared : IsLoc env ["values", "shared", "value"] "shared" 1 := .of hsc rfl rfl
  have l_value : IsLoc env ["values", "shared", "value"] "value" 2 := .of hsc rfl rfl
  have gl_length : IsGlb env "length" := .of hsc rfl rfl
  have c_length := c_length w
  have gl_is_vector : IsGlb env "is_vector" := .of hsc rfl rfl
  have c_is_vector := c_is_vector w
  clear hsc
  tb_look
  rename_i h0 S0
  refine ⟨x_forL (fun i vs mu' nv' => ∃ s t x, vs = [some (.ref l), some (.int s t), x] ∧ mu' = mu ∧ nv' = nv ∧ clen (-1) hs = clen s (hs.drop i)) l_value G M (by rintro i vs mu' nv' ⟨s, t, x, rfl, _⟩; rfl) ?_⟩
  tb_look
  refine ⟨l, xs, n, _, _, _, rfl, S0, ⟨_, _, _, rfl, rfl, rfl, rfl⟩, S0.mem hm, .inr ?_, ?_, ?_⟩
  · rintro i vs mu' nv' _ ⟨s, t, x, rfl, rfl, rfl, _⟩
    exact hm
  · rintro I i v vs mu' nv' io h tk QL hi hv ⟨s', t, x, rfl, rfl, rfl, hc⟩ S3
    revert S3; (repeat (rename Sta _ _ _ _ _ _ => So; clear So)); intro S3
    rw [← Array.getElem?_toList] at hv
    obtain ⟨d, hd1, hd2⟩ := hA.get hv
    have hi' : i < hs.length := by rcases Nat.lt_or_ge i hs.length with h | h; exact h; rw [List.getElem?_eq_none h] at hd1; cases hd1
    have hdd : hs.drop i = d :: hs.drop (i + 1) := by
      rw [List.drop_eq_getElem_cons hi']
      rw [List.getElem?_eq_getElem hi'] at hd1
      rw [Option.some.inj hd1]
    rw [hdd] at hc
    have hok := ho d (List.mem_of_getElem? hd1)
    cases d with
    | null =>
      obtain ⟨a, rfl, NA⟩ := hd2.nu
      tb_look
      refine ⟨(sp_isN w a _ _ NA).same (by decide) M S3 fun v h' tk S4 P => ?_⟩
      obtain rfl := P
      have en : (!false) = true := rfl
      tb_look
      exact q _ _ _ _ _ _ S4.drop ⟨rfl, rfl, _, by rw [hc]; rfl⟩
    | vec k its nm =>
      obtain ⟨a, il, n2, ys, av, t2, rfl, V, hl, hD, hN⟩ := hd2
      have hlen := hD.length
      rw [Array.length_toList] at hlen
      have hz : ys.size ≤ 1000 := by have := hok.2.1; omega
      tb_look
      refine ⟨(sp_isV w a _ _ _ _ _ V).same (by decide) M S3 fun v h' tk S4 P => ?_⟩
      obtain rfl := P
      have en : (!true) = false := rfl
      tb_look
      · rename_i e1
        refine ⟨(sp_length w a il n2 ys k t2 av _ _ V hl hz).same (by decide) M S4 fun v h' tk S5 P => ?_⟩
        obtain ⟨t3, rfl⟩ := P
        tb_look
        · rename_i e2
          have e : clen s' (HV.vec k its nm :: hs.drop (i + 1)) = -1 := if_pos ⟨of_decide_eq_true e1, by simpa [hlen] using e2⟩
          exact q _ _ _ _ _ _ S5.drop ⟨rfl, rfl, _, by rw [hc, e]; rfl⟩
        · rename_i e2
          refine ⟨(sp_length w a il n2 ys k t2 av _ _ V hl hz).same (by decide) M S5 fun v h' tk S6 P => ?_⟩
          obtain ⟨t4, rfl⟩ := P
          tb_look
          refine ForQ.next (by assumption) ⟨_, _, _, rfl, rfl, rfl, ?_⟩
          rw [hc, clen, if_neg]
          · rw [hlen]
          · rintro ⟨_, h⟩; apply h; simpa [hlen] using e2
      · rename_i e1
        refine ⟨(sp_length w a il n2 ys k t2 av _ _ V hl hz).same (by decide) M S4 fun v h' tk S5 P => ?_⟩
        obtain ⟨t4, rfl⟩ := P
        tb_look
        refine ForQ.next (by assumption) ⟨_, _, _, rfl, rfl, rfl, ?_⟩
        rw [hc, clen, if_neg]
        · rw [hlen]
        · rintro ⟨h, _⟩; have := of_decide_eq_false e1; omega
  · rintro vs mu' nv' h tk ⟨s', t, x, rfl, rfl, rfl, hc⟩ S3
    revert S3; (repeat (rename Sta _ _ _ _ _ _ => So; clear So)); intro S3
    have hL := hA.length
    rw [Array.length_toList] at hL
    rw [List.drop_of_length_le (by omega)] at hc
    tb_look
    exact q _ _ _ _ _ _ S3 ⟨rfl, rfl, t, by rw [hc]; rfl⟩
end Mine
namespace Mine
/-- the kind that takes in all -/
noncomputable def topK (ks : List Kd) : Kd := ks.foldl (fun a k => if a.rank ≤ k.rank then k else a) .lg
theorem topK_max (ks : List Kd) (h : ks ≠ []) : kinds[maxK ks]? = some (topK ks).str := by
  have key : ∀ (ks : List Kd) (a : Kd) (m : Nat), m = a.rank + 1 → ks.foldl (fun m k => max m (k.rank + 1)) m = (ks.foldl (fun a k => if a.rank ≤ k.rank then k else a) a).rank + 1 := by
    intro ks
    induction ks with
    | nil => intro a m e; exact e
    | cons k ks ih =>
      intro a m e
      refine ih _ _ ?_
      subst e
      show max (a.rank + 1) (k.rank + 1) = (if a.rank ≤ k.rank then k else a).rank + 1
      split <;> omega
  have e : maxK ks = (topK ks).rank + 1 := by
    cases ks with
    | nil => exact absurd rfl h
    | cons k ks =>
      unfold maxK topK
      rw [List.foldl_cons, List.foldl_cons]
      refine key ks _ _ ?_
      show max 0 (k.rank + 1) = (if Kd.lg.rank ≤ k.rank then k else Kd.lg).rank + 1
      rw [if_pos (show Kd.lg.rank ≤ k.rank from Nat.zero_le _)]
      omega
  rw [e]
  cases topK ks <;> rfl
theorem topK_ge {ks : List Kd} {k : Kd} (h : k ∈ ks) : k.rank ≤ (topK ks).rank := by
  have key : ∀ (ks : List Kd) (a : Kd), a.rank ≤ (ks.foldl (fun a k => if a.rank ≤ k.rank then k else a) a).rank ∧ ∀ k ∈ ks, k.rank ≤ (ks.foldl (fun a k => if a.rank ≤ k.rank then k else a) a).rank := by
    intro ks
    induction ks with
    | nil => intro a; exact ⟨Nat.le_refl _, fun k h => by cases h⟩
    | cons k ks ih =>
      intro a
      obtain ⟨h1, h2⟩ := ih (if a.rank ≤ k.rank then k else a)
      have h3 : a.rank ≤ (if a.rank ≤ k.rank then k else a).rank ∧ k.rank ≤ (if a.rank ≤ k.rank then k else a).rank := by split <;> omega
      refine ⟨Nat.le_trans h3.1 h1, fun x hx => ?_⟩
      rcases List.mem_cons.mp hx with rfl | hx
      · exact Nat.le_trans h3.2 h1
      · exact h2 x hx
  exact (key ks .lg).2 k h
theorem sp_ckind' (w : World) (l : Addr) (xs : Array Value) (n : Nat) (ks : List Kd) (mu nv : Led) (hne : ks ≠ []) (hm : (l, listOf xs n) ∈ mu ++ nv) (hi' : StrsAre xs.toList (ks.map Kd.str)) : Spec (KK w) w 2 (.ref 394) [.ref l] mu nv (Same mu nv fun v => ∃ t, v = .str (topK ks).str t) :=
  (sp_ckind w l xs n ks mu nv hm hi').mono fun v mu' nv' ⟨a, b, t, x, e, h⟩ => ⟨a, b, t, by rw [topK_max ks hne] at h; cases h; exact e⟩
end Mine
end
/-! N19 -/
section
namespace Mine
section
variable {prog : Program} {w : World} {A : Around} {s : Shared}
theorem isnot_any {nv : Led} {nav : Value} {outer : Option (List Str)} {Q : Value → Shared → Prop} (h : NmArg nv nav outer) (q : Q (.bool outer.isSome) s) : wp prog w A (compareOp .IsNot nav .none) Q s := by
  cases outer with
  | none => cases h; exact wpAny_isNot_self (by with_unfolding_all rfl) q
  | some ns =>
    obtain ⟨il, n, xs, rfl, _⟩ := h
    exact wpAny_isNot_other (by with_unfolding_all rfl) (by with_unfolding_all (intro x; cases x)) q
theorem is_any {nv : Led} {nav : Value} {outer : Option (List Str)} {Q : Value → Shared → Prop} (h : NmArg nv nav outer) (q : Q (.bool outer.isNone) s) : wp prog w A (compareOp .Is nav .none) Q s := by
  cases outer with
  | none => cases h; exact wpAny_is_self (by with_unfolding_all rfl) q
  | some ns =>
    obtain ⟨il, n, xs, rfl, _⟩ := h
    exact wpAny_is_other (by with_unfolding_all rfl) (by with_unfolding_all (intro x; cases x)) q
end
theorem NmArg.gr {nv nv' : Led} (g : Gr nv nv') {v : Value} : ∀ {o : Option (List Str)}, NmArg nv v o → NmArg nv' v o
  | none, h => h
  | some _, h => StrsIn.gr g h
theorem strs_app {vs ws : List Value} {xs ys : List Str} (h : StrsAre vs xs) (k : StrsAre ws ys) : StrsAre (vs ++ ws) (xs ++ ys) := by
  induction h with
  | nil => exact k
  | cons y t _ ih => exact .cons y t ih
noncomputable def atN : Option (List Str) → Nat → Str
  | none, _ => ""
  | some ns, i => ns.getD i ""
theorem atN_len {o : Option (List Str)} (h : ∀ ns, o = some ns → ∀ x ∈ ns, SOk x) (i : Nat) : (atN o i).length ≤ 10 := by
  cases o with
  | none => exact Nat.zero_le _
  | some ns =>
    show (ns.getD i "").length ≤ 10
    rw [List.getD_eq_getElem?_getD]
    cases e : ns[i]? with
    | none => exact Nat.zero_le _
    | some x => exact (h ns rfl x (List.mem_of_getElem? e)).1
noncomputable def oneName (outer : Option (List Str)) (i : Nat) (h : HV) : Str := jn (atN outer i) (atN h.nm 0)
noncomputable def oneNames (outer : Option (List Str)) (hs : List HV) : List Str := hs.mapIdx fun i h => oneName outer i h
noncomputable def someNames (outer : Option (List Str)) (hs : List HV) : Bool := outer.isSome || hs.any fun h => h.nm.isSome
noncomputable def allIts (to : Kd) (hs : List HV) : List Dt := hs.flatMap fun h => h.its.map (cv h.kd to)
theorem HIn.vec {w : World} {nv : Led} {v : Value} {h : HV} (H : HIn w nv v h) (hv : h.isV = true) : VIn w nv v h.kd h.its h.nm := by
  cases h with
  | null => cases hv
  | vec k its nm => exact H
theorem HOk.vec {h : HV} (H : HOk h) : (∀ d ∈ h.its, ItOk h.kd d) ∧ h.its.length ≤ 3 ∧ ∀ ns, h.nm = some ns → ns.length = h.its.length ∧ ∀ x ∈ ns, SOk x := by
  cases h with
  | null => exact ⟨fun d h => (by cases h), Nat.zero_le _, fun ns h => (by cases h)⟩
  | vec k its nm => exact H
noncomputable def CL_combine_ones : List (Str × Nat) := [("kind", 0)]
theorem sp_ones (w : World) (l : Addr) (xs : Array Value) (n : Nat) (hs : List HV) (nav : Value) (outer : Option (List Str)) (mu nv : Led) (hm : (l, listOf xs n) ∈ nv) (hA : HAll w nv xs.toList hs) (ho : ∀ h ∈ hs, HOk h) (h1 : ∀ h ∈ hs, h.isV = true ∧ h.its.length = 1) (hne : hs ≠ []) (hz : hs.length ≤ 10)
    (hN : NmArg nv nav outer) (hzo : ∀ ns, outer = some ns → ns.length = hs.length ∧ ∀ x ∈ ns, SOk x) :
    Spec (KK w) w 11 (.ref 507) [.ref l, nav] mu nv (Grw mu nv fun v nv' => VIn w nv' v (topK (hs.map HV.kd)) (allIts (topK (hs.map HV.kd)) hs) (if someNames outer hs then some (oneNames outer hs) else none)) := by
  refine' Spec.cells (vr := ["values", "names", "items", "result", "found", "some", "place", "own_names", "inner"]) (vs := [some (.ref l), some (nav), none, none, none, none, none, none, none]) (binds := [("values", .ref l), ("names", nav)]) (cl := CL_combine_ones) ?ho ?hcd ?hbind ?hkind ?hcl ?hcl1 ?hcl2 ?hm ?hco ?hgen ?hk ?B
  case ho => (show List.lookup _ (Mine.hp.heap_1 w.params) = _; k_is)
  case hcd => (show codeIn (Mine.hp.heap_1 w.params) _ _ = _; k_is)
  case hbind => exact fun s _ => BindsTo.of_eq rfl
  case hkind => rfl
  case hcl => exact fun n => rfl
  case hcl1 => decide
  case hcl2 => decide
  case hm => exact hm_cells (ns := ["values", "names"]) (more := ["items", "result", "found", "some", "place", "own_names", "inner"]) (vals := [.ref l, nav]) (k := 7) (by rfl) rfl (by decide)
  case hco => rfl
  case hgen => rfl
  case hk => rfl
  intro prog A env g s Q cells hsc G M hce Y S q
  have l_values : IsLoc env ["values", "names", "items", "result", "found", "some", "place", "own_names", "inner"] "values" 0 := .of hsc rfl rfl
  have l_names : IsLoc env ["values", "names", "items", "result", "found", "some", "place", "own_names", "inner"] "names" 1 := .of hsc rfl rfl
  have l_items : IsLoc env ["values", "names", "items", "result", "found", "some", "place", "own_names", "inner"] "items" 2 := .of hsc rfl rfl
  have l_result : IsLoc env ["values", "names", "items", "result", "found", "some", "place", "own_names", "inner"] "result" 3 := .of hsc rfl rfl
  have l_found : IsLoc env ["values", "names", "items", "result", "found", "some", "place", "own_names", "inner"] "found" 4 := .of hsc rfl rfl
  have l_some : IsLoc env ["values", "names", "items", "result", "found", "some", "place", "own_names", "inner"] "some" 5 := .of hsc rfl rfl
  have l_place : IsLoc env ["values", "names", "items", "result", "found", "some", "place", "own_names", "inner"] "place" 6 := .of hsc rfl rfl
  have l_own_names : IsLoc env ["values", "names", "items", "result", "found", "some", "place", "own_names", "inner"] "own_names" 7 := .of hsc rfl rfl
  have l_inner : IsLoc env ["values", "names", "items", "result", "found", "some", "place", "own_names", "inner"] "inner" 8 := .of hsc rfl rfl
  have kc_kind : env.kindOf "kind" = some .cell := kof hsc rfl
  have gl_common_kind : IsGlb env "common_kind" := .of hsc rfl rfl
  have c_common_kind := c_common_kind w
  have gl_Vector : IsGlb env "Vector" := .of hsc rfl rfl
  have c_Vector := c_Vector w
  have gl_range : IsGlb env "range" := .of hsc rfl rfl
  have c_range := b_range w
  have gl_len : IsGlb env "len" := .of hsc rfl rfl
  have c_len := b_len w
  have gl_names_of : IsGlb env "names_of" := .of hsc rfl rfl
  have c_names_of := c_names_of w
  have gl_joined_name : IsGlb env "joined_name" := .of hsc rfl rfl
  have c_joined_name := c_joined_name w
  have gl_share : IsGlb env "share" := .of hsc rfl rfl
  have c_share := c_share w
  have gl_character : IsGlb env "character" := .of hsc rfl rfl
  have c_character := c_character w
  obtain ⟨o, ho1, rfl⟩ := cells1 Y
  have cc : CCel env "kind" (env.locals + 1 + 0) := ⟨kc_kind, rfl, rfl, by rw [hce]; rfl⟩
  clear hsc hce Y
  generalize env.locals + 1 + 0 = c at *
  simp only [List.singleton_append] at S
  have hL := hA.length
  rw [Array.length_toList] at hL
  tb_look
  refine ⟨e_comp (fun i acc mu' nv' => mu' = (c, o) :: mu ∧ nv' = nv ∧ StrsAre acc ((hs.take i).map fun h => h.kd.str)) M S (clos_none rfl) (by decide) rfl (by decide) rfl ?_⟩
  tb_look
  refine ⟨_, _, _, _, .list rfl (S.mem (List.mem_append_right _ hm)) (.inr fun i acc mu' nv' _ h => ?_), S, by rw [sizeLine_eq]; omega, ⟨rfl, rfl, .nil⟩, CompTurn.plain ?_, ?_⟩
  · obtain ⟨rfl, rfl, _⟩ := h
    exact List.mem_append_right _ hm
  · rintro I i v acc mu' nv' C oC D k io' env' h tk QL hi hv ⟨rfl, rfl, ha⟩ _ ce hk hin S2
    revert S2; (repeat (rename Sta _ _ _ _ _ _ => So; clear So)); intro S2
    have G' := ce.g G hk
    have cv0 := ce.var hin (x := "value") rfl (by decide)
    rw [← Array.getElem?_toList] at hv
    obtain ⟨d, hd1, hd2⟩ := hA.get hv
    have hmem := List.mem_of_getElem? hd1
    obtain ⟨a, il, n2, ys, av, t2, rfl, V, hl, hD, hN2⟩ := hd2.vec (h1 d hmem).1
    tb_look
    refine CompEnd.mk' S2 ⟨rfl, rfl, ?_⟩
    rw [List.take_add_one, hd1, Option.toList_some, List.map_append, List.map_cons, List.map_nil]
    exact strs_app ha (.cons _ _ .nil)
  · rintro acc mu' nv' D k h tk ⟨rfl, rfl, ha⟩ hl' S2
    revert S2; (repeat (rename Sta _ _ _ _ _ _ => So; clear So)); intro S2
    rw [List.take_of_length_le (by omega)] at ha
    tb_look
    refine ⟨(sp_ckind' w D _ k (hs.map HV.kd) _ _ (by simpa using hne) (.head _) (by rw [List.map_map]; exact ha)).same (by decide) M S2 fun v' h' tk S3 P => ?_⟩
    obtain ⟨t3, rfl⟩ := P
    tb_look
    refine ⟨st_cl cc G S3.drop ho1 fun h' o' ho' S4 => ?_⟩
    generalize hto : topK (hs.map HV.kd) = to at *
    have hrank : ∀ h ∈ hs, h.kd.rank ≤ to.rank := fun h hh => by rw [← hto]; exact topK_ge (List.mem_map.mpr ⟨h, hh, rfl⟩)
    tb_look
    refine ⟨x_asgComp (fun i acc mu' nv2 => mu' = (c, o') :: mu ∧ Gr nv' nv2 ∧ DtAll nv2 acc (allIts to (hs.take i)) ∧ acc.length = i) M S4 l_items G rfl (swaps_loc G l_items rfl rfl) (clos_list [("kind", c)] rfl (by intro p hp; rw [List.mem_singleton.mp hp]; exact cc.c)) (by decide) rfl (by decide) rfl ?_⟩
    tb_look
    refine ⟨_, _, _, _, .list rfl (S4.mem (List.mem_append_right _ hm)) (.inr fun i acc mu' nv' _ h => ?_), S4, by rw [sizeLine_eq]; omega, ⟨rfl, Gr.refl _, .nil, rfl⟩, CompTurn.plain ?_, ?_⟩
    · obtain ⟨rfl, g1, _⟩ := h
      exact List.mem_append_right _ (g1.list hm)
    · rintro I i v acc mu' nv2 C oC D k io' env' h tk QL hi hv ⟨rfl, g1, ha, hal⟩ _ ce hk hin S5
      revert S5; (repeat (rename Sta _ _ _ _ _ _ => So; clear So)); intro S5
      have G' := ce.g G hk
      have cv0 := ce.var hin (x := "value") rfl (by decide)
      have cc' : CCel env' "kind" c := ⟨ce.kindF G cc.k rfl, rfl, rfl, by rw [ce.cells]; rfl⟩
      have gl_a : IsGlb env' "as_kind" := ce.glb rfl (by decide)
      have c_a := c_as_kind w
      rw [← Array.getElem?_toList] at hv
      obtain ⟨d, hd1, hd2⟩ := hA.get hv
      have hmem := List.mem_of_getElem? hd1
      have hok := (ho d hmem).vec
      tb_look
      refine ⟨j_new (by assumption) (by simp [sizeLine_eq]) fun D' h' S6 => ?_⟩
      tb_look
      refine ⟨(sp_askind w d.kd to v _ d.its d.nm _ _ _ ((hd2.vec (h1 d hmem).1).gr g1) hok.1 (hrank d hmem) (by omega) (fun ns e => by have := (hok.2.2 ns e).1; omega)).grw (by decide) M S6 fun v' h' tk nv3 S7 g2 P => ?_⟩
      obtain ⟨a, il, n2, ys, av, t2, rfl, V, hl, hD, hN2⟩ := P
      have hyl := hD.length
      rw [List.length_map, (h1 d hmem).2] at hyl
      obtain ⟨y, hy⟩ : ∃ y, ys.toList[0]? = some y := ⟨_, List.getElem?_eq_getElem (by omega)⟩
      tb_look
      refine ⟨j_itemC (List.mem_append_right _ hl) S7 (by decide) (by decide) hy ?_⟩
      refine CompEnd.mk' S7.drop ⟨rfl, g1.trans g2, ?_, by simp [hal]⟩
      have e1 : allIts to (hs.take (i + 1)) = allIts to (hs.take i) ++ d.its.map (cv d.kd to) := by
        unfold allIts
        rw [List.take_add_one, hd1, Option.toList_some, List.flatMap_append]
        simp
      rw [e1]
      refine (ha.gr g2).append ?_
      have e2 : ys.toList = [y] := by
        match hq : ys.toList, hyl, hy with
        | [z], _, hy => simp at hy; rw [hy]
      rw [e2] at hD
      exact hD
    · rintro acc mu' nv2 D k h tk ⟨rfl, g1, ha, hal⟩ hl' S5
      revert S5; (repeat (rename Sta _ _ _ _ _ _ => So; clear So)); intro S5
      rw [List.take_of_length_le (by omega)] at ha
      have S6 := S5.keep1
      have g2 : Gr nv' ((D, listOf acc.toArray k) :: nv2) := Gr.cons _ g1
      tb_look
      refine ⟨((sp_V2 w _ _ _ _).less (by decide)) _ _ _ _ _ _ _ M S6 fun v' h' tk mu'' nv3 S7 P => ?_⟩
      obtain ⟨x, dx, ox, rfl, VV, rfl, rfl⟩ := P
      tb_look
      refine ⟨j_new (by assumption) (by simp [sizeLine_eq]) fun Fd h' S8 => ?_⟩
      have gA : Gr nv' ((x, instObj 314 dx) :: (D, listOf acc.toArray k) :: nv2) := Gr.cons _ g2
      have hD0 : (D, listOf acc.toArray k) ∈ (x, instObj 314 dx) :: (D, listOf acc.toArray k) :: nv2 := .tail _ (.head _)
      have hx0 : (x, instObj 314 dx) ∈ (x, instObj 314 dx) :: (D, listOf acc.toArray k) :: nv2 := .head _
      have ha0 : DtAll ((x, instObj 314 dx) :: (D, listOf acc.toArray k) :: nv2) acc (allIts to hs) := ha.gr (Gr.cons _ (Gr.cons _ (Gr.refl _)))
      generalize (x, instObj 314 dx) :: (D, listOf acc.toArray k) :: nv2 = nvA at *
      have hmA := gA.list hm
      have hAA := hA.gr gA
      have hNA := hN.gr gA
      tb_look
      refine ⟨isnot_any hNA ?_⟩
      tb_look
      rename_i h9 S9
      refine ⟨x_forR (fun i vs mu' nv' => ∃ fa fn b tb p on inn, vs = [some (.ref l), some nav, some (.ref D), some (.ref x), some (.ref Fd), some (.bool b), p, on, inn] ∧ mu' = (Fd, listOf fa.toArray fn) :: (dx, ox) :: (c, o') :: mu ∧ Gr nvA nv' ∧ StrsAre fa (oneNames outer (hs.take i)) ∧ fa.length = i ∧ tb = () ∧ b = someNames outer (hs.take i)) l_place G M (by rintro i vs mu' nv' ⟨_, _, _, _, _, _, _, rfl, _⟩; rfl) ?_⟩
      tb_look
      refine ⟨j_len (List.mem_append_right _ hmA) S9 (by omega) ?_⟩
      tb_look
      refine ⟨j_range S9 fun r h' tk t u v S10 hr => ?_⟩
      refine ⟨r, xs.size, t, u, v, _, _, _, rfl, hr, range_small (by omega), S10, ⟨[], 0, _, (), none, none, none, rfl, rfl, Gr.refl _, .nil, rfl, rfl, by simp [someNames]⟩, ?_, ?_⟩
      · rintro I i t vs mu' nv' io h tk QL hi ⟨fa, fn, b, tb, p, on, inn, rfl, rfl, gB, hfa, hfl, _, rfl⟩ S11
        revert S11; (repeat (rename Sta _ _ _ _ _ _ => So; clear So)); intro S11
        have hi' : i < hs.length := by omega
        have hgA := gA.trans gB
        obtain ⟨v, hv⟩ : ∃ v, xs.toList[i]? = some v := ⟨_, List.getElem?_eq_getElem (by rw [Array.length_toList]; omega)⟩
        obtain ⟨d, hd1, hd2⟩ := hAA.get hv
        have hmem := List.mem_of_getElem? hd1
        have hok := (ho d hmem).vec
        obtain ⟨a, il, n2, ys, av, t2, rfl, V, hl, hD, hN2⟩ := (hd2.vec (h1 d hmem).1).gr gB
        have hNB := hNA.gr gB
        have htake : hs.take (i + 1) = hs.take i ++ [d] := by rw [List.take_add_one, hd1]; rfl
        have hone : oneNames outer (hs.take (i + 1)) = oneNames outer (hs.take i) ++ [jn (atN outer i) (atN d.nm 0)] := by
          unfold oneNames
          rw [htake, List.mapIdx_concat, List.length_take, Nat.min_eq_left (by omega)]
          rfl
        have hsome : someNames outer (hs.take (i + 1)) = (someNames outer (hs.take i) || d.nm.isSome) := by
          unfold someNames
          rw [htake, List.any_append, List.any_cons, List.any_nil, Bool.or_false, Bool.or_assoc]
        tb_look
        refine ⟨j_item (List.mem_append_right _ (gB.list hmA)) S11 (by omega) (by omega) hv ?_⟩
        tb_look
        refine ⟨((sp_names w a d.kd t2 _ av d.nm _ _ V hN2 (fun ns e => by have := (hok.2.2 ns e).1; have := (h1 d hmem).2; omega)).less (by decide)) _ _ _ _ _ _ _ M S11 fun v' h' tk mu' nv2 S12 P => ?_⟩
        obtain ⟨rfl, P⟩ := P
        have hlo := atN_len (o := outer) (fun ns e => (hzo ns e).2) i
        have hli := atN_len (o := d.nm) (fun ns e => (hok.2.2 ns e).2) 0
        cases hnm : d.nm with
        | none =>
          rw [hnm] at P hone hsome hli
          obtain ⟨rfl, rfl⟩ := P
          rw [Option.isSome_none, Bool.or_false] at hsome
          have en : (!true) = false := rfl
          tb_look
          refine ⟨is_any hNB ?_⟩
          cases outer with
          | none =>
            have e0 : (none : Option (List Str)).isNone = true := rfl
            tb_look
            refine ⟨(sp_joined w (atN none i) (atN none 0) _ _ _ _ (by omega) (by omega)).same (by decide) M (by assumption) fun v' h' tk S13 P => ?_⟩
            obtain ⟨t5, rfl⟩ := P
            tb_look
            refine ⟨j_append S13.swap (by rw [sizeLine_eq]; omega) fun n' h' S14 => ?_⟩
            tb_look
            exact ForQ.next S14.swap ⟨_, _, _, (), _, _, _, rfl, rfl, gB, by rw [hone]; exact strs_app hfa (.cons _ _ .nil), by simp [hfl], rfl, by rw [hsome]⟩
          | some ons =>
            have e0 : (some ons : Option (List Str)).isNone = false := rfl
            obtain ⟨lo, no, xo, rfl, hlo1, hlo2⟩ := hNB
            have hon := (hzo ons rfl).1
            obtain ⟨u5, hu5⟩ := hlo2.at (j := i) (y := atN (some ons) i) (by show ons[i]? = some (ons.getD i ""); rw [List.getD_eq_getElem?_getD, List.getElem?_eq_getElem (by omega)]; rfl)
            tb_look
            refine ⟨j_item (List.mem_append_right _ hlo1) (by assumption) (by omega) (by omega) hu5 ?_⟩
            tb_look
            refine ⟨(sp_joined w (atN (some ons) i) (atN none 0) _ _ _ _ (by omega) (by omega)).same (by decide) M (by assumption) fun v' h' tk S13 P => ?_⟩
            obtain ⟨t5, rfl⟩ := P
            tb_look
            refine ⟨j_append S13.swap (by rw [sizeLine_eq]; omega) fun n' h' S14 => ?_⟩
            tb_look
            exact ForQ.next S14.swap ⟨_, _, _, (), _, _, _, rfl, rfl, gB, by rw [hone]; exact strs_app hfa (.cons _ _ .nil), by simp [hfl], rfl, by rw [hsome]⟩
        | some ns =>
          rw [hnm] at P hone hsome hli
          rw [Option.isSome_some, Bool.or_true] at hsome
          obtain ⟨Dn, cn, xn, rfl, rfl, hin⟩ := P
          have hnl : ns.length = 1 := by have h2 := (hok.2.2 ns hnm).1; have h3 := (h1 d hmem).2; omega
          have hxl := hin.length
          rw [Array.length_toList] at hxl
          obtain ⟨u6, hu6⟩ := hin.at (j := 0) (y := atN (some ns) 0) (by show ns[0]? = some (ns.getD 0 ""); rw [List.getD_eq_getElem?_getD, List.getElem?_eq_getElem (by omega)]; rfl)
          have en : (!false) = true := rfl
          tb_look
          refine Halt.mk ?_
          refine' j_len ?hm ?hS ?hz ?_
          case hS => assumption
          case hm => exact .head _
          case hz => omega
          have e1 : ((xn.size : Int) == 1) = true := beq_iff_eq.mpr (by omega)
          tb_look
          refine Halt.mk ?_
          refine' j_item ?hm ?hS ?h0 ?hf hu6 ?_
          case hS => assumption
          case hm => exact .head _
          case h0 => decide
          case hf => decide
          tb_look
          rename_i h15 S15 h16 S16
          refine ⟨is_any hNB ?_⟩
          cases outer with
          | none =>
            have e0 : (none : Option (List Str)).isNone = true := rfl
            tb_look
            refine ⟨(sp_joined w (atN none i) (atN (some ns) 0) _ _ _ _ (by omega) (by omega)).same (by decide) M S16 fun v' h' tk S13 P => ?_⟩
            obtain ⟨t5, rfl⟩ := P
            tb_look
            refine ⟨j_append S13.drop.swap (by rw [sizeLine_eq]; omega) fun n' h' S14 => ?_⟩
            tb_look
            exact ForQ.next S14.swap ⟨_, _, _, (), _, _, _, rfl, rfl, gB, by rw [hone]; exact strs_app hfa (.cons _ _ .nil), by simp [hfl], rfl, by rw [hsome]⟩
          | some ons =>
            have e0 : (some ons : Option (List Str)).isNone = false := rfl
            obtain ⟨lo, no, xo, rfl, hlo1, hlo2⟩ := hNB
            have hon := (hzo ons rfl).1
            obtain ⟨u5, hu5⟩ := hlo2.at (j := i) (y := atN (some ons) i) (by show ons[i]? = some (ons.getD i ""); rw [List.getD_eq_getElem?_getD, List.getElem?_eq_getElem (by omega)]; rfl)
            tb_look
            refine ⟨j_item (List.mem_append_right _ hlo1) S16 (by omega) (by omega) hu5 ?_⟩
            tb_look
            refine ⟨(sp_joined w (atN (some ons) i) (atN (some ns) 0) _ _ _ _ (by omega) (by omega)).same (by decide) M S16 fun v' h' tk S13 P => ?_⟩
            obtain ⟨t5, rfl⟩ := P
            tb_look
            refine ⟨j_append S13.drop.swap (by rw [sizeLine_eq]; omega) fun n' h' S14 => ?_⟩
            tb_look
            exact ForQ.next S14.swap ⟨_, _, _, (), _, _, _, rfl, rfl, gB, by rw [hone]; exact strs_app hfa (.cons _ _ .nil), by simp [hfl], rfl, by rw [hsome]⟩
      · rintro vs mu' nv' h tk ⟨fa, fn, b, tb, p, on, inn, rfl, rfl, gB, hfa, hfl, _, rfl⟩ S11
        revert S11; (repeat (rename Sta _ _ _ _ _ _ => So; clear So)); intro S11
        rw [List.take_of_length_le (by omega)] at hfa
        rw [List.take_of_length_le (by omega)] at S11
        cases hsn : someNames outer hs with
        | false =>
          rw [hsn] at S11 q
          tb_look
          refine q _ _ _ _ _ _ S11.drop.keep1.drop ⟨rfl, (gA.trans gB).trans (Gr.cons _ (Gr.refl _)), x, D, k, _, .none, _, rfl, ⟨dx, ox, .tail _ (gB.inst hx0), .head _, VV⟩, .tail _ (gB.list hD0), by simpa using ha0.gr (gB.trans (Gr.cons _ (Gr.refl _))), rfl⟩
        | true =>
          rw [hsn] at S11 q
          tb_look
          have hfl2 : fa.length ≤ 10 := by omega
          refine ⟨ad_new1 M S11 fun a2 oa h' tk S2 => ?_⟩
          tb_look
          refine ⟨(sp_char w Fd fa.toArray fn _ _ (.tail _ (.head _)) (by rw [List.size_toArray]; omega)).grw (by decide) M S2 fun v h' tk nv3 S3 g1 hF => ?_⟩
          obtain ⟨y, iy, ty, rfl, Vy, hiy⟩ := hF.ch hfa
          tb_look
          refine ⟨(sp_shareV w y _ _ _ _ _ Vy).grw (by decide) M S3 fun v h' tk nv4 S4 g2 P => ?_⟩
          obtain rfl := P
          refine ⟨_, _, S4, fun h' oa' tk D2 S5 => ?_⟩
          tb_look
          have gC := (gB.trans g1).trans g2
          refine ⟨vd_setAttrs M S5.rot3 (by exact List.mem_append_right _ (gC.inst hx0)) VV (os_attrs w) fun h' o2 V2 S6 => ?_⟩
          tb_look
          have gZ : Gr nv4 ((a2, oa') :: (dx, o2) :: nv4) := Gr.cons _ (Gr.cons _ (Gr.refl _))
          exact q _ _ _ _ _ _ S6.keep1.keep1.drop.drop ⟨rfl, (gA.trans gC).trans gZ, x, D, k, _, _, _, rfl, ⟨dx, o2, gZ.inst (gC.inst hx0), .tail _ (.head _), V2⟩, gZ.list (gC.list hD0), by simpa using ha0.gr (gC.trans gZ), a2, oa', .ref y, rfl, .head _, D2, ChVec.gr (g2.trans gZ) ⟨y, iy, ty, rfl, Vy, hiy⟩⟩
end Mine
end
/-! N20 -/
section
namespace Mine
noncomputable def DimAt (nv : Led) (dv : Value) (r c : Nat) : Prop := ∃ x kv il k t1 t2, dv = .ref x ∧ VecAt nv x kv (.ref il) .none ∧ (il, listOf #[.int (r : Nat) t1, .int (c : Nat) t2] k) ∈ nv
theorem DimAt.gr {nv nv' : Led} (g : Gr nv nv') {dv : Value} {r c : Nat} (h : DimAt nv dv r c) : DimAt nv' dv r c := by
  obtain ⟨x, kv, il, k, t1, t2, e, V, hl⟩ := h
  exact ⟨x, kv, il, k, t1, t2, e, V.gr g, g.list hl⟩
noncomputable def PartIn (nv : Led) (v : Value) : Option (List Str) → Prop
  | none => ∃ x, v = .ref x ∧ NuAt nv x
  | some ns => ChVec nv v ns
theorem PartIn.gr {nv nv' : Led} (g : Gr nv nv') {v : Value} : ∀ {o : Option (List Str)}, PartIn nv v o → PartIn nv' v o
  | none, ⟨x, e, N⟩ => ⟨x, e, N.gr g⟩
  | some _, h => ChVec.gr g h
theorem PartIn.shr {nv : Led} {v : Value} : ∀ {o : Option (List Str)}, PartIn nv v o → Shr nv v
  | none, ⟨x, e, N⟩ => .inr ⟨x, e, N⟩
  | some _, h => ChVec.shr h
noncomputable def DnAt (nv : Led) (dn : Value) (heads names : Option (List Str)) : Prop := ∃ x kv il k a b av, dn = .ref x ∧ VecAt nv x kv (.ref il) av ∧ (il, listOf #[a, b] k) ∈ nv ∧ PartIn nv a heads ∧ PartIn nv b names
theorem DnAt.gr {nv nv' : Led} (g : Gr nv nv') {dn : Value} {heads names : Option (List Str)} (h : DnAt nv dn heads names) : DnAt nv' dn heads names := by
  obtain ⟨x, kv, il, k, a, b, av, e, V, hl, h1, h2⟩ := h
  exact ⟨x, kv, il, k, a, b, av, e, V.gr g, g.list hl, h1.gr g, h2.gr g⟩
/-- the attributes of a matrix -/
noncomputable def ColAttrs (w : World) (nv : Led) (ad : Addr) (o : Obj) (r c : Nat) (heads names : Option (List Str)) : Prop :=
  ∃ dv, DimAt nv dv r c ∧ if (heads.isSome || names.isSome) = true then ∃ dn, AD w ad o [("dim", dv), ("dimnames", dn)] ∧ DnAt nv dn heads names else AD w ad o [("dim", dv)]
noncomputable def ColOut (w : World) (nv : Led) (v : Value) (to : Kd) (its : List Dt) (r c : Nat) (heads names : Option (List Str)) : Prop :=
  ∃ x il n xs t ad o, v = .ref x ∧ VecAt nv x (.str to.str t) (.ref il) (.ref ad) ∧ (il, listOf xs n) ∈ nv ∧ DtAll nv xs.toList its ∧ (ad, o) ∈ nv ∧ ColAttrs w nv ad o r c heads names
noncomputable def firstNm (hs : List HV) : Option (List Str) := (hs.head?.bind HV.nm)
theorem sp_names2 (w : World) (x : Addr) (k : Kd) (kt : Tok) (iv av : Value) (nm : Option (List Str)) (mu nv : Led) (V : VecAt nv x (.str k.str kt) iv av) (hN : NmIn w nv av nm) (hz : ∀ ns, nm = some ns → ns.length ≤ 1000) : Spec (KK w) w 3 (.ref 33) [.ref x] mu nv (Grw mu nv fun v nv' => NmArg nv' v nm) := by
  intro prog A fe h₀ m s Q M S q
  refine sp_names w x k kt iv av nm mu nv V hN hz _ _ _ _ _ _ _ M S fun v h' tk mu' nv' S' P => ?_
  obtain ⟨rfl, P⟩ := P
  cases nm with
  | none =>
    obtain ⟨rfl, rfl⟩ := P
    exact q _ _ _ _ _ S' ⟨rfl, Gr.refl _, rfl⟩
  | some ns =>
    obtain ⟨D, c, xs, rfl, rfl, hi⟩ := P
    exact q _ _ _ _ _ S'.keep1 ⟨rfl, Gr.cons _ (Gr.refl _), D, c, xs, rfl, .head _, hi⟩
theorem strsIn_size {nv : Led} {v : Value} {ns : List Str} (h : StrsIn nv v ns) : ∃ il n xs, v = .ref il ∧ (il, listOf xs n) ∈ nv ∧ StrsAre xs.toList ns ∧ xs.size = ns.length := by
  obtain ⟨il, n, xs, e, h1, h2⟩ := h
  exact ⟨il, n, xs, e, h1, h2, by rw [← Array.length_toList]; exact h2.length⟩
/-- null() if x is None else character(x) -/
theorem e_part {prog : Program} {w : World} {A : Around} {env : Env} {s : Shared} {h₀ : Heap} {mu nv : Led} {vr : List Str} {vs : List (Option Value)} {x : Str} {ix k : Nat} {p1 p2 p3 p4 p5 p6 p7 p8 p9 : Pos} {hv : Value} {nm : Option (List Str)} {Q : Value → Shared → Prop}
    (nx : IsLoc env vr x ix) (gl_null : IsGlb env "null") (gl_character : IsGlb env "character") (G : EnvG env) (M : Am (KK w) 4 A env h₀) (S : Sta h₀ env.locals s.heap (mV vr vs) mu nv) (hx : (vs[ix]?).join = some hv) (hN : NmArg nv hv nm) (hz : ∀ ns, nm = some ns → ns.length ≤ 1000)
    (q : ∀ v h' tk nv', Gr nv nv' → PartIn nv' v nm → Sta h₀ env.locals h' (mV vr vs) mu nv' → Q v { s with heap := h', toks := tk }) :
    wp prog w A (eval (.IfExp (.Compare (.Name x p1) [.Is] [.Constant .none k p2] p3) (.Call (.Name "null" p4) [] [] p5) (.Call (.Name "character" p6) [.Name x p7] [] p8) p9) env) Q s := by
  have c_null := c_null w
  have c_character := c_character w
  tb_look
  refine Halt.mk ?_
  refine ld_loc nx G S hx ?_
  tb_look
  refine ⟨is_any hN ?_⟩
  cases nm with
  | none =>
    have e0 : (none : Option (List Str)).isNone = true := rfl
    tb_look
    refine ⟨(sp_null w _ _).grw (by decide) M S fun v h' tk nv' S' g1 P => ?_⟩
    obtain ⟨a, rfl, N⟩ := P
    exact q _ _ _ _ g1 ⟨a, rfl, N⟩ S'
  | some ns =>
    have e0 : (some ns : Option (List Str)).isNone = false := rfl
    obtain ⟨il, n, xs, rfl, hl, hi, hsz⟩ := strsIn_size hN
    have hzz := hz ns rfl
    tb_look
    refine Halt.mk ?_
    refine ld_loc nx G S hx ?_
    tb_look
    refine ⟨(sp_char w il xs n _ _ (List.mem_append_right _ hl) (by omega)).grw (by decide) M S fun v h' tk nv' S' g1 hF => ?_⟩
    exact q _ _ _ _ g1 (hF.ch hi) S'
theorem sp_listof1 (w : World) (l : Addr) (xs : Array Value) (n : Nat) (mu nv : Led) (hm : (l, listOf xs n) ∈ mu ++ nv) (hs : ∀ v ∈ xs.toList, Shr nv v) (hz2 : xs.size ≤ 1000) :
    Spec (KK w) w 5 (.ref 352) [.ref l] mu nv (Grw mu nv fun v nv' => ListOut w nv' v xs.toList none) := by
  refine' Spec.plain (vr := ["items", "names"]) (vs := [some (.ref l), some (.none)]) (binds := [("items", .ref l), ("names", .none)]) ?ho ?hcd ?hbind ?hloc ?hm ?hcell ?hco ?hgen ?hk ?B
  case ho => (show List.lookup _ (Mine.hp.heap_1 w.params) = _; k_is)
  case hcd => (show codeIn (Mine.hp.heap_1 w.params) _ _ = _; k_is)
  case hbind => exact fun s X => kp_binds X fun S => by (show peek (Mine.hp.heap_1 w.params) _ _ = _; kernel_rfl)
  case hloc => exact locs rfl
  case hm => exact binds_mV (ns := ["items", "names"]) (more := []) (vals := [.ref l, .none]) (k := 0) rfl (by decide)
  case hcell => decide
  case hco => rfl
  case hgen => rfl
  case hk => rfl
  intro prog A env g s Q hsc G M S q
  have l_items : IsLoc env ["items", "names"] "items" 0 := .of hsc rfl rfl
  have l_names : IsLoc env ["items", "names"] "names" 1 := .of hsc rfl rfl
  have gl_named : IsGlb env "named" := .of hsc rfl rfl
  have c_named := c_named w
  have gl_Vector : IsGlb env "Vector" := .of hsc rfl rfl
  have c_Vector := c_Vector w
  clear hsc
  tb_look
  refine ⟨e_comp (fun i acc mu' nv' => mu' = mu ∧ Gr nv nv' ∧ acc = xs.toList.take i) M S (clos_none rfl) (by decide) rfl (by decide) rfl ?_⟩
  tb_look
  refine ⟨_, _, mu, nv, .list rfl (S.mem hm) (.inr fun i acc mu' nv' _ h => ?_), S, by rw [sizeLine_eq]; omega, ⟨rfl, Gr.refl _, rfl⟩, CompTurn.plain ?_, ?_⟩
  · obtain ⟨rfl, g, _⟩ := h
    exact mem_gr g hm
  · rintro I i v acc mu' nv' C oC D k io' env' h tk QL hi hv ⟨rfl, gg, rfl⟩ _ ce hk hin S2
    revert S2; (repeat (rename Sta _ _ _ _ _ _ => So; clear So)); intro S2
    have G' := ce.g G hk
    have cv := ce.var hin (x := "item") rfl (by decide)
    have gl_sh : IsGlb env' "share" := ce.glb rfl (by decide)
    have c_sh := c_share w
    rw [← Array.getElem?_toList] at hv
    tb_look
    refine ⟨(sp_share w v _ _ ((hs v (List.mem_of_getElem? hv)).gr gg)).grw (by decide) M S2 fun v' h' tk nv'' S3 g2 P => ?_⟩
    obtain rfl := P
    exact CompEnd.mk' S3 ⟨rfl, gg.trans g2, by rw [List.take_succ, hv]; rfl⟩
  · rintro acc mu' nv' D k h tk ⟨rfl, gg, rfl⟩ hl S2
    revert S2; (repeat (rename Sta _ _ _ _ _ _ => So; clear So)); intro S2
    rw [List.take_of_length_le (by simp)] at S2
    tb_look
    refine ⟨((sp_V2 w _ _ _ _).less (by decide)) _ _ _ _ _ _ _ M S2.keep1 fun v' h' tk mu'' nv'' S3 P => ?_⟩
    obtain ⟨x, dx, o, rfl, V, rfl, rfl⟩ := P
    tb_look
    refine ⟨(sp_named w x dx o _ _ .none none _ _ (.head _) V rfl (by rintro _ ⟨⟩)) _ _ _ _ _ _ _ M S3 fun v' h' tk mu'' nv'' S4 P => ?_⟩
    obtain ⟨rfl, g3, o', av', rfl, V', hN2⟩ := P
    exact q _ _ _ _ _ _ S4.keep1 ⟨rfl, (gg.trans (Gr.cons _ (Gr.cons _ (Gr.refl _)))).trans (g3.trans (Gr.cons _ (Gr.refl _))), x, D, k, _, av', rfl, ⟨dx, o', .tail _ (g3.inst (.head _)), .head _, V'⟩,
      .tail _ (g3.list (.tail _ (.head _))), hN2.gr (Gr.cons _ (Gr.refl _))⟩
theorem sp_cols (w : World) (l : Addr) (xs : Array Value) (n r : Nat) (hs : List HV) (nav : Value) (outer : Option (List Str)) (mu nv : Led) (hm : (l, listOf xs n) ∈ nv) (hA : HAll w nv xs.toList hs) (ho : ∀ h ∈ hs, HOk h) (h1 : ∀ h ∈ hs, h.isV = true ∧ h.its.length = r) (hne : hs ≠ []) (hz : hs.length ≤ 10)
    (hN : NmArg nv nav outer) (hzo : ∀ ns, outer = some ns → ns.length = hs.length ∧ ∀ x ∈ ns, SOk x) :
    Spec (KK w) w 11 (.ref 512) [.ref l, nav] mu nv (Grw mu nv fun v nv' => ColOut w nv' v (topK (hs.map HV.kd)) (allIts (topK (hs.map HV.kd)) hs) r hs.length (firstNm hs) outer) := by
  refine' Spec.plain (vr := ["values", "names", "kind", "value", "items", "rows", "result", "heads", "parts"]) (vs := [some (.ref l), some (nav), none, none, none, none, none, none, none]) (binds := [("values", .ref l), ("names", nav)]) ?ho ?hcd ?hbind ?hloc ?hm ?hcell ?hco ?hgen ?hk ?B
  case ho => (show List.lookup _ (Mine.hp.heap_1 w.params) = _; k_is)
  case hcd => (show codeIn (Mine.hp.heap_1 w.params) _ _ = _; k_is)
  case hbind => exact fun s _ => BindsTo.of_eq rfl
  case hloc => exact locs rfl
  case hm => exact binds_mV (ns := ["values", "names"]) (more := ["kind", "value", "items", "rows", "result", "heads", "parts"]) (vals := [.ref l, nav]) (k := 7) rfl (by decide)
  case hcell => decide
  case hco => rfl
  case hgen => rfl
  case hk => rfl
  intro prog A env g s Q hsc G M S q
  have l_values : IsLoc env ["values", "names", "kind", "value", "items", "rows", "result", "heads", "parts"] "values" 0 := .of hsc rfl rfl
  have l_names : IsLoc env ["values", "names", "kind", "value", "items", "rows", "result", "heads", "parts"] "names" 1 := .of hsc rfl rfl
  have l_kind : IsLoc env ["values", "names", "kind", "value", "items", "rows", "result", "heads", "parts"] "kind" 2 := .of hsc rfl rfl
  have l_value : IsLoc env ["values", "names", "kind", "value", "items", "rows", "result", "heads", "parts"] "value" 3 := .of hsc rfl rfl
  have l_items : IsLoc env ["values", "names", "kind", "value", "items", "rows", "result", "heads", "parts"] "items" 4 := .of hsc rfl rfl
  have l_rows : IsLoc env ["values", "names", "kind", "value", "items", "rows", "result", "heads", "parts"] "rows" 5 := .of hsc rfl rfl
  have l_result : IsLoc env ["values", "names", "kind", "value", "items", "rows", "result", "heads", "parts"] "result" 6 := .of hsc rfl rfl
  have l_heads : IsLoc env ["values", "names", "kind", "value", "items", "rows", "result", "heads", "parts"] "heads" 7 := .of hsc rfl rfl
  have l_parts : IsLoc env ["values", "names", "kind", "value", "items", "rows", "result", "heads", "parts"] "parts" 8 := .of hsc rfl rfl
  have gl_common_kind : IsGlb env "common_kind" := .of hsc rfl rfl
  have c_common_kind := c_common_kind w
  have gl_length : IsGlb env "length" := .of hsc rfl rfl
  have c_length := c_length w
  have gl_Vector : IsGlb env "Vector" := .of hsc rfl rfl
  have c_Vector := c_Vector w
  have gl_names_of : IsGlb env "names_of" := .of hsc rfl rfl
  have c_names_of := c_names_of w
  have gl_share : IsGlb env "share" := .of hsc rfl rfl
  have c_share := c_share w
  have gl_list_of : IsGlb env "list_of" := .of hsc rfl rfl
  have c_list_of := c_list_of w
  have gl_as_kind : IsGlb env "as_kind" := .of hsc rfl rfl
  have c_as_kind := c_as_kind w
  have gl_integer : IsGlb env "integer" := .of hsc rfl rfl
  have c_integer := c_integer w
  have gl_null : IsGlb env "null" := .of hsc rfl rfl
  have c_null := c_null w
  have gl_character : IsGlb env "character" := .of hsc rfl rfl
  have c_character := c_character w
  have gl_len : IsGlb env "len" := .of hsc rfl rfl
  have c_len := b_len w
  clear hsc
  have hL := hA.length
  rw [Array.length_toList] at hL
  tb_look
  refine ⟨e_comp (fun i acc mu' nv' => mu' = mu ∧ nv' = nv ∧ StrsAre acc ((hs.take i).map fun h => h.kd.str)) M S (clos_none rfl) (by decide) rfl (by decide) rfl ?_⟩
  tb_look
  refine ⟨_, _, _, _, .list rfl (S.mem (List.mem_append_right _ hm)) (.inr fun i acc mu' nv' _ h => ?_), S, by rw [sizeLine_eq]; omega, ⟨rfl, rfl, .nil⟩, CompTurn.plain ?_, ?_⟩
  · obtain ⟨rfl, rfl, _⟩ := h
    exact List.mem_append_right _ hm
  · rintro I i v acc mu' nv' C oC D k io' env' h tk QL hi hv ⟨rfl, rfl, ha⟩ _ ce hk hin S2
    revert S2; (repeat (rename Sta _ _ _ _ _ _ => So; clear So)); intro S2
    have G' := ce.g G hk
    have cv0 := ce.var hin (x := "value") rfl (by decide)
    rw [← Array.getElem?_toList] at hv
    obtain ⟨d, hd1, hd2⟩ := hA.get hv
    have hmem := List.mem_of_getElem? hd1
    obtain ⟨a, il, n2, ys, av, t2, rfl, V, hl, hD, hN2⟩ := hd2.vec (h1 d hmem).1
    tb_look
    refine CompEnd.mk' S2 ⟨rfl, rfl, ?_⟩
    rw [List.take_add_one, hd1, Option.toList_some, List.map_append, List.map_cons, List.map_nil]
    exact strs_app ha (.cons _ _ .nil)
  · rintro acc mu' nv' D k h tk ⟨rfl, rfl, ha⟩ hl' S2
    revert S2; (repeat (rename Sta _ _ _ _ _ _ => So; clear So)); intro S2
    rw [List.take_of_length_le (by omega)] at ha
    tb_look
    refine ⟨(sp_ckind' w D _ k (hs.map HV.kd) _ _ (by simpa using hne) (.head _) (by rw [List.map_map]; exact ha)).same (by decide) M S2 fun v' h' tk S3 P => ?_⟩
    obtain ⟨t3, rfl⟩ := P
    have S3 := S3.drop
    tb_look
    refine ⟨j_new (by assumption) (by simp [sizeLine_eq]) fun It h' S4 => ?_⟩
    generalize hto : topK (hs.map HV.kd) = to at *
    have hrank : ∀ h ∈ hs, h.kd.rank ≤ to.rank := fun h hh => by rw [← hto]; exact topK_ge (List.mem_map.mpr ⟨h, hh, rfl⟩)
    tb_look
    rename_i h9 S9
    refine ⟨x_forL (fun i vs mu2 nv2 => ∃ acc an x, vs = [some (.ref l), some nav, some (.str to.str t3), x, some (.ref It), none, none, none, none] ∧ mu2 = (It, listOf acc.toArray an) :: mu' ∧ Gr nv' nv2 ∧ DtAll nv2 acc (allIts to (hs.take i)) ∧ acc.length = i * r) l_value G M (by rintro i vs mu' nv' ⟨_, _, _, rfl, _⟩; rfl) ?_⟩
    tb_look
    refine ⟨l, xs, n, _, _, _, rfl, S9, ⟨[], 0, _, rfl, rfl, Gr.refl _, .nil, by simp⟩, S9.mem (List.mem_append_right _ hm), .inr ?_, ?_, ?_⟩
    · rintro i vs mu2 nv2 _ ⟨_, _, _, rfl, rfl, g1, _⟩
      exact List.mem_append_right _ (g1.list hm)
    · rintro I i v vs mu2 nv2 io h tk QL hi hv ⟨acc, an, x, rfl, rfl, g1, hacc, hal⟩ S10
      revert S10; (repeat (rename Sta _ _ _ _ _ _ => So; clear So)); intro S10
      rw [← Array.getElem?_toList] at hv
      obtain ⟨d, hd1, hd2⟩ := hA.get hv
      have hmem := List.mem_of_getElem? hd1
      have hok := (ho d hmem).vec
      have hi' : i < hs.length := by omega
      have hlr : d.its.length = r := (h1 d hmem).2
      have hr3 : r ≤ 3 := by have := hok.2.1; omega
      have hir : i * r ≤ 10 * 3 := Nat.mul_le_mul (by omega) hr3
      tb_look
      refine ⟨j_new (by assumption) (by simp [sizeLine_eq]) fun D' h' S6 => ?_⟩
      tb_look
      refine ⟨(sp_askind w d.kd to v _ d.its d.nm _ _ _ ((hd2.vec (h1 d hmem).1).gr g1) hok.1 (hrank d hmem) (by omega) (fun ns e => by have := (hok.2.2 ns e).1; omega)).grw (by decide) M S6 fun v' h' tk nv3 S7 g2 P => ?_⟩
      obtain ⟨a, il, n2, ys, av, t2, rfl, V, hl, hD, hN2⟩ := P
      have hyl := hD.length
      rw [List.length_map, hlr, Array.length_toList] at hyl
      tb_look
      refine ⟨j_extend (by exact List.mem_append_right _ hl) S7.drop.swap (by omega) fun n' h' S8 => ?_⟩
      tb_look
      have e1 : allIts to (hs.take (i + 1)) = allIts to (hs.take i) ++ d.its.map (cv d.kd to) := by
        unfold allIts
        rw [List.take_add_one, hd1, Option.toList_some, List.flatMap_append]
        simp
      refine ForQ.next S8.swap ⟨_, _, _, rfl, rfl, g1.trans g2, ?_, ?_⟩
      · rw [e1]; exact (hacc.gr g2).append hD
      · have e9 : (acc ++ ys.toList).length = (i + 1) * r := by rw [List.length_append, (show ys.toList.length = r by rw [Array.length_toList]; exact hyl), hal, Nat.succ_mul]
        exact e9
    · rintro vs mu2 nv2 h tk ⟨acc, an, x, rfl, rfl, g1, hacc, hal⟩ S10
      revert S10; (repeat (rename Sta _ _ _ _ _ _ => So; clear So)); intro S10
      rw [List.take_of_length_le (by omega)] at hacc
      have hmB := g1.list hm
      have hAB := hA.gr g1
      have hNB := hN.gr g1
      have h0 : 0 < hs.length := List.length_pos_iff.mpr hne
      obtain ⟨v0, hv0⟩ : ∃ v, xs.toList[0]? = some v := ⟨_, List.getElem?_eq_getElem (by rw [Array.length_toList]; omega)⟩
      obtain ⟨d, hd1, hd2⟩ := hAB.get hv0
      have hmem := List.mem_of_getElem? hd1
      have hok := (ho d hmem).vec
      have hlr : d.its.length = r := (h1 d hmem).2
      have hfirst : firstNm hs = d.nm := by
        unfold firstNm
        rw [← List.head?_eq_getElem?] at hd1
        rw [hd1]; rfl
      obtain ⟨a, il, n2, ys, av, t2, rfl, V, hl, hD, hN2⟩ := hd2.vec (h1 d hmem).1
      have hyl := hD.length
      rw [hlr, Array.length_toList] at hyl
      have hr3 : r ≤ 3 := by have := hok.2.1; omega
      have hacl := hal
      have hir : hs.length * r ≤ 10 * 3 := Nat.mul_le_mul hz hr3
      have S11 := S10.keep1
      have gx : Gr nv2 ((It, listOf acc.toArray an) :: nv2) := Gr.cons _ (Gr.refl _)
      have hmC := gx.list hmB
      have hAC := hAB.gr gx
      have hNC := hNB.gr gx
      have V' := V.gr gx
      have hl' := gx.list hl
      have hN2' := hN2.gr gx
      have hItm : (It, listOf acc.toArray an) ∈ (It, listOf acc.toArray an) :: nv2 := .head _
      have haccC := hacc.gr gx
      have gC : Gr nv' ((It, listOf acc.toArray an) :: nv2) := g1.trans gx
      generalize (It, listOf acc.toArray an) :: nv2 = nvC at *
      clear S10 gx hmB hAB hNB V hl hN2 hacc
      tb_look
      refine ⟨j_item (List.mem_append_right _ hmC) S11 (by decide) (by decide) hv0 ?_⟩
      tb_look
      refine ⟨(sp_length w a il n2 ys d.kd t2 av _ _ V' hl' (by omega)).same (by decide) M S11 fun v' h' tk S12 P => ?_⟩
      obtain ⟨t5, rfl⟩ := P
      rw [hyl] at *
      tb_look
      refine ⟨ad_new1 M (by assumption) fun a2 oa h' tk S13 => ?_⟩
      tb_look
      refine ⟨j_len (List.mem_append_right _ hmC) S13 (by omega) ?_⟩
      tb_look
      refine ⟨j_new S13 (by simp [sizeLine_eq]) fun Dm h' S14 => ?_⟩
      tb_look
      refine ⟨(sp_int w Dm _ 0 _ _ (.head _) (by simp)).grw (by decide) M S14 fun v h' tk nv4 S15 g2 P => ?_⟩
      obtain ⟨x2, il2, c2, t6, rfl, V2, hl2⟩ := P
      rw [hL] at hl2
      have hdim : DimAt nv4 (.ref x2) r hs.length := ⟨x2, _, il2, c2, _, _, rfl, V2, hl2⟩
      tb_look
      refine ⟨(sp_shareV w x2 _ _ _ _ _ V2).grw (by decide) M S15 fun v h' tk nv5 S16 g3 P => ?_⟩
      obtain rfl := P
      refine ⟨_, _, S16.drop, fun h' oa' tk D2 S17 => ?_⟩
      tb_look
      refine ⟨((sp_V3 w _ _ _ _ _).less (by decide)) _ _ _ _ _ _ _ M S17 fun v h' tk mu3 nv6 S18 P => ?_⟩
      obtain ⟨x4, dx, o4, rfl, V4, rfl, rfl⟩ := P
      tb_look
      rename_i S19
      have gD : Gr nvC ((x4, instObj 314 dx) :: nv5) := Gr.cons _ (g2.trans g3)
      refine ⟨j_item (List.mem_append_right _ (gD.list hmC)) S19 (by decide) (by decide) hv0 ?_⟩
      tb_look
      have hold : HoldIf := ⟨⟩
      refine ⟨(sp_names2 w a d.kd t2 _ av d.nm _ _ (V'.gr gD) (hN2'.gr gD) (fun ns e => by have := (hok.2.2 ns e).1; omega)).grw (by decide) M S19 fun v' h' tk nv7 S20 g4 hNh => ?_⟩
      tb_look
      clear hold
      rename_i S21
      have gE := gD.trans g4
      have hNE := hNC.gr gE
      refine ⟨x_ifB (d.nm.isSome || outer.isSome) S21 ?_ ?_ ?_⟩
      · tb_look
        refine ⟨isnot_any hNh ?_⟩
        cases hb1 : d.nm.isSome with
        | true =>
          tb_look
          exact ⟨rfl, _, _, rfl, S21⟩
        | false =>
          tb_look
          refine ⟨isnot_any hNE ?_⟩
          cases hb2 : outer.isSome <;> tb_look <;> exact ⟨rfl, _, _, rfl, S21⟩
      · intro hb h' tk S22
        have hzh : ∀ ns, d.nm = some ns → ns.length ≤ 1000 := fun ns e => by have := (hok.2.2 ns e).1; omega
        have hold : HoldIf := ⟨⟩
        tb_look
        refine ⟨e_part l_heads gl_null gl_character G (M.less (by decide)) S22 rfl hNh hzh fun pa h' tk nv8 g5 hpa S23 => ?_⟩
        tb_look
        refine ⟨e_part l_names gl_null gl_character G (M.less (by decide)) S23 rfl (hNE.gr g5) (fun ns e => by have := (hzo ns e).1; omega) fun pb h' tk nv9 g6 hpb S24 => ?_⟩
        clear hold
        have hpa' := hpa.gr g6
        tb_look
        refine ⟨j_new S24 (by simp [sizeLine_eq]) fun Pl h' S25 => ?_⟩
        tb_look
        rename_i S26
        refine ⟨x_setI ?_⟩
        tb_look
        refine ⟨((sp_listof1 w Pl _ 0 _ _ (.head _) (fun v hv => ?_) (by simp)).less (by decide)) _ _ _ _ _ _ _ M S26 fun v h' tk mu' nv10 S27 P => ?_⟩
        · simp only [List.mem_cons, List.mem_nil_iff, or_false] at hv
          rcases hv with rfl | rfl
          · exact hpa'.shr
          · exact hpb.shr
        obtain ⟨rfl, g7, x5, il5, c5, t7, av5, rfl, V5, hl5, hN5⟩ := P
        tb_look
        refine ⟨(sp_shareV w x5 _ _ _ _ _ V5).grw (by decide) M S27 fun v h' tk nv11 S28 g8 P => ?_⟩
        obtain rfl := P
        have S29 := S28.drop
        tb_look
        refine ⟨vd_attrs M S29 ?_ (.head _) V4 (oa_attrs w) rfl ?_⟩
        · exact .tail _ (.tail _ (List.mem_append_right _ (g8.inst (g7.inst (g6.inst (g5.inst (g4.inst (.head _))))))))
        tb_look
        refine ad_set D2 S29.swap (by simp) fun h' o6 D6 S30 => ?_
        tb_look
        have gY : Gr nv11 ((dx, o4) :: (a2, o6) :: nv11) := Gr.cons _ (Gr.cons _ (Gr.refl _))
        have gF := (((g5.trans g6).trans g7).trans g8).trans gY
        refine q _ _ _ _ _ _ S30.keep1.keep1 ⟨rfl, ((gC.trans gE).trans gF), x4, It, _, _, t3, a2, o6, rfl, ⟨dx, o4, (g4.trans gF).inst (.head _), .head _, V4⟩, (gE.trans gF).list hItm, haccC.gr (gE.trans gF), .tail _ (.head _), .ref x2, hdim.gr (((g3.trans (Gr.cons _ (Gr.refl _))).trans g4).trans gF), ?_⟩
        · rw [hfirst, if_pos hb]
          exact ⟨.ref x5, D6, DnAt.gr (g8.trans gY) ⟨x5, _, il5, c5, pa, pb, av5, rfl, V5, hl5, hpa'.gr g7, hpb.gr g7⟩⟩
      · intro hb h' tk S22
        tb_look
        have gY : Gr nv7 ((dx, o4) :: (a2, oa') :: nv7) := Gr.cons _ (Gr.cons _ (Gr.refl _))
        refine q _ _ _ _ _ _ S22.swap.keep1.keep1 ⟨rfl, ((gC.trans gE).trans gY), x4, It, _, _, t3, a2, oa', rfl, ⟨dx, o4, (g4.trans gY).inst (.head _), .head _, V4⟩, (gE.trans gY).list hItm, haccC.gr (gE.trans gY), .tail _ (.head _), .ref x2, hdim.gr (((g3.trans (Gr.cons _ (Gr.refl _))).trans g4).trans gY), ?_⟩
        · rw [hfirst, if_neg (by rw [hb]; decide)]
          exact D2
end Mine
end
/-! N21 -/
section
namespace Mine
/-- what simplified gives -/
noncomputable def SimpOut (w : World) (nv : Led) (v : Value) (xs : List Value) (hs : List HV) (outer : Option (List Str)) : Prop :=
  if clen (-1) hs = 1 then VIn w nv v (topK (hs.map HV.kd)) (allIts (topK (hs.map HV.kd)) hs) (if someNames outer hs then some (oneNames outer hs) else none)
  else if clen (-1) hs > 1 then ColOut w nv v (topK (hs.map HV.kd)) (allIts (topK (hs.map HV.kd)) hs) (clen (-1) hs).toNat hs.length (firstNm hs) outer
  else ListOut w nv v xs outer
theorem clen_pos : ∀ {hs : List HV} {s r : Int}, clen s hs = r → 0 ≤ r → (∀ h ∈ hs, h.isV = true ∧ (h.its.length : Int) = r) ∧ (0 ≤ s → s = r) ∧ (hs = [] → s = r)
  | [], s, r, e, h0 => ⟨fun h hh => (by cases hh), fun _ => e, fun _ => e⟩
  | .null :: _, s, r, e, h0 => by
    have e : (-1 : Int) = r := e
    omega
  | .vec k its nm :: hs, s, r, e, h0 => by
    unfold clen at e
    split at e
    · omega
    · rename_i hc
      obtain ⟨h1, h2, h3⟩ := clen_pos e h0
      have h4 := h2 (by omega)
      refine ⟨fun h hh => ?_, fun hs => ?_, fun h => (by cases h)⟩
      · rcases List.mem_cons.mp hh with rfl | hh
        · exact ⟨rfl, h4⟩
        · exact h1 h hh
      · by_cases e2 : (its.length : Int) = s
        · omega
        · exact absurd ⟨hs, e2⟩ hc
theorem sp_simp (w : World) (l : Addr) (xs : Array Value) (n : Nat) (hs : List HV) (nav : Value) (outer : Option (List Str)) (mu nv : Led) (hm : (l, listOf xs n) ∈ nv) (hA : HAll w nv xs.toList hs) (ho : ∀ h ∈ hs, HOk h) (hz : hs.length ≤ 10)
    (hN : NmArg nv nav outer) (hzo : ∀ ns, outer = some ns → ns.length = hs.length ∧ ∀ x ∈ ns, SOk x) :
    Spec (KK w) w 12 (.ref 526) [.ref l, nav] mu nv (Grw mu nv fun v nv' => SimpOut w nv' v xs.toList hs outer) := by
  refine' Spec.plain (vr := ["values", "names", "count"]) (vs := [some (.ref l), some (nav), none]) (binds := [("values", .ref l), ("names", nav)]) ?ho ?hcd ?hbind ?hloc ?hm ?hcell ?hco ?hgen ?hk ?B
  case ho => (show List.lookup _ (Mine.hp.heap_1 w.params) = _; k_is)
  case hcd => (show codeIn (Mine.hp.heap_1 w.params) _ _ = _; k_is)
  case hbind => exact fun s _ => BindsTo.of_eq rfl
  case hloc => exact locs rfl
  case hm => exact binds_mV (ns := ["values", "names"]) (more := ["count"]) (vals := [.ref l, nav]) (k := 1) rfl (by decide)
  case hcell => decide
  case hco => rfl
  case hgen => rfl
  case hk => rfl
  intro prog A env g s Q hsc G M S q
  have l_values : IsLoc env ["values", "names", "count"] "values" 0 := .of hsc rfl rfl
  have l_names : IsLoc env ["values", "names", "count"] "names" 1 := .of hsc rfl rfl
  have l_count : IsLoc env ["values", "names", "count"] "count" 2 := .of hsc rfl rfl
  have gl_common_length : IsGlb env "common_length" := .of hsc rfl rfl
  have c_common_length := c_common_length w
  have gl_list_of : IsGlb env "list_of" := .of hsc rfl rfl
  have c_list_of := c_list_of w
  have gl_combine_ones : IsGlb env "combine_ones" := .of hsc rfl rfl
  have c_combine_ones := c_combine_ones w
  have gl_as_columns : IsGlb env "as_columns" := .of hsc rfl rfl
  have c_as_columns := c_as_columns w
  clear hsc
  have hL := hA.length
  rw [Array.length_toList] at hL
  tb_look
  refine ⟨(sp_clen w l xs n hs _ _ (List.mem_append_right _ hm) hA ho).same (by decide) M S fun v h' tk S2 P => ?_⟩
  obtain ⟨t, rfl⟩ := P
  unfold SimpOut at q
  tb_look
  · rename_i e1
    have e1' : clen (-1) hs = 1 := by simpa using e1
    obtain ⟨h1, _, h3⟩ := clen_pos e1' (by decide)
    simp only [if_pos e1'] at q
    refine ⟨(sp_ones w l xs n hs nav outer _ _ hm hA ho (fun h hh => ⟨(h1 h hh).1, by have := (h1 h hh).2; omega⟩) (fun e => by have := h3 e; omega) hz hN hzo) _ _ _ _ _ _ _ M (by assumption) fun v h' tk mu' nv' S3 P => ?_⟩
    obtain ⟨rfl, g1, P⟩ := P
    exact q _ _ _ _ _ _ S3 ⟨rfl, g1, P⟩
  · rename_i e1 e2
    have e1' : ¬ clen (-1) hs = 1 := by simpa using e1
    have e2' : clen (-1) hs > 1 := of_decide_eq_true e2
    obtain ⟨h1, _, h3⟩ := clen_pos (r := clen (-1) hs) rfl (by omega)
    simp only [if_neg e1', if_pos e2'] at q
    refine ⟨(sp_cols w l xs n (clen (-1) hs).toNat hs nav outer _ _ hm hA ho (fun h hh => ⟨(h1 h hh).1, by have := (h1 h hh).2; omega⟩) (fun e => by have := h3 e; omega) hz hN hzo) _ _ _ _ _ _ _ M (by assumption) fun v h' tk mu' nv' S3 P => ?_⟩
    obtain ⟨rfl, g1, P⟩ := P
    exact q _ _ _ _ _ _ S3 ⟨rfl, g1, P⟩
  · rename_i e1 e2
    have e1' : ¬ clen (-1) hs = 1 := by simpa using e1
    have e2' : ¬ clen (-1) hs > 1 := of_decide_eq_false e2
    simp only [if_neg e1', if_neg e2'] at q
    refine ⟨((sp_listof2 w l xs n nav outer _ _ (List.mem_append_right _ hm) (fun v hv => ?_) ?_ (fun ns e => by have := (hzo ns e).1; omega) (by omega)).less (by decide)) _ _ _ _ _ _ _ M (by assumption) fun v h' tk mu' nv' S3 P => ?_⟩
    · obtain ⟨d, _, hd⟩ := hA.mem v hv
      exact hd.shr
    · cases outer with
      | none => exact hN
      | some ns =>
        obtain ⟨il, k, ys, e, h4, h5⟩ := hN
        exact ⟨il, k, ys, e, List.mem_append_right _ h4, h5⟩
    · obtain ⟨rfl, g1, P⟩ := P
      exact q _ _ _ _ _ _ S3 ⟨rfl, g1, P⟩
end Mine
end
/-! N22 -/
section
namespace Mine
/-- the row of numbers -/
noncomputable def RowO (o : Obj) : Prop := ∃ xs n, o = listOf xs.toArray n ∧ AllInt xs ∧ xs.length ≤ 160
theorem sp_lrow (w : World) (l : Addr) (items : Array Value) (hi : AllInt items.toList) (hz : items.size ≤ 63) (mu nv : Led) :
    SpecZ (fun h => h.IsList l items) (KK w) w 1 (.ref 533) [.ref l] mu nv (fun v mu' nv' => ∃ R o, v = .ref R ∧ mu' = (R, o) :: mu ∧ Gr nv nv' ∧ RowO o) := by
  refine' Spec.plainZ (vr := ["script", "row", "cell", "figure", "lap"]) (vs := [some (.ref l), none, none, none, none]) (binds := [("script", .ref l)]) ?hZ ?ho ?hcd ?hbind ?hloc ?hm ?hcell ?hco ?hgen ?hk ?B
  case ho => (show List.lookup _ (Mine.hp.heap_1 w.params) = _; k_is)
  case hcd => (show codeIn (Mine.hp.heap_1 w.params) _ _ = _; k_is)
  case hbind => exact fun s _ => BindsTo.of_eq rfl
  case hZ => (intro h h' st z; exact z.at fun o e => st _ _ e)
  case hloc => exact locs rfl
  case hm => exact binds_mV (ns := ["script"]) (more := ["row", "cell", "figure", "lap"]) (vals := [.ref l]) (k := 4) rfl (by decide)
  case hcell => decide
  case hco => rfl
  case hgen => rfl
  case hk => rfl
  intro prog A env g s Q Zg hsc G M S q
  have l_script : IsLoc env ["script", "row", "cell", "figure", "lap"] "script" 0 := .of hsc rfl rfl
  have l_row : IsLoc env ["script", "row", "cell", "figure", "lap"] "row" 1 := .of hsc rfl rfl
  have l_cell : IsLoc env ["script", "row", "cell", "figure", "lap"] "cell" 2 := .of hsc rfl rfl
  have l_figure : IsLoc env ["script", "row", "cell", "figure", "lap"] "figure" 3 := .of hsc rfl rfl
  have l_lap : IsLoc env ["script", "row", "cell", "figure", "lap"] "lap" 4 := .of hsc rfl rfl
  have gl_range : IsGlb env "range" := .of hsc rfl rfl
  have c_range := b_range w
  clear hsc
  tb_look
  refine ⟨j_new (by assumption) (by simp [sizeLine_eq]) fun R h' S1 => ?_⟩
  tb_look
  rename_i h2 S2
  refine ⟨x_forE l_cell G M ?_⟩
  tb_look
  refine ⟨j_lsl (b := 40) (Zg.at fun o e => S2.F.keep _ _ e) (by rw [sizeLine_eq]; omega) S2 fun D h' S3 => ?_⟩
  have S3 := S3.keep1
  refine ⟨fun i vs mu' nv' => ∃ acc an cell fig lap, vs = [some (.ref l), some (.ref R), cell, fig, lap] ∧ mu' = (R, listOf acc.toArray an) :: mu ∧ nv' = (D, listOf (items.toList.take 40).toArray 0) :: nv ∧ AllInt acc ∧ acc.length ≤ 31 * i, D, (items.toList.take 40).toArray, 0, _, _, _, rfl, ?_, S3, ⟨[], 0, _, _, _, rfl, rfl, rfl, AllInt.nil, by simp⟩, S3.mem (List.mem_append_right _ (.head _)), ?_, ?_, ?_⟩
  · rintro i vs mu' nv' ⟨_, _, _, _, _, rfl, _⟩; rfl
  · rintro i vs mu' nv' _ ⟨_, _, _, _, _, rfl, rfl, rfl, _⟩
    exact List.mem_append_right _ (.head _)
  · rintro I i v vs mu' nv' io h tk QL hi2 hv ⟨acc, an, cell, fig, lap, rfl, rfl, rfl, ha, hal⟩ S4
    revert S4; (repeat (rename Sta _ _ _ _ _ _ => So; clear So)); intro S4
    have hi40 : i < 40 := by simp at hi2; omega
    obtain ⟨cv, ct, rfl⟩ := hi v (List.mem_of_mem_take (Array.mem_toList_iff.mpr (Array.mem_of_getElem? hv)))
    tb_look
    all_goals (
      rename_i S5
      refine ⟨j_append S5.swap (by rw [sizeLine_eq]; omega) fun n1 h' S6 => ?_⟩
      tb_look
      refine ⟨j_fdiv (by decide) (by decide) ?_⟩
      tb_look
      rename_i S7
      refine ⟨x_forR (fun i2 vs mu' nv' => ∃ acc' an' f' ft' lap', vs = [some (.ref l), some (.ref R), some (.int cv ct), some (.int f' ft'), lap'] ∧ mu' = (R, listOf acc'.toArray an') :: (I, io) :: mu ∧ nv' = (D, listOf (items.toList.take 40).toArray 0) :: nv ∧ AllInt acc' ∧ acc'.length ≤ 31 * i + 1 + i2) l_lap G M (by rintro i vs mu' nv' ⟨_, _, _, _, _, rfl, _⟩; rfl) ?_⟩
      tb_look
      refine ⟨j_range (n := 30) S7 fun r h' tk t u v S8 hr => ?_⟩
      refine ⟨r, 30, t, u, v, _, _, _, rfl, hr, range_small (by decide), S8, ⟨_, _, _, _, _, rfl, rfl, rfl, ha.add _ _, by simp; omega⟩, ?_, ?_⟩
      · rintro I2 i2 t2 vs mu' nv' io2 h tk QL hi3 ⟨acc', an', f', ft', lap', rfl, rfl, rfl, ha', hal'⟩ S9
        revert S9; (repeat (rename Sta _ _ _ _ _ _ => So; clear So)); intro S9
        tb_look
        · refine ⟨j_append S9.swap (by rw [sizeLine_eq]; omega) fun n1 h' S10 => ?_⟩
          tb_look
          refine ⟨j_fdiv (by decide) (by decide) ?_⟩
          tb_look
          rename_i S11
          exact ForQ.next S11.swap ⟨_, _, _, _, _, rfl, rfl, rfl, ha'.add _ _, by simp; omega⟩
        · exact ForQ.next S9 ⟨_, _, _, _, _, rfl, rfl, rfl, ha', by omega⟩
      · rintro vs mu' nv' h tk ⟨acc', an', f', ft', lap', rfl, rfl, rfl, ha', hal'⟩ S9
        revert S9; (repeat (rename Sta _ _ _ _ _ _ => So; clear So)); intro S9
        tb_look
        exact ForQ.next S9.swap ⟨_, _, _, _, _, rfl, rfl, rfl, ha', by omega⟩)
  · rintro vs mu' nv' h tk ⟨acc, an, cell, fig, lap, rfl, rfl, rfl, ha, hal⟩ S4
    revert S4; (repeat (rename Sta _ _ _ _ _ _ => So; clear So)); intro S4
    have hal2 : acc.length ≤ 31 * 40 := Nat.le_trans hal (Nat.mul_le_mul (Nat.le_refl _) (by simp; omega))
    tb_look
    refine ⟨j_lsl (b := 160) (S4.isList (List.mem_append_left _ (.head _))) (by rw [sizeLine_eq, List.size_toArray]; omega) S4 fun D2 h' S5 => ?_⟩
    tb_look
    rename_i S6
    refine ⟨j_reverse S6 (by simp; omega) fun n2 h' S7 => ?_⟩
    tb_look
    exact q _ _ _ _ _ _ S7.swap.drop ⟨D2, _, rfl, rfl, Gr.cons _ (Gr.refl _), _, _, rfl, ha.sub fun v hv => List.mem_of_mem_take (List.mem_reverse.mp hv), by simp; omega⟩
theorem AllInt.dat {vs : List Value} (h : AllInt vs) (nv : Led) : ∃ ds, DatAll nv vs ds ∧ ∀ d ∈ ds, kqdOk 8 d = true := by
  induction vs with
  | nil => exact ⟨[], .nil, fun d h => by cases h⟩
  | cons v vs ih =>
    obtain ⟨ds, h1, h2⟩ := ih fun x hx => h x (.tail _ hx)
    obtain ⟨i, t, rfl⟩ := h v (.head _)
    refine ⟨.int i :: ds, .cons (.int i t) h1, fun d hd => ?_⟩
    rcases List.mem_cons.mp hd with rfl | hd
    · rfl
    · exact h2 d hd
/-- the next number -/
noncomputable def RowGo (mu nv : Led) (r : Addr) (P : Value → Led → Prop) : Value → Led → Led → Prop := fun v mu' nv' => ∃ o, RowO o ∧ mu' = (r, o) :: mu ∧ Gr nv nv' ∧ P v nv'
theorem sp_lnext (w : World) (r : Addr) (o : Obj) (hr : RowO o) (mu nv : Led) : Spec (KK w) w 1 (.ref 540) [.ref r] ((r, o) :: mu) nv (RowGo mu nv r fun v _ => ∃ i t, v = .int i t) := by
  obtain ⟨xs, n, rfl, ha, hl⟩ := hr
  refine' Spec.plain (vr := ["row"]) (vs := [some (.ref r)]) (binds := [("row", .ref r)]) ?ho ?hcd ?hbind ?hloc ?hm ?hcell ?hco ?hgen ?hk ?B
  case ho => (show List.lookup _ (Mine.hp.heap_1 w.params) = _; k_is)
  case hcd => (show codeIn (Mine.hp.heap_1 w.params) _ _ = _; k_is)
  case hbind => exact fun s _ => BindsTo.of_eq rfl
  case hloc => exact locs rfl
  case hm => exact binds_mV (ns := ["row"]) (more := []) (vals := [.ref r]) (k := 0) rfl (by decide)
  case hcell => decide
  case hco => rfl
  case hgen => rfl
  case hk => rfl
  intro prog A env g s Q hsc G M S q
  have l_row : IsLoc env ["row"] "row" 0 := .of hsc rfl rfl
  clear hsc
  tb_look
  refine ⟨j_new S (by simp [sizeLine_eq]) fun D h' S1 => ?_⟩
  tb_look
  obtain ⟨ds, hd, hk⟩ := ha.dat ((D, listOf #[] 0) :: (r, listOf xs.toArray n) :: mu ++ nv)
  refine ⟨j_neD (.tail _ (.head _)) (by simpa using hd) (.head _) (by simpa using DatAll.nil) hk (fun d h => by cases h) M S1 fun b hb => ?_⟩
  have S2 := S1.drop
  tb_look
  · rename_i e
    have hne := hb.mp e
    have hx : xs ≠ [] := by rintro rfl; cases hd; exact hne rfl
    obtain ⟨p, y, rfl⟩ : ∃ p y, xs = p ++ [y] := ⟨xs.dropLast, xs.getLast hx, (List.dropLast_concat_getLast hx).symm⟩
    refine ⟨j_pop S2 (by simp at hl; omega) fun n' h' S3 => ?_⟩
    obtain ⟨i, t, rfl⟩ := ha y (by simp)
    exact q _ _ _ _ _ _ S3 ⟨_, ⟨_, _, rfl, ha.sub fun v hv => List.mem_append_left _ hv, by simp at hl; omega⟩, rfl, Gr.refl _, _, _, rfl⟩
  · exact q _ _ _ _ _ _ S2 ⟨_, ⟨_, _, rfl, ha, hl⟩, rfl, Gr.refl _, _, _, rfl⟩
theorem sp_lkinds (w : World) (mu nv : Led) : Spec (KK w) w 1 (.ref 547) [] mu nv (Grw mu nv fun v nv' => ∃ D a b c d e k, v = .ref D ∧ (D, listOf #[.str Kd.lg.str a, .str Kd.ig.str b, .str Kd.db.str c, .str Kd.ch.str d, .str Kd.ls.str e] k) ∈ nv') := by
  refine' Spec.plain (vr := []) (vs := []) (binds := []) ?ho ?hcd ?hbind ?hloc ?hm ?hcell ?hco ?hgen ?hk ?B
  case ho => (show List.lookup _ (Mine.hp.heap_1 w.params) = _; k_is)
  case hcd => (show codeIn (Mine.hp.heap_1 w.params) _ _ = _; k_is)
  case hbind => exact fun s _ => BindsTo.of_eq rfl
  case hloc => exact locs rfl
  case hm => exact binds_mV (ns := []) (more := []) (vals := []) (k := 0) rfl (by decide)
  case hcell => decide
  case hco => rfl
  case hgen => rfl
  case hk => rfl
  intro prog A env g s Q hsc G M S q
  clear hsc
  tb_look
  refine ⟨j_new S (by simp [sizeLine_eq]) fun D h' S1 => ?_⟩
  tb_look
  exact q _ _ _ _ _ _ S1.keep1 ⟨rfl, Gr.cons _ (Gr.refl _), D, _, _, _, _, _, _, rfl, .head _⟩
end Mine
end
/-! N23 -/
section
namespace Mine
theorem fm_range (i : Int) {k : Int} (h : 0 < k) : 0 ≤ i.fmod k ∧ i.fmod k < k := ⟨Int.fmod_nonneg_of_pos i h, Int.fmod_lt_of_pos i h⟩
theorem Gr.two {nv : Led} (p q : Addr × Obj) : Gr nv (p :: q :: nv) := Gr.cons _ (Gr.cons _ (Gr.refl _))
theorem sp_litem (w : World) (r : Addr) (o : Obj) (hr : RowO o) (k : Kd) (kt : Tok) (mu nv : Led) : Spec (KK w) w 3 (.ref 554) [.ref r, .str k.str kt] ((r, o) :: mu) nv (RowGo mu nv r fun v nv' => ∃ d, DtIn nv' v d ∧ ItOk k d) := by
  refine' Spec.plain (vr := ["row", "kind", "n"]) (vs := [some (.ref r), some (.str k.str kt), none]) (binds := [("row", .ref r), ("kind", .str k.str kt)]) ?ho ?hcd ?hbind ?hloc ?hm ?hcell ?hco ?hgen ?hk ?B
  case ho => (show List.lookup _ (Mine.hp.heap_1 w.params) = _; k_is)
  case hcd => (show codeIn (Mine.hp.heap_1 w.params) _ _ = _; k_is)
  case hbind => exact fun s _ => BindsTo.of_eq rfl
  case hloc => exact locs rfl
  case hm => exact binds_mV (ns := ["row", "kind"]) (more := ["n"]) (vals := [.ref r, .str k.str kt]) (k := 1) rfl (by decide)
  case hcell => decide
  case hco => rfl
  case hgen => rfl
  case hk => rfl
  intro prog A env g s Q hsc G M S q
  have l_row : IsLoc env ["row", "kind", "n"] "row" 0 := .of hsc rfl rfl
  have l_kind : IsLoc env ["row", "kind", "n"] "kind" 1 := .of hsc rfl rfl
  have l_n : IsLoc env ["row", "kind", "n"] "n" 2 := .of hsc rfl rfl
  have gl_Vector : IsGlb env "Vector" := .of hsc rfl rfl
  have c_Vector := c_Vector w
  have gl_law_next : IsGlb env "_law_next" := .of hsc rfl rfl
  have c_law_next := c_law_next w
  clear hsc
  cases k with
  | ls =>
    have e1 : (Kd.ls.str == ("list" : Str)) = true := rfl
    tb_look
    refine ⟨((sp_lnext w r o hr _ _).less (by decide)) _ _ _ _ _ _ _ M S fun v h' tk mu' nv' S' P => ?_⟩
    obtain ⟨o', hr', rfl, g, i, t, rfl⟩ := P
    tb_look
    refine ⟨j_new S' (by simp [sizeLine_eq]) fun D h' S1 => ?_⟩
    tb_look
    refine ⟨((sp_V2 w _ _ _ _).less (by decide)) _ _ _ _ _ _ _ M S1.keep1 fun v' h' tk mu'' nv'' S3 P => ?_⟩
    obtain ⟨x, dx, ox, rfl, V, rfl, rfl⟩ := P
    have h7 := fm_range i (k := 7) (by decide)
    exact q _ _ _ _ _ _ S3.keep1 ⟨o', hr', rfl, g.trans (Gr.cons _ (Gr.two _ _)), .one .ig (.int (i.fmod 7)), ⟨x, D, _, _, _, rfl, ⟨dx, ox, .tail _ (.head _), .head _, V⟩, .tail _ (.tail _ (.head _)), .int _ _⟩, _, rfl, h7.1, by omega⟩
  | lg =>
    have e1 : (Kd.lg.str == ("list" : Str)) = false := rfl
    have e_logical : (Kd.lg.str == ("logical" : Str)) = true := rfl
    tb_look
    refine ⟨((sp_lnext w r o hr _ _).less (by decide)) _ _ _ _ _ _ _ M S fun v h' tk mu' nv' S' P => ?_⟩
    obtain ⟨o', hr', rfl, g, i, t, rfl⟩ := P
    tb_look
    · exact q _ _ _ _ _ _ S' ⟨o', hr', rfl, g, .atom .none, .none, .inl rfl⟩
    · refine ⟨((sp_lnext w r o' hr' _ _).less (by decide)) _ _ _ _ _ _ _ M S' fun v h' tk mu' nv' S2 P => ?_⟩
      obtain ⟨o2, hr2, rfl, g2, j, t2, rfl⟩ := P
      tb_look
      have h7 := fm_range j (k := 2) (by decide)
      refine q _ _ _ _ _ _ S2 ⟨o2, hr2, rfl, g.trans g2, .atom (.int (j.fmod 2)), .int _ _, .inr ?_⟩
      have : j.fmod 2 = 0 ∨ j.fmod 2 = 1 := by omega
      rcases this with h | h <;> rw [h]
      · exact .inl rfl
      · exact .inr rfl
  | ig =>
    have e1 : (Kd.ig.str == ("list" : Str)) = false := rfl
    have e_logical : (Kd.ig.str == ("logical" : Str)) = false := rfl
    have e_integer : (Kd.ig.str == ("integer" : Str)) = true := rfl
    tb_look
    refine ⟨((sp_lnext w r o hr _ _).less (by decide)) _ _ _ _ _ _ _ M S fun v h' tk mu' nv' S' P => ?_⟩
    obtain ⟨o', hr', rfl, g, i, t, rfl⟩ := P
    tb_look
    · exact q _ _ _ _ _ _ S' ⟨o', hr', rfl, g, .atom .none, .none, .inl rfl⟩
    · refine ⟨((sp_lnext w r o' hr' _ _).less (by decide)) _ _ _ _ _ _ _ M S' fun v h' tk mu' nv' S2 P => ?_⟩
      obtain ⟨o2, hr2, rfl, g2, j, t2, rfl⟩ := P
      tb_look
      have h7 := fm_range j (k := 30) (by decide)
      exact q _ _ _ _ _ _ S2 ⟨o2, hr2, rfl, g.trans g2, .atom (.int (j.fmod 30 - 9)), .int _ _, .inr ⟨_, rfl, by omega, by omega⟩⟩
  | db =>
    have e1 : (Kd.db.str == ("list" : Str)) = false := rfl
    have e_logical : (Kd.db.str == ("logical" : Str)) = false := rfl
    have e_integer : (Kd.db.str == ("integer" : Str)) = false := rfl
    have e_double : (Kd.db.str == ("double" : Str)) = true := rfl
    tb_look
    refine ⟨((sp_lnext w r o hr _ _).less (by decide)) _ _ _ _ _ _ _ M S fun v h' tk mu' nv' S' P => ?_⟩
    obtain ⟨o', hr', rfl, g, i, t, rfl⟩ := P
    tb_look
    · exact q _ _ _ _ _ _ S' ⟨o', hr', rfl, g, .atom .none, .none, .inl rfl⟩
    · refine ⟨((sp_lnext w r o' hr' _ _).less (by decide)) _ _ _ _ _ _ _ M S' fun v h' tk mu' nv' S2 P => ?_⟩
      obtain ⟨o2, hr2, rfl, g2, j, t2, rfl⟩ := P
      tb_look
      · rename_i e5
        have h7 := fm_range j (k := 30) (by decide)
        refine ⟨j_newT (by assumption) (by simp [sizeLine_eq]) fun D h' S3 => ?_⟩
        refine q _ _ _ _ _ _ S3 ⟨o2, hr2, rfl, (g.trans g2).trans (Gr.cons _ (Gr.refl _)), .atom (.tuple [.int (j.fmod 30 - 9), .int 2]), RatAt.dat ⟨_, _, _, .head _⟩, .inr ⟨_, _, ?_, rfl⟩⟩
        refine List.mem_map.mpr ⟨(j.fmod 30).toNat, List.mem_range.mpr (by omega), ?_⟩
        have e6 : ((j.fmod 30).toNat : Int) = j.fmod 30 := by omega
        dsimp only
        rw [e6, if_pos (by simpa using e5)]
      · rename_i e5
        have h7 := fm_range j (k := 30) (by decide)
        refine ⟨j_fdiv (by decide) (by decide) ?_⟩
        tb_look
        refine ⟨j_newT (by assumption) (by simp [sizeLine_eq]) fun D h' S3 => ?_⟩
        refine q _ _ _ _ _ _ S3 ⟨o2, hr2, rfl, (g.trans g2).trans (Gr.cons _ (Gr.refl _)), .atom (.tuple [.int ((j.fmod 30 - 9).fdiv 2), .int 1]), RatAt.dat ⟨_, _, _, .head _⟩, .inr ⟨_, _, ?_, rfl⟩⟩
        refine List.mem_map.mpr ⟨(j.fmod 30).toNat, List.mem_range.mpr (by omega), ?_⟩
        have e6 : ((j.fmod 30).toNat : Int) = j.fmod 30 := by omega
        dsimp only
        rw [e6, if_neg (by simpa using e5)]
  | ch =>
    have e1 : (Kd.ch.str == ("list" : Str)) = false := rfl
    have e_logical : (Kd.ch.str == ("logical" : Str)) = false := rfl
    have e_integer : (Kd.ch.str == ("integer" : Str)) = false := rfl
    have e_double : (Kd.ch.str == ("double" : Str)) = false := rfl
    tb_look
    refine ⟨((sp_lnext w r o hr _ _).less (by decide)) _ _ _ _ _ _ _ M S fun v h' tk mu' nv' S' P => ?_⟩
    obtain ⟨o', hr', rfl, g, i, t, rfl⟩ := P
    tb_look
    · exact q _ _ _ _ _ _ S' ⟨o', hr', rfl, g, .atom .none, .none, .inl rfl⟩
    · refine ⟨j_new S' (by simp [sizeLine_eq]) fun D h' S1 => ?_⟩
      tb_look
      refine ⟨((sp_lnext w r o' hr' _ _).less (by decide)) _ _ _ _ _ _ _ M S1.keep1 fun v h' tk mu' nv' S2 P => ?_⟩
      obtain ⟨o2, hr2, rfl, g2, j, t2, rfl⟩ := P
      tb_look
      have hD := g2.list (.head _)
      have gg := g.trans ((Gr.cons _ (Gr.refl _)).trans g2)
      have h7 := fm_range j (k := 4) (by decide)
      have : j.fmod 4 = 0 ∨ j.fmod 4 = 1 ∨ j.fmod 4 = 2 ∨ j.fmod 4 = 3 := by omega
      rcases this with h | h | h | h <;> rw [h] <;> refine ⟨j_itemC (List.mem_append_right _ hD) S2 (by decide) (by decide) rfl ?_⟩ <;> exact q _ _ _ _ _ _ S2 ⟨o2, hr2, rfl, gg, .atom (.str _), .str _ _, .inr ⟨_, rfl, by decide, by decide +kernel⟩⟩
end Mine
end
/-! N24 -/
section
namespace Mine
noncomputable def CL_law_value : List (Str × Nat) := [("kind", 1), ("row", 0)]
theorem sp_lvalue (w : World) (r : Addr) (o : Obj) (hr : RowO o) (k : Kd) (kt mt : Tok) (many : Nat) (hmany : many ≤ 3) (mu nv : Led) : Spec (KK w) w 4 (.ref 573) [.ref r, .str k.str kt, .int (many : Nat) mt] ((r, o) :: mu) nv
    (RowGo mu nv r fun v nv' => ∃ its nm, VIn w nv' v k its nm ∧ HOk (.vec k its nm) ∧ its.length = many) := by
  refine' Spec.cells (vr := ["many", "v"]) (vs := [some (.int (many : Nat) mt), none]) (binds := [("row", .ref r), ("kind", .str k.str kt), ("many", .int (many : Nat) mt)]) (cl := CL_law_value) ?ho ?hcd ?hbind ?hkind ?hcl ?hcl1 ?hcl2 ?hm ?hco ?hgen ?hk ?B
  case ho => (show List.lookup _ (Mine.hp.heap_1 w.params) = _; k_is)
  case hcd => (show codeIn (Mine.hp.heap_1 w.params) _ _ = _; k_is)
  case hbind => exact fun s _ => BindsTo.of_eq rfl
  case hkind => rfl
  case hcl => exact fun n => rfl
  case hcl1 => decide
  case hcl2 => decide
  case hm => exact hm_cells (ns := ["many"]) (more := ["v"]) (vals := [.int (many : Nat) mt]) (k := 1) (by rfl) rfl (by decide)
  case hco => rfl
  case hgen => rfl
  case hk => rfl
  intro prog A env g s Q cells hsc G M hce Y S q
  have l_many : IsLoc env ["many", "v"] "many" 0 := .of hsc rfl rfl
  have l_v : IsLoc env ["many", "v"] "v" 1 := .of hsc rfl rfl
  have kc_row : env.kindOf "row" = some .cell := kof hsc rfl
  have kc_kind : env.kindOf "kind" = some .cell := kof hsc rfl
  have gl_Vector : IsGlb env "Vector" := .of hsc rfl rfl
  have c_Vector := c_Vector w
  have gl_law_next : IsGlb env "_law_next" := .of hsc rfl rfl
  have c_law_next := c_law_next w
  have gl_range : IsGlb env "range" := .of hsc rfl rfl
  have c_range := b_range w
  obtain ⟨o1, o2, ho1, ho2, rfl⟩ := cells2 Y
  have cc1 : CCel env "kind" (env.locals + 1 + 1) := ⟨kc_kind, rfl, rfl, by rw [hce]; rfl⟩
  have cc2 : CCel env "row" (env.locals + 1 + 0) := ⟨kc_row, rfl, rfl, by rw [hce]; rfl⟩
  have hc1 : o1.data = .cell (some (.str k.str kt)) := ho1
  have hc2 : o2.data = .cell (some (.ref r)) := ho2
  clear hsc hce Y ho1 ho2
  generalize env.locals + 1 + 1 = c1 at *
  generalize env.locals + 1 + 0 = c2 at *
  have S : Sta g env.locals s.heap _ ((r, o) :: mu) ((c2, o2) :: (c1, o1) :: nv) := S.keep1.keep1
  have g0 : Gr nv ((c2, o2) :: (c1, o1) :: nv) := Gr.two _ _
  have m1 : (c1, o1) ∈ (c2, o2) :: (c1, o1) :: nv := .tail _ (.head _)
  have m2 : (c2, o2) ∈ (c2, o2) :: (c1, o1) :: nv := .head _
  generalize (c2, o2) :: (c1, o1) :: nv = nvA at *
  tb_look
  refine ⟨e_comp (fun i acc mu' nv' => ∃ o' its, RowO o' ∧ mu' = (r, o') :: mu ∧ Gr nvA nv' ∧ DtAll nv' acc its ∧ (∀ d ∈ its, ItOk k d) ∧ acc.length = i) M S (clos_list [("kind", c1), ("row", c2)] rfl (by intro p hp; simp only [List.mem_cons, List.mem_nil_iff, or_false] at hp; rcases hp with rfl | rfl; exact cc1.c; exact cc2.c)) (by decide) rfl (by decide) rfl ?_⟩
  tb_look
  refine ⟨j_range S fun rg h' tk t u v S1 hrg => ?_⟩
  refine ⟨_, _, _, _, .range rfl hrg (range_small (by omega)), S1, by rw [sizeLine_eq]; omega, ⟨o, [], hr, rfl, Gr.refl _, .nil, (fun d h => by cases h), rfl⟩, CompTurn.plain ?_, ?_⟩
  · rintro I i v acc mu' nv' C oC D k3 io' env' h tk QL hi hv ⟨o', its, hr', rfl, g1, ha, hok, hal⟩ _ ce hk hin S2
    revert S2; (repeat (rename Sta _ _ _ _ _ _ => So; clear So)); intro S2
    have G' := ce.g G hk
    have gl_f : IsGlb env' "_law_item" := ce.glb rfl (by decide)
    have c_f := c_law_item w
    have cc1' : CCel env' "kind" c1 := ⟨ce.kindF G cc1.k rfl, rfl, rfl, by rw [ce.cells]; rfl⟩
    have cc2' : CCel env' "row" c2 := ⟨ce.kindF G cc2.k rfl, rfl, rfl, by rw [ce.cells]; rfl⟩
    have m1' := g1.cell m1 hc1
    have m2' := g1.cell m2 hc2
    have S3 : Sta g env.locals h _ ((r, o') :: _) nv' := Sta.pull [_, _, _] S2
    tb_look
    refine ⟨((sp_litem w r o' hr' k _ _ _).less (by decide)) _ _ _ _ _ _ _ M S3 fun v h' tk mu' nv2 S4 P => ?_⟩
    obtain ⟨o2, hr2, rfl, g2, d, hd, hdk⟩ := P
    refine CompEnd.mk' (Sta.unpull [_, _, _] S4) ⟨o2, its ++ [d], hr2, rfl, g1.trans g2, (ha.gr g2).append (.cons hd .nil), ?_, by simp [hal]⟩
    intro x hx
    rcases List.mem_append.mp hx with hx | hx
    · exact hok x hx
    · rw [List.mem_singleton.mp hx]; exact hdk
  · rintro acc mu' nv' D k3 h tk ⟨o', its, hr', rfl, g1, ha, hok, hal⟩ hl' S2
    revert S2; (repeat (rename Sta _ _ _ _ _ _ => So; clear So)); intro S2
    have S3 := S2.keep1
    tb_look
    refine ⟨((sp_V2 w _ _ _ _).less (by decide)) _ _ _ _ _ _ _ M S3 fun v' h' tk mu'' nv'' S4 P => ?_⟩
    obtain ⟨x, dx, ox, rfl, V, rfl, rfl⟩ := P
    have gB : Gr nv' ((x, instObj 314 dx) :: (D, listOf acc.toArray k3) :: nv') := Gr.two _ _
    have hx0 : (x, instObj 314 dx) ∈ (x, instObj 314 dx) :: (D, listOf acc.toArray k3) :: nv' := .head _
    have hD0 : (D, listOf acc.toArray k3) ∈ (x, instObj 314 dx) :: (D, listOf acc.toArray k3) :: nv' := .tail _ (.head _)
    have gA := g1.trans gB
    have ha' := ha.gr gB
    have hil := ha.length
    generalize (x, instObj 314 dx) :: (D, listOf acc.toArray k3) :: nv' = nvB at *
    have m1' := gA.cell m1 hc1
    have m2' := gA.cell m2 hc2
    tb_look
    rename_i S5
    refine ⟨((sp_lnext w r o' hr' _ _).less (by decide)) _ _ _ _ _ _ _ M S5.swap fun v h' tk mu' nv' S6 P => ?_⟩
    obtain ⟨o3, hr3, rfl, g3, i, t, rfl⟩ := P
    tb_look
    · have hc1m := g3.cell m1' hc1
      have hc2m := g3.cell m2' hc2
      refine ⟨ad_new1 M S6 fun a2 oa h' tk S7 => ?_⟩
      tb_look
      refine ⟨e_comp (fun i acc mu3 nv3 => ∃ o' ns, RowO o' ∧ mu3 = (a2, oa) :: (r, o') :: (dx, ox) :: mu ∧ Gr nv' nv3 ∧ StrsAre acc ns ∧ (∀ x ∈ ns, SOk x) ∧ acc.length = i) M S7 (clos_list [("row", c2)] rfl (by intro p hp; rw [List.mem_singleton.mp hp]; exact cc2.c)) (by decide) rfl (by decide) rfl ?_⟩
      tb_look
      refine ⟨j_range S7 fun rg h' tk t u v S8 hrg => ?_⟩
      refine ⟨_, _, _, _, .range rfl hrg (range_small (by omega)), S8, by rw [sizeLine_eq]; omega, ⟨o3, [], hr3, rfl, Gr.refl _, .nil, (fun d h => by cases h), rfl⟩, CompTurn.plain ?_, ?_⟩
      · rintro I i v acc mu3 nv3 C oC D k3 io' env' h tk QL hi hv ⟨o', ns, hr', rfl, g5, hns, hle, hal⟩ _ ce hk hin S2
        revert S2; (repeat (rename Sta _ _ _ _ _ _ => So; clear So)); intro S2
        have G' := ce.g G hk
        have gl_f : IsGlb env' "_law_next" := ce.glb rfl (by decide)
        have cc2' : CCel env' "row" c2 := ⟨ce.kindF G cc2.k rfl, rfl, rfl, by rw [ce.cells]; rfl⟩
        have m2' := g5.cell hc2m hc2
        tb_look
        refine ⟨j_new S2 (by simp [sizeLine_eq]) fun D' h' S3 => ?_⟩
        obtain ⟨S3', m2''⟩ := S3.keepM m2'
        have S4 : Sta g env.locals h' _ ((r, o') :: _) ((D', _) :: nv3) := Sta.pull [_, _, _, _] S3'
        tb_look
        refine ⟨((sp_lnext w r o' hr' _ _).less (by decide)) _ _ _ _ _ _ _ M S4 fun v h' tk mu' nv4 S6 P => ?_⟩
        obtain ⟨o4, hr4, rfl, g6, j, t3, rfl⟩ := P
        have hD' := g6.list (.head _)
        have g7 := (Gr.cons _ (Gr.refl _)).trans g6
        have h7 := fm_range j (k := 3) (by decide)
        tb_look
        have : j.fmod 3 = 0 ∨ j.fmod 3 = 1 ∨ j.fmod 3 = 2 := by omega
        rcases this with h | h | h <;> rw [h] <;> refine ⟨j_itemC (List.mem_append_right _ hD') S6 (by decide) (by decide) rfl ?_⟩ <;>
          refine CompEnd.mk' (Sta.unpull [_, _, _, _] S6) ⟨o4, ns ++ [_], hr4, rfl, g5.trans g7, strs_app hns (.cons _ _ .nil), ?_, by simp [hal]⟩ <;>
          (intro x hx; rcases List.mem_append.mp hx with hx | hx; exact hle x hx; rw [List.mem_singleton.mp hx]; exact ⟨by decide, by decide +kernel⟩)
      · rintro acc mu3 nv3 Dn k4 h tk ⟨o', ns, hr', rfl, g5, hns, hle, hal⟩ hl' S2
        revert S2; (repeat (rename Sta _ _ _ _ _ _ => So; clear So)); intro S2
        have S3 := S2.keep1
        have hnl := hns.length
        tb_look
        refine ⟨((sp_V2 w _ _ _ _).less (by decide)) _ _ _ _ _ _ _ M S3 fun v' h' tk mu'' nv'' S4 P => ?_⟩
        obtain ⟨x2, dx2, ox2, rfl, V2, rfl, rfl⟩ := P
        refine ⟨_, _, S4.keep1, fun h' oa' tk D2 S5 => ?_⟩
        have gD : Gr nv3 ((dx2, ox2) :: (x2, instObj 314 dx2) :: (Dn, listOf acc.toArray k4) :: nv3) := Gr.cons _ (Gr.two _ _)
        have hch : ChVec ((dx2, ox2) :: (x2, instObj 314 dx2) :: (Dn, listOf acc.toArray k4) :: nv3) (.ref x2) ns := ⟨x2, _, _, rfl, ⟨dx2, ox2, .tail _ (.head _), .head _, V2⟩, Dn, k4, acc.toArray, rfl, .tail _ (.tail _ (.head _)), by simpa using hns⟩
        generalize (dx2, ox2) :: (x2, instObj 314 dx2) :: (Dn, listOf acc.toArray k4) :: nv3 = nvD at *
        have g8 := (g3.trans g5).trans gD
        tb_look
        refine ⟨vd_setAttrs M (Sta.pull [_, _] S5) (by exact List.mem_append_right _ (g8.inst hx0)) V (os_attrs w) fun h' ox3 V3 S6 => ?_⟩
        tb_look
        have S7 := (Sta.unpull [_, _] S6).keep1.swap.keep1
        have gZ : Gr nvD ((dx, ox3) :: (a2, oa') :: nvD) := Gr.two _ _
        exact q _ _ _ _ _ _ S7 ⟨o', hr', rfl, ((g0.trans gA).trans g8).trans gZ, its, some ns, ⟨x, D, k3, _, _, _, rfl, ⟨dx, ox3, gZ.inst (g8.inst hx0), .head _, V3⟩, gZ.list (g8.list hD0), by simpa using ha'.gr (g8.trans gZ), a2, oa', .ref x2, rfl, .tail _ (.head _), D2, hch.gr gZ⟩, ⟨hok, by omega, fun ns' e => by cases e; exact ⟨by omega, hle⟩⟩, by omega⟩
    · have S7 := S6.swap.keep1
      exact q _ _ _ _ _ _ S7 ⟨o3, hr3, rfl, ((g0.trans gA).trans g3).trans (Gr.cons _ (Gr.refl _)), its, none, ⟨x, D, k3, _, _, _, rfl, ⟨dx, ox, .tail _ (g3.inst hx0), .head _, V⟩, .tail _ (g3.list hD0), by simpa using ha'.gr (g3.trans (Gr.cons _ (Gr.refl _))), rfl⟩, ⟨hok, by omega, fun ns e => by cases e⟩, by omega⟩
end Mine
end
/-! N25 -/
section
namespace Mine
theorem ad_itemC {prog : Program} {w : World} {A : Around} {s : Shared} {h₀ : Heap} {L : Addr} {m : Str → Option Value} {mu nv : Led} {value slice : Expr} {o : Obj} {a : Addr} {kvs : List (Str × Value)} {x : Str} {t : Tok} {v : Value} {Q : Value → Shared → Prop} (D : AD w a o kvs) (hm : (a, o) ∈ mu ++ nv) (S : Sta h₀ L s.heap m mu nv) (hv : valueAt kvs x = some v) (q : Q v { s with toks := s.toks + 1 })
    (hs : subscripted slice false (.ref a) (.str x t) = operate [.ref a, .str x t] (getItem (.ref a) (.str x t)) := by with_unfolding_all rfl) :
    wp prog w A (subscriptTail value slice (.ref a) (.str x t)) Q s :=
  kba_turn (value' := PySem.Expr.Name (PySem.Str.ofString "_") ⟨0, 0, 0, 0⟩) (fun _ => rfl) (ad_item D hm S hv q hs (fun _ => rfl))
/-- an item as it is shown -/
noncomputable def shD : Dt → Dat
  | .atom d => d
  | .one k d => .tuple [.str k.str, d]
theorem sp_ljoin (w : World) (o i : Str) (t1 t2 : Tok) (mu nv : Led) (h1 : o.length ≤ 100) (h2 : i.length ≤ 100) : Spec (KK w) w 1 (.ref 587) [.str o t1, .str i t2] mu nv (Same mu nv fun v => ∃ t, v = .str (jn o i) t) := by
  refine' Spec.plain (vr := ["outer", "inner"]) (vs := [some (.str o t1), some (.str i t2)]) (binds := [("outer", .str o t1), ("inner", .str i t2)]) ?ho ?hcd ?hbind ?hloc ?hm ?hcell ?hco ?hgen ?hk ?B
  case ho => (show List.lookup _ (Mine.hp.heap_1 w.params) = _; k_is)
  case hcd => (show codeIn (Mine.hp.heap_1 w.params) _ _ = _; k_is)
  case hbind => exact fun s _ => BindsTo.of_eq rfl
  case hloc => exact locs rfl
  case hm => exact binds_mV (ns := ["outer", "inner"]) (more := []) (vals := [.str o t1, .str i t2]) (k := 0) rfl (by decide)
  case hcell => decide
  case hco => rfl
  case hgen => rfl
  case hk => rfl
  intro prog A env g s Q hsc G M S q
  have l_outer : IsLoc env ["outer", "inner"] "outer" 0 := .of hsc rfl rfl
  have l_inner : IsLoc env ["outer", "inner"] "inner" 1 := .of hsc rfl rfl
  clear hsc
  tb_look
  · rename_i e1 e2
    have e1' : ¬ o = "" := by simpa using e1
    have e2' : ¬ i = "" := by simpa using e2
    refine ⟨PyProof.Rows.add_str (fun t' tk => ?_) (by size_fits)⟩
    tb_look
    refine ⟨PyProof.Rows.add_str (fun t'' tk' => ?_) (by size_fits)⟩
    exact q _ _ _ _ _ _ S ⟨rfl, rfl, _, by rw [retOf, jn, if_neg e1', if_neg e2']⟩
  · rename_i e1 e2
    have e1' : ¬ o = "" := by simpa using e1
    have e2' : i = "" := by simpa using e2
    refine ⟨PyProof.Rows.add_str (fun t' tk => ?_) (by size_fits)⟩
    exact q _ _ _ _ _ _ S ⟨rfl, rfl, _, by rw [retOf, jn, if_neg e1', if_pos e2', e2']; exact congrArg (Value.str · _) (Str.append_empty o)⟩
  · rename_i e1
    have e1' : o = "" := by simpa using e1
    refine ⟨PyProof.Rows.add_str (fun t' tk => ?_) (by size_fits)⟩
    exact q _ _ _ _ _ _ S ⟨rfl, rfl, _, by rw [retOf, jn, if_pos e1', e1']; exact congrArg (Value.str · _) (Str.empty_append i)⟩
theorem sp_lnames (w : World) (x : Addr) (kv iv av : Value) (nm : Option (List Str)) (mu nv : Led) (V : VecAt nv x kv iv av) (hN : NmIn w nv av nm) : Spec (KK w) w 1 (.ref 580) [.ref x] mu nv (Same mu nv fun v => NmArg nv v nm) := by
  refine' Spec.plain (vr := ["v"]) (vs := [some (.ref x)]) (binds := [("v", .ref x)]) ?ho ?hcd ?hbind ?hloc ?hm ?hcell ?hco ?hgen ?hk ?B
  case ho => (show List.lookup _ (Mine.hp.heap_1 w.params) = _; k_is)
  case hcd => (show codeIn (Mine.hp.heap_1 w.params) _ _ = _; k_is)
  case hbind => exact fun s _ => BindsTo.of_eq rfl
  case hloc => exact locs rfl
  case hm => exact binds_mV (ns := ["v"]) (more := []) (vals := [.ref x]) (k := 0) rfl (by decide)
  case hcell => decide
  case hco => rfl
  case hgen => rfl
  case hk => rfl
  intro prog A env g s Q hsc G M S q
  have l_v : IsLoc env ["v"] "v" 0 := .of hsc rfl rfl
  clear hsc
  cases nm with
  | none =>
    cases hN
    tb_look
    exact q _ _ _ _ _ _ S ⟨rfl, rfl, rfl⟩
  | some ns =>
    obtain ⟨ad, o, a, rfl, hm, D, x2, iv2, t2, rfl, V2, hs⟩ := hN
    tb_look
    refine ⟨ad_nin true D (List.mem_append_right _ hm) S rfl ?_⟩
    have en : (!true) = false := rfl
    tb_look
    refine ⟨ad_itemC D (List.mem_append_right _ hm) S rfl ?_⟩
    obtain ⟨il, n, xs, rfl, hl, hi⟩ := hs
    tb_look
    exact q _ _ _ _ _ _ S ⟨rfl, rfl, il, n, xs, rfl, hl, hi⟩
theorem sp_lshown1 (w : World) (k : Kd) (hk : k ≠ .ls) (v : Value) (t1 : Tok) (mu nv : Led) : Spec (KK w) w 1 (.ref 568) [.str k.str t1, v] mu nv (Same mu nv fun v' => v' = v) := by
  refine' Spec.plain (vr := ["kind", "item"]) (vs := [some (.str k.str t1), some (v)]) (binds := [("kind", .str k.str t1), ("item", v)]) ?ho ?hcd ?hbind ?hloc ?hm ?hcell ?hco ?hgen ?hk ?B
  case ho => (show List.lookup _ (Mine.hp.heap_1 w.params) = _; k_is)
  case hcd => (show codeIn (Mine.hp.heap_1 w.params) _ _ = _; k_is)
  case hbind => exact fun s _ => BindsTo.of_eq rfl
  case hloc => exact locs rfl
  case hm => exact binds_mV (ns := ["kind", "item"]) (more := []) (vals := [.str k.str t1, v]) (k := 0) rfl (by decide)
  case hcell => decide
  case hco => rfl
  case hgen => rfl
  case hk => rfl
  intro prog A env g s Q hsc G M S q
  have l_kind : IsLoc env ["kind", "item"] "kind" 0 := .of hsc rfl rfl
  have l_item : IsLoc env ["kind", "item"] "item" 1 := .of hsc rfl rfl
  have gl_isinstance : IsGlb env "isinstance" := .of hsc rfl rfl
  have c_isinstance := b_isinstance w
  have gl_tuple : IsGlb env "tuple" := .of hsc rfl rfl
  have c_tuple := b_tuple w
  clear hsc
  have e1 : (k.str != ("list" : Str)) = true := by cases k <;> first | rfl | exact absurd rfl hk
  tb_look
  exact q _ _ _ _ _ _ S ⟨rfl, rfl, rfl⟩
theorem sp_lshown2 (w : World) (v : Value) (ds : List Dat) (t1 : Tok) (mu nv : Led) (hv : DatIn nv v (.tuple ds)) : Spec (KK w) w 1 (.ref 568) [.str Kd.ls.str t1, v] mu nv (Same mu nv fun v' => v' = v) := by
  obtain ⟨a, xs, n, rfl, hm, _⟩ := dat_tup hv
  refine' Spec.plain (vr := ["kind", "item"]) (vs := [some (.str Kd.ls.str t1), some (.ref a)]) (binds := [("kind", .str Kd.ls.str t1), ("item", .ref a)]) ?ho ?hcd ?hbind ?hloc ?hm ?hcell ?hco ?hgen ?hk ?B
  case ho => (show List.lookup _ (Mine.hp.heap_1 w.params) = _; k_is)
  case hcd => (show codeIn (Mine.hp.heap_1 w.params) _ _ = _; k_is)
  case hbind => exact fun s _ => BindsTo.of_eq rfl
  case hloc => exact locs rfl
  case hm => exact binds_mV (ns := ["kind", "item"]) (more := []) (vals := [.str Kd.ls.str t1, .ref a]) (k := 0) rfl (by decide)
  case hcell => decide
  case hco => rfl
  case hgen => rfl
  case hk => rfl
  intro prog A env g s Q hsc G M S q
  have l_kind : IsLoc env ["kind", "item"] "kind" 0 := .of hsc rfl rfl
  have l_item : IsLoc env ["kind", "item"] "item" 1 := .of hsc rfl rfl
  have gl_isinstance : IsGlb env "isinstance" := .of hsc rfl rfl
  have c_isinstance := b_isinstance w
  have gl_tuple : IsGlb env "tuple" := .of hsc rfl rfl
  have c_tuple := b_tuple w
  clear hsc
  have e1 : (Kd.ls.str != ("list" : Str)) = false := rfl
  tb_look
  refine ⟨isi_tt (List.mem_append_right _ hm) S ?_⟩
  tb_look
  exact q _ _ _ _ _ _ S ⟨rfl, rfl, rfl⟩
theorem sp_lshown3 (w : World) (v : Value) (k : Kd) (d : Dat) (t1 : Tok) (mu nv : Led) (hv : DtIn nv v (.one k d)) : Spec (KK w) w 1 (.ref 568) [.str Kd.ls.str t1, v] mu nv (Grw mu nv fun v' nv' => DatIn nv' v' (.tuple [.str k.str, d])) := by
  obtain ⟨a, il, n, u, t, rfl, V, hl, hde⟩ := hv
  refine' Spec.plain (vr := ["kind", "item"]) (vs := [some (.str Kd.ls.str t1), some (.ref a)]) (binds := [("kind", .str Kd.ls.str t1), ("item", .ref a)]) ?ho ?hcd ?hbind ?hloc ?hm ?hcell ?hco ?hgen ?hk ?B
  case ho => (show List.lookup _ (Mine.hp.heap_1 w.params) = _; k_is)
  case hcd => (show codeIn (Mine.hp.heap_1 w.params) _ _ = _; k_is)
  case hbind => exact fun s _ => BindsTo.of_eq rfl
  case hloc => exact locs rfl
  case hm => exact binds_mV (ns := ["kind", "item"]) (more := []) (vals := [.str Kd.ls.str t1, .ref a]) (k := 0) rfl (by decide)
  case hcell => decide
  case hco => rfl
  case hgen => rfl
  case hk => rfl
  intro prog A env g s Q hsc G M S q
  have l_kind : IsLoc env ["kind", "item"] "kind" 0 := .of hsc rfl rfl
  have l_item : IsLoc env ["kind", "item"] "item" 1 := .of hsc rfl rfl
  have gl_isinstance : IsGlb env "isinstance" := .of hsc rfl rfl
  have c_isinstance := b_isinstance w
  have gl_tuple : IsGlb env "tuple" := .of hsc rfl rfl
  have c_tuple := b_tuple w
  clear hsc
  have e1 : (Kd.ls.str != ("list" : Str)) = false := rfl
  tb_look
  refine ⟨j_itemC (List.mem_append_right _ hl) (by assumption) (by decide) (by decide) rfl ?_⟩
  tb_look
  refine ⟨j_newT (by assumption) (by simp [sizeLine_eq]) fun D h' S3 => ?_⟩
  exact q _ _ _ _ _ _ S3 ⟨rfl, Gr.cons _ (Gr.refl _), .tuple (.head _) (.cons (.str _ _) (.cons (DatIn.gr (Gr.cons _ (Gr.refl _)) hde) .nil))⟩
/-- an item shown -/
theorem sp_lshown (w : World) (to : Kd) (v : Value) (d : Dt) (t1 : Tok) (mu nv : Led) (hv : DtIn nv v d) (h : to = .ls → ∃ k e, d = .one k e) (h' : to ≠ .ls → ∃ e, d = .atom e) : Spec (KK w) w 1 (.ref 568) [.str to.str t1, v] mu nv (Grw mu nv fun v' nv' => DatIn nv' v' (shD d)) := by
  by_cases hk : to = .ls
  · subst hk
    obtain ⟨k, e, rfl⟩ := h rfl
    exact sp_lshown3 w v k e t1 mu nv hv
  · obtain ⟨e, rfl⟩ := h' hk
    exact (sp_lshown1 w to hk v t1 mu nv).mono fun v' mu' nv' ⟨a, b, c⟩ => by subst a b c; exact ⟨rfl, Gr.refl _, hv⟩
end Mine
end
/-! N26 -/
section
namespace Mine
noncomputable def lawT (n m : Int) : Str := ((if n < 0 then "-" else "" : Str) ++ (toString ((n.natAbs : Int).fdiv m) : Str)) ++ (if m = 2 then ".5" else "")
theorem dbs_text : (dbs.all fun p => lawT p.1 p.2 == dbT p.1 p.2) = true := by decide +kernel
theorem law_text {n m : Int} (h : (n, m) ∈ dbs) : lawT n m = dbT n m := by
  have := List.all_eq_true.mp dbs_text _ h
  simpa using this
theorem dbs_range : (dbs.all fun p => decide (p.1.natAbs ≤ 20) && (p.2 == 1 || p.2 == 2)) = true := by decide +kernel
theorem db_range {n m : Int} (h : (n, m) ∈ dbs) : n.natAbs ≤ 20 ∧ (m = 1 ∨ m = 2) := by
  have := List.all_eq_true.mp dbs_range _ h
  simpa using this
theorem dbs_quot : (dbs.all fun p => decide (((p.1.natAbs : Int).fdiv p.2).natAbs ≤ 20)) = true := by decide +kernel
theorem db_quot {n m : Int} (h : (n, m) ∈ dbs) : ((n.natAbs : Int).fdiv m).natAbs ≤ 20 := by
  have := List.all_eq_true.mp dbs_quot _ h
  simpa using this
theorem item_atoms {k : Kd} {a : Dat} (ho : ItOk k (.atom a)) : a = .none ∨ (k.rank < 2 ∧ ∃ i, a = .int i ∧ i.natAbs ≤ 20 ∧ (k = .lg → i = 0 ∨ i = 1)) ∨ (k = .db ∧ ∃ n m, (n, m) ∈ dbs ∧ a = .tuple [.int n, .int m]) ∨ (k = .ch ∧ ∃ x : Str, a = .str x ∧ SOk x) := by
  cases k with
  | lg =>
    rcases ho with rfl | rfl | rfl
    · exact .inl rfl
    · exact .inr (.inl ⟨by decide, 0, rfl, by decide, fun _ => .inl rfl⟩)
    · exact .inr (.inl ⟨by decide, 1, rfl, by decide, fun _ => .inr rfl⟩)
  | ig =>
    rcases ho with rfl | ⟨i, rfl, h1, h2⟩
    · exact .inl rfl
    · exact .inr (.inl ⟨by decide, i, rfl, by omega, fun h => by cases h⟩)
  | db =>
    rcases ho with rfl | h
    · exact .inl rfl
    · exact .inr (.inr (.inl ⟨rfl, h⟩))
  | ch =>
    rcases ho with rfl | h
    · exact .inl rfl
    · exact .inr (.inr (.inr ⟨rfl, h⟩))
  | ls => exact ho.elim
theorem sp_las (w : World) (k to : Kd) (v : Value) (d : Dt) (t1 t2 : Tok) (mu nv : Led) (hv : DtIn nv v d) (ho : ItOk k d) (hr : k.rank ≤ to.rank) : Spec (KK w) w 1 (.ref 561) [.str k.str t1, v, .str to.str t2] mu nv
    (Grw mu nv fun v' nv' => (k = to → v' = v) ∧ (k ≠ to → DatIn nv' v' (shD (cv k to d)))) := by
  refine' Spec.plain (vr := ["kind", "item", "aim", "size"]) (vs := [some (.str k.str t1), some (v), some (.str to.str t2), none]) (binds := [("kind", .str k.str t1), ("item", v), ("aim", .str to.str t2)]) ?ho ?hcd ?hbind ?hloc ?hm ?hcell ?hco ?hgen ?hk ?B
  case ho => (show List.lookup _ (Mine.hp.heap_1 w.params) = _; k_is)
  case hcd => (show codeIn (Mine.hp.heap_1 w.params) _ _ = _; k_is)
  case hbind => exact fun s _ => BindsTo.of_eq rfl
  case hloc => exact locs rfl
  case hm => exact binds_mV (ns := ["kind", "item", "aim"]) (more := ["size"]) (vals := [.str k.str t1, v, .str to.str t2]) (k := 1) rfl (by decide)
  case hcell => decide
  case hco => rfl
  case hgen => rfl
  case hk => rfl
  intro prog A env g s Q hsc G M S q
  have l_kind : IsLoc env ["kind", "item", "aim", "size"] "kind" 0 := .of hsc rfl rfl
  have l_item : IsLoc env ["kind", "item", "aim", "size"] "item" 1 := .of hsc rfl rfl
  have l_aim : IsLoc env ["kind", "item", "aim", "size"] "aim" 2 := .of hsc rfl rfl
  have l_size : IsLoc env ["kind", "item", "aim", "size"] "size" 3 := .of hsc rfl rfl
  have gl_abs : IsGlb env "abs" := .of hsc rfl rfl
  have c_abs := b_abs w
  have gl_str : IsGlb env "str" := .of hsc rfl rfl
  have c_str := b_str w
  clear hsc
  by_cases hkt : k = to
  · subst hkt
    have e1 : (k.str == k.str) = true := beq_self_eq_true _
    tb_look
    exact q _ _ _ _ _ _ S ⟨rfl, Gr.refl _, fun _ => rfl, fun h => absurd rfl h⟩
  · have hkl : k ≠ .ls := by rintro rfl; cases to <;> first | exact hkt rfl | (simp [Kd.rank] at hr)
    obtain ⟨a, rfl⟩ := item_atom hkl ho
    have e1 : (k.str == to.str) = false := by cases k <;> cases to <;> first | rfl | exact absurd rfl hkt
    have qq : ∀ fl h' tk m' nv', Sta g env.locals h' m' mu nv' → Gr nv nv' → DatIn nv' (retOf fl) (shD (if to = .ls then .one k a else .atom (cvA k to a))) → Q fl { s with heap := h', toks := tk } := fun fl h' tk m' nv' S' g' D' => q fl h' tk m' mu nv' S' ⟨rfl, g', fun h => absurd h hkt, fun _ => by rw [cv_atom hkt]; exact D'⟩
    clear q
    by_cases htl : to = .ls
    · subst htl
      have e2 : (Kd.ls.str == ("list" : Str)) = true := rfl
      tb_look
      refine ⟨j_newT S (by simp [sizeLine_eq]) fun D h' S3 => ?_⟩
      exact qq _ _ _ _ _ S3 (Gr.cons _ (Gr.refl _)) (.tuple (.head _) (.cons (.str _ _) (.cons (DatIn.gr (Gr.cons _ (Gr.refl _)) hv) .nil)))
    · have e2 : (to.str == ("list" : Str)) = false := by cases to <;> first | rfl | exact absurd rfl htl
      rw [if_neg htl] at qq
      simp only [shD] at qq
      rcases item_atoms ho with rfl | ⟨hk2, i, rfl, hi, hlg⟩ | ⟨rfl, n, m, hnm, rfl⟩ | ⟨rfl, x, rfl, hx⟩
      · cases hv
        tb_look
        refine qq _ _ _ _ _ S (Gr.refl _) ?_
        have : cvA k to .none = .none := by cases k <;> cases to <;> rfl
        rw [this]; exact .none
      · cases hv
        cases to with
        | ls => exact absurd rfl htl
        | lg => cases k <;> first | exact absurd rfl hkt | (simp [Kd.rank] at hr)
        | ig =>
          have e3 : (Kd.ig.str == ("integer" : Str)) = true := rfl
          tb_look
          refine qq _ _ _ _ _ S (Gr.refl _) ?_
          have : cvA k .ig (.int i) = .int i := by cases k <;> rfl
          rw [this]; exact .int _ _
        | db =>
          have e3 : (Kd.db.str == ("integer" : Str)) = false := rfl
          have e4 : (Kd.db.str == ("double" : Str)) = true := rfl
          tb_look
          refine ⟨j_newT S (by simp [sizeLine_eq]) fun D h' S3 => ?_⟩
          refine qq _ _ _ _ _ S3 (Gr.cons _ (Gr.refl _)) ?_
          have : cvA k .db (.int i) = .tuple [.int i, .int 1] := by cases k <;> rfl
          rw [this]; exact RatAt.dat ⟨_, _, _, .head _⟩
        | ch =>
          have e3 : (Kd.ch.str == ("integer" : Str)) = false := rfl
          have e4 : (Kd.ch.str == ("double" : Str)) = false := rfl
          by_cases hkl : k = .lg
          · subst hkl
            have e5 : (Kd.lg.str == ("logical" : Str)) = true := rfl
            rcases hlg rfl with rfl | rfl
            · tb_look
              refine ⟨j_new S (by simp [sizeLine_eq]) fun D h' S3 => ?_⟩
              tb_look
              refine ⟨j_itemC (by k_mem) S3 (by decide) (by decide) rfl ?_⟩
              exact qq _ _ _ _ _ S3.drop (Gr.refl _) (.str _ _)
            · tb_look
              refine ⟨j_new S (by simp [sizeLine_eq]) fun D h' S3 => ?_⟩
              tb_look
              refine ⟨j_itemC (by k_mem) S3 (by decide) (by decide) rfl ?_⟩
              exact qq _ _ _ _ _ S3.drop (Gr.refl _) (.str _ _)
          · have hki : k = .ig := by cases k <;> first | rfl | exact absurd rfl hkl | (simp [Kd.rank] at hk2)
            subst hki
            have e5 : (Kd.ig.str == ("logical" : Str)) = false := rfl
            have e6 : (Kd.ig.str == ("integer" : Str)) = true := rfl
            tb_look
            refine ⟨PySem.P.str_of_int (int_log2 (by omega)) ?_⟩
            exact qq _ _ _ _ _ S (Gr.refl _) (.str _ _)
      · have hto : to = .ch := by cases to <;> first | rfl | exact absurd rfl hkt | exact absurd rfl htl | (simp [Kd.rank] at hr)
        subst hto
        have e3 : (Kd.ch.str == ("integer" : Str)) = false := rfl
        have e4 : (Kd.ch.str == ("double" : Str)) = false := rfl
        have e5 : (Kd.db.str == ("logical" : Str)) = false := rfl
        have e6 : (Kd.db.str == ("integer" : Str)) = false := rfl
        obtain ⟨ra, rfl, R⟩ := dat_rat hv
        obtain ⟨hn20, hm12⟩ := db_range hnm
        have hq20 := db_quot hnm
        have hT := law_text hnm
        have hil := int_len (n := (n.natAbs : Int).fdiv m) (by omega)
        have l1 : (Str.ofString "-").length = 1 := rfl
        have l0 : (Str.ofString "").length = 0 := rfl
        have l2 : (Str.ofString ".5").length = 2 := rfl
        have hcv : cvA .db .ch (.tuple [.int n, .int m]) = .str (lawT n m) := by rw [hT]; rfl
        rw [hcv] at qq
        tb_look
        · rename_i h9 S9 u8 en u9
          have en' : n < 0 := of_decide_eq_true en
          refine ⟨j_fdiv (by omega) (by omega) ?_⟩
          tb_look
          refine ⟨PySem.P.str_of_int (int_log2 (by omega)) ?_⟩
          tb_look
          refine ⟨PyProof.Rows.add_str (fun t' tk => ?_) (by rw [sizeLine_eq]; omega)⟩
          have hs4 := str_len_app (Str.ofString "-") (Str.ofString (toString ((n.natAbs : Int).fdiv m)))
          rcases hm12 with rfl | rfl
          · have e7 : ((1 : Int) == 2) = false := by decide
            tb_look
            refine ⟨PyProof.Rows.add_str (fun t' tk => ?_) (by rw [sizeLine_eq]; omega)⟩
            refine qq _ _ _ _ _ S9 (Gr.refl _) ?_
            unfold lawT
            rw [if_pos en', if_neg (by decide)]
            exact .str _ _
          · have e7 : ((2 : Int) == 2) = true := by decide
            tb_look
            refine ⟨PyProof.Rows.add_str (fun t' tk => ?_) (by rw [sizeLine_eq]; omega)⟩
            refine qq _ _ _ _ _ S9 (Gr.refl _) ?_
            unfold lawT
            rw [if_pos en', if_pos rfl]
            exact .str _ _
        · rename_i h9 S9 u8 en u9
          have en' : ¬ n < 0 := of_decide_eq_false en
          refine ⟨j_fdiv (by omega) (by omega) ?_⟩
          tb_look
          refine ⟨PySem.P.str_of_int (int_log2 (by omega)) ?_⟩
          tb_look
          refine ⟨PyProof.Rows.add_str (fun t' tk => ?_) (by rw [sizeLine_eq]; omega)⟩
          have hs4 := str_len_app (Str.ofString "") (Str.ofString (toString ((n.natAbs : Int).fdiv m)))
          rcases hm12 with rfl | rfl
          · have e7 : ((1 : Int) == 2) = false := by decide
            tb_look
            refine ⟨PyProof.Rows.add_str (fun t' tk => ?_) (by rw [sizeLine_eq]; omega)⟩
            refine qq _ _ _ _ _ S9 (Gr.refl _) ?_
            unfold lawT
            rw [if_neg en', if_neg (by decide)]
            exact .str _ _
          · have e7 : ((2 : Int) == 2) = true := by decide
            tb_look
            refine ⟨PyProof.Rows.add_str (fun t' tk => ?_) (by rw [sizeLine_eq]; omega)⟩
            refine qq _ _ _ _ _ S9 (Gr.refl _) ?_
            unfold lawT
            rw [if_neg en', if_pos rfl]
            exact .str _ _
      · cases to <;> first | exact absurd rfl hkt | exact absurd rfl htl | (simp [Kd.rank] at hr)
end Mine
end
/-! N27 -/
section
namespace Mine
theorem dats_app {nv : Led} : ∀ {vs ws : List Value} {ds es : List Dat}, DatAll nv vs ds → DatAll nv ws es → DatAll nv (vs ++ ws) (ds ++ es)
  | _, _, _, _, .nil, k => k
  | _, _, _, _, .cons h r, k => .cons h (dats_app r k)
theorem dats_len {nv : Led} : ∀ {vs : List Value} {ds : List Dat}, DatAll nv vs ds → vs.length = ds.length
  | _, _, .nil => rfl
  | _, _, .cons _ r => by simp [dats_len r]
/-- items of the kind they are told under -/
noncomputable def Shaped (to : Kd) (d : Dt) : Prop := (to = .ls → ∃ k e, d = .one k e) ∧ (to ≠ .ls → ∃ e, d = .atom e)
noncomputable def CL_law_told : List (Str × Nat) := [("v", 0)]
theorem sp_ltold (w : World) (x il : Addr) (xs : Array Value) (n : Nat) (to : Kd) (t : Tok) (av : Value) (its : List Dt) (mu nv : Led) (V : VecAt nv x (.str to.str t) (.ref il) av) (hl : (il, listOf xs n) ∈ nv) (hD : DtAll nv xs.toList its) (hsh : ∀ d ∈ its, Shaped to d) (hz : its.length ≤ 100) :
    Spec (KK w) w 2 (.ref 592) [.ref x] mu nv (Grw mu nv fun v nv' => ∃ D k ys, v = .ref D ∧ (D, listOf ys k) ∈ nv' ∧ DatAll nv' ys.toList (its.map shD)) := by
  refine' Spec.cells (vr := []) (vs := []) (binds := [("v", .ref x)]) (cl := CL_law_told) ?ho ?hcd ?hbind ?hkind ?hcl ?hcl1 ?hcl2 ?hm ?hco ?hgen ?hk ?B
  case ho => (show List.lookup _ (Mine.hp.heap_1 w.params) = _; k_is)
  case hcd => (show codeIn (Mine.hp.heap_1 w.params) _ _ = _; k_is)
  case hbind => exact fun s _ => BindsTo.of_eq rfl
  case hkind => rfl
  case hcl => exact fun n => rfl
  case hcl1 => decide
  case hcl2 => decide
  case hm => exact hm_cells (ns := []) (more := []) (vals := []) (k := 0) (by rfl) rfl (by decide)
  case hco => rfl
  case hgen => rfl
  case hk => rfl
  intro prog A env g s Q cells hsc G M hce Y S q
  have kc_v : env.kindOf "v" = some .cell := kof hsc rfl
  obtain ⟨o1, ho1, rfl⟩ := cells1 Y
  have cc1 : CCel env "v" (env.locals + 1 + 0) := ⟨kc_v, rfl, rfl, by rw [hce]; rfl⟩
  have hc1 : o1.data = .cell (some (.ref x)) := ho1
  clear hsc hce Y ho1
  generalize env.locals + 1 + 0 = c1 at *
  have hlen := hD.length
  rw [Array.length_toList] at hlen
  simp only [List.singleton_append] at S
  tb_look
  refine ⟨e_comp (fun i acc mu' nv' => mu' = (c1, o1) :: mu ∧ Gr nv nv' ∧ DatAll nv' acc ((its.take i).map shD)) M S (clos_list [("v", c1)] rfl (by intro p hp; rw [List.mem_singleton.mp hp]; exact cc1.c)) (by decide) rfl (by decide) rfl ?_⟩
  tb_look
  refine ⟨_, _, _, _, .list rfl (S.mem (List.mem_append_right _ hl)) (.inr fun i acc mu' nv' _ h => ?_), S, by rw [sizeLine_eq]; omega, ⟨rfl, Gr.refl _, .nil⟩, CompTurn.plain ?_, ?_⟩
  · obtain ⟨rfl, g1, _⟩ := h
    exact List.mem_append_right _ (g1.list hl)
  · rintro I i v acc mu' nv' C oC D k io' env' h tk QL hi hv ⟨rfl, g1, ha⟩ _ ce hk hin S2
    revert S2; (repeat (rename Sta _ _ _ _ _ _ => So; clear So)); intro S2
    have G' := ce.g G hk
    have cv0 := ce.var hin (x := "item") rfl (by decide)
    have gl_s : IsGlb env' "_law_shown" := ce.glb rfl (by decide)
    have c_s := c_law_shown w
    have cc1' : CCel env' "v" c1 := ⟨ce.kindF G cc1.k rfl, rfl, rfl, by rw [ce.cells]; rfl⟩
    have V' := V.gr g1
    rw [← Array.getElem?_toList] at hv
    obtain ⟨d, hd1, hd2⟩ := hD.get hv
    have hsd := hsh d (List.mem_of_getElem? hd1)
    tb_look
    refine ⟨(sp_lshown w to v d t _ _ (hd2.gr g1) hsd.1 hsd.2).grw (by decide) M S2 fun v' h' tk nv2 S3 g2 hd => ?_⟩
    refine CompEnd.mk' S3 ⟨rfl, g1.trans g2, ?_⟩
    rw [List.take_add_one, hd1, Option.toList_some, List.map_append, List.map_cons, List.map_nil]
    exact dats_app (DatAll.gr g2 ha) (.cons hd .nil)
  · rintro acc mu' nv' D k h tk ⟨rfl, g1, ha⟩ hl' S2
    revert S2; (repeat (rename Sta _ _ _ _ _ _ => So; clear So)); intro S2
    rw [List.take_of_length_le (by omega)] at ha
    tb_look
    exact q _ _ _ _ _ _ S2.keep1.drop ⟨rfl, g1.trans (Gr.cons _ (Gr.refl _)), D, k, acc.toArray, rfl, .head _, by simpa using DatAll.gr (Gr.cons _ (Gr.refl _)) ha⟩
end Mine
end
/-! N28 -/
section
namespace Mine
structure LawB where
  b : List Stmt
  sc : Scope
  e : ∀ w, ∃ oc od name qual params dV kV doc pm an cdv ct osl, (KK w).lookup 597 = some ⟨oc, od, .func (fnX name qual params b sc [] dV kV doc pm an cdv ct), osl⟩
theorem LawB.mk' {b : List Stmt} {sc : Scope} {oc : World → Value} {od : World → Option Addr} {name qual : Str} {params : Arguments} {dV kV doc pm cdv ct : World → Value} {an : World → Option Addr} {osl : World → Array (Option Value)}
  (e : ∀ w, (KK w).lookup 597 = some ⟨oc w, od w, .func (fnX name qual params b sc [] (dV w) (kV w) (doc w) (pm w) (an w) (cdv w) (ct w)), osl w⟩) : ∀ w, ∃ oc od name qual params dV kV doc pm an cdv ct osl, (KK w).lookup 597 = some ⟨oc, od, .func (fnX name qual params b sc [] dV kV doc pm an cdv ct), osl⟩ :=
  fun w => ⟨_, _, _, _, _, _, _, _, _, _, _, _, _, e w⟩
/-- the law's own block, as the run's head leaves it -/
noncomputable def lawF : LawB := by
  refine' ⟨_, _, LawB.mk' ?h⟩
  case h => intro w; (show List.lookup _ (Mine.hp.heap_1 w.params) = _; k_is)
noncomputable def lawD7 : List Stmt := lawF.b.tail.tail.tail.tail.tail.tail.tail
noncomputable def lawD9 : List Stmt := lawD7.tail.tail
noncomputable def lawVr : List Str := ["script", "count", "shared", "held", "lap", "many", "outer", "lengths", "told", "spot", "aim", "due", "v", "item", "own_names", "inner", "sides"]
/-- what the law's run ends in -/
noncomputable def LawQ (g : Heap) (L : Addr) (s : Shared) (Q : Flow → Shared → Prop) : Prop := ∀ fl h' tk m' mu' nv', Sta g L h' m' mu' nv' → retOf fl = .bool true → Q fl { s with heap := h', toks := tk }
theorem HIn.ofNu {w : World} {nv : Led} {x : Addr} (h : NuAt nv x) : HIn w nv (.ref x) .null := by
  obtain ⟨dx, o, h1, h2, h3⟩ := h.ex
  exact ⟨x, dx, o, rfl, h1, h2, h3⟩
theorem kd_pick (j : Int) (h0 : 0 ≤ j) (h5 : j < 5) (a b c d e : Tok) : ∃ (k : Kd) (t : Tok), ([.str Kd.lg.str a, .str Kd.ig.str b, .str Kd.db.str c, .str Kd.ch.str d, .str Kd.ls.str e] : List Value)[j.toNat]? = some (.str k.str t) := by
  have : j = 0 ∨ j = 1 ∨ j = 2 ∨ j = 3 ∨ j = 4 := by omega
  rcases this with rfl | rfl | rfl | rfl | rfl
  · exact ⟨.lg, a, rfl⟩
  · exact ⟨.ig, b, rfl⟩
  · exact ⟨.db, c, rfl⟩
  · exact ⟨.ch, d, rfl⟩
  · exact ⟨.ls, e, rfl⟩
theorem ok_add {hs : List HV} {h : HV} (ho : ∀ h ∈ hs, HOk h) (hh : HOk h) : ∀ x ∈ hs ++ [h], HOk x := fun x hx => by
  rcases List.mem_append.mp hx with hx | hx
  · exact ho x hx
  · rw [List.mem_singleton.mp hx]; exact hh
/-- what is held -/
structure Held (w : World) (nv : Led) (H : Addr) (nav : Value) (hs : List HV) (outer : Option (List Str)) : Prop where
  l : ∃ xs n, (H, listOf xs n) ∈ nv ∧ HAll w nv xs.toList hs
  ok : ∀ h ∈ hs, HOk h
  z : hs.length ≤ 5
  n : NmArg nv nav outer
  o : ∀ ns, outer = some ns → ns.length = hs.length ∧ ∀ x ∈ ns, SOk x
theorem law_A (prog : Program) (w : World) (A : Around) (env : Env) (g : Heap) (s : Shared) (Q : Flow → Shared → Prop) (c l : Addr) (o : Obj) (vs : List Value) (ns : List Int) (hsc : env.scope = lawF.sc) (hce : env.cells = [(Str.ofString "row", c)]) (G : EnvG env) (M : Am (KK w) 20 A env g)
    (S : Sta g env.locals s.heap (mV lawVr (some (.ref l) :: List.replicate 16 none)) [(c, o)] []) (ho : o.data = .cell none) (hl : g.IsList l vs.toArray) (hi : IntsAre vs ns) (hz : ns.length ≤ 63)
    (q : ∀ (h' : Heap) (tk : Nat) (nv : Led) (H : Addr) (nav : Value) (hs : List HV) (outer : Option (List Str)) (tc : Tok) (sh lp mn : Option Value), Sta g env.locals h' (mV lawVr [some (.ref l), some (.int (hs.length : Nat) tc), sh, some (.ref H), lp, mn, some nav, none, none, none, none, none, none, none, none, none, none]) [] nv →
      Held w nv H nav hs outer → wp prog w A (execs (lawD7) env) Q { s with heap := h', toks := tk }) :
    wp prog w A (execs lawF.b env) Q s := by
  have l_script : IsLoc env lawVr "script" 0 := .of hsc rfl rfl
  have l_count : IsLoc env lawVr "count" 1 := .of hsc rfl rfl
  have l_shared : IsLoc env lawVr "shared" 2 := .of hsc rfl rfl
  have l_held : IsLoc env lawVr "held" 3 := .of hsc rfl rfl
  have l_lap : IsLoc env lawVr "lap" 4 := .of hsc rfl rfl
  have l_many : IsLoc env lawVr "many" 5 := .of hsc rfl rfl
  have l_outer : IsLoc env lawVr "outer" 6 := .of hsc rfl rfl
  have gl_law_row : IsGlb env "_law_row" := .of hsc rfl rfl
  have c_law_row := c_law_row w
  have gl_law_next : IsGlb env "_law_next" := .of hsc rfl rfl
  have c_law_next := c_law_next w
  have gl_law_value : IsGlb env "_law_value" := .of hsc rfl rfl
  have c_law_value := c_law_value w
  have gl_law_kinds : IsGlb env "_law_kinds" := .of hsc rfl rfl
  have c_law_kinds := c_law_kinds w
  have gl_Null : IsGlb env "Null" := .of hsc rfl rfl
  have c_Null := c_Null w
  have gl_range : IsGlb env "range" := .of hsc rfl rfl
  have c_range := b_range w
  have cc : CCel env "row" c := ⟨kof hsc rfl, rfl, rfl, by rw [hce]; rfl⟩
  clear hsc hce
  simp only [List.replicate] at S
  dsimp only [lawF]
  tb_look
  refine ⟨((sp_lrow w l vs.toArray (by simpa using ints_all hi) (by have := hi.length; simp; omega) _ _)) _ _ _ _ _ _ _ hl (M.less (by decide)) S fun v h' tk mu' nv' S1 P => ?_⟩
  obtain ⟨R, oR, rfl, rfl, g1, hR⟩ := P
  tb_look
  refine ⟨st_cl cc G S1.swap ho fun h' o' ho' S2 => ?_⟩
  have S3 := S2.swap
  have hco : o'.data = .cell (some (.ref R)) := ho'
  tb_look
  refine ⟨((sp_lnext w R oR hR _ _).less (by decide)) _ _ _ _ _ _ _ M S3 fun v h' tk mu' nv' S4 P => ?_⟩
  obtain ⟨oR2, hR2, rfl, g2, i1, t1, rfl⟩ := P
  tb_look
  rename_i h9 S5
  obtain ⟨cn, hcn, hc5⟩ : ∃ cn : Nat, i1.fmod 6 = (cn : Int) ∧ cn ≤ 5 := by have := fm_range i1 (k := 6) (by decide); exact ⟨(i1.fmod 6).toNat, by omega, by omega⟩
  rw [hcn] at S5
  refine ⟨((sp_lnext w R oR2 hR2 _ _).less (by decide)) _ _ _ _ _ _ _ M S5 fun v h' tk mu' nv' S6 P => ?_⟩
  obtain ⟨oR3, hR3, rfl, g3, i2, t2, rfl⟩ := P
  tb_look
  rename_i h10 S7
  obtain ⟨sn, hsn, hs3⟩ : ∃ sn : Nat, i2.fmod 4 = (sn : Int) ∧ sn ≤ 3 := by have := fm_range i2 (k := 4) (by decide); exact ⟨(i2.fmod 4).toNat, by omega, by omega⟩
  rw [hsn] at S7
  refine ⟨j_new S7 (by simp [sizeLine_eq]) fun H h' S8 => ?_⟩
  tb_look
  rename_i h11 S9
  have S10 := S9.swap
  clear S1 S2 S3 S4 S5 S6 S7 S8 S9
  refine ⟨x_forR (fun i vs mu nv2 => ∃ acc an hs oR lp mn tc ts, vs = [some (.ref l), some (.int (cn : Nat) tc), some (.int (sn : Nat) ts), some (.ref H), lp, mn, none, none, none, none, none, none, none, none, none, none, none] ∧ mu = [(R, oR), (H, listOf acc.toArray an), (c, o')] ∧ RowO oR ∧ HAll w nv2 acc hs ∧ (∀ h ∈ hs, HOk h) ∧ hs.length = i) l_lap G M (by rintro i vs mu nv2 ⟨_, _, _, _, _, _, _, _, rfl, _⟩; rfl) ?_⟩
  tb_look
  refine ⟨j_range S10 fun rg h' tk t u v S11 hrg => ?_⟩
  refine ⟨rg, cn, t, u, v, _, _, _, rfl, hrg, range_small (by omega), S11, ⟨[], 0, [], _, _, _, _, _, rfl, rfl, hR3, .nil, (fun h hh => by cases hh), rfl⟩, ?_, ?_⟩
  · clear S10 S11
    rintro I i t vs mu nv2 io h tk QL hi ⟨acc, an, hs, oR4, lp, mn, tc, ts, rfl, rfl, hR4, hA, hok, hhl⟩ S12
    revert S12; (repeat (rename Sta _ _ _ _ _ _ => So; clear So)); intro S12
    have hal := hA.length
    have hold : HoldIf := ⟨⟩
    tb_look
    clear hold
    rename_i h13 S13
    refine ⟨x_ifJ (fun s' => ∃ h' tk many tm oR nv3, s' = { s with heap := h', toks := tk } ∧ many ≤ 3 ∧ RowO oR ∧ Gr nv2 nv3 ∧ Sta g env.locals h' (mV lawVr [some (.ref l), some (.int (cn : Nat) tc), some (.int (sn : Nat) ts), some (.ref H), some (.int (i : Nat) t), some (.int ((many : Nat) : Int) tm), none, none, none, none, none, none, none, none, none, none, none]) [(R, oR), (I, io), (H, listOf acc.toArray an), (c, o')] nv3) ?_ ?_⟩
    · tb_look
      refine ⟨((sp_lnext w R oR4 hR4 _ _).less (by decide)) _ _ _ _ _ _ _ M S13.swap fun v h' tk mu' nv' S14 P => ?_⟩
      obtain ⟨oR5, hR5, rfl, g5, i5, t5, rfl⟩ := P
      tb_look
      · refine ⟨((sp_lnext w R oR5 hR5 _ _).less (by decide)) _ _ _ _ _ _ _ M S14 fun v h' tk mu' nv' S15 P => ?_⟩
        obtain ⟨oR6, hR6, rfl, g6, i6, t6, rfl⟩ := P
        tb_look
        rename_i h16 S16
        obtain ⟨mn2, hmn, hm3⟩ : ∃ sn : Nat, i6.fmod 4 = (sn : Int) ∧ sn ≤ 3 := by have := fm_range i6 (k := 4) (by decide); exact ⟨(i6.fmod 4).toNat, by omega, by omega⟩
        rw [hmn] at S16
        exact ⟨rfl, _, _, mn2, _, oR6, _, rfl, hm3, hR6, g5.trans g6, S16⟩
      · exact ⟨rfl, _, _, sn, _, oR5, _, rfl, hs3, hR5, g5, S14⟩
    · rintro s' ⟨h', tk, many, tm, oR5, nv3, rfl, hm3, hR5, g5, S14⟩
      tb_look
      refine ⟨((sp_lnext w R oR5 hR5 _ _).less (by decide)) _ _ _ _ _ _ _ M S14 fun v h' tk mu' nv4 S15 P => ?_⟩
      obtain ⟨oR6, hR6, rfl, g6, i6, t6, rfl⟩ := P
      tb_look
      · refine ⟨(sp_Null w _ _).grw (by decide) M S15 fun v h' tk nv5 S16 g7 P => ?_⟩
        obtain ⟨x, rfl, hN⟩ := P
        tb_look
        refine ⟨j_append (Sta.pull [_, _] S16) (by rw [sizeLine_eq]; omega) fun n' h' S17 => ?_⟩
        tb_look
        have gg := (g5.trans g6).trans g7
        exact ForQ.next (Sta.unpull [_, _] S17).swap ⟨_, _, hs ++ [.null], oR6, _, _, _, _, rfl, rfl, hR6, (hA.gr gg).append (.cons (HIn.ofNu hN) .nil), ok_add (h := .null) hok trivial, by simp [hhl]⟩
      · refine ⟨(sp_lkinds w _ _).grw (by decide) M S15 fun v h' tk nv5 S16 g7 P => ?_⟩
        obtain ⟨D, a1, a2, a3, a4, a5, kk, rfl, hD⟩ := P
        tb_look
        refine ⟨((sp_lnext w R oR6 hR6 _ _).less (by decide)) _ _ _ _ _ _ _ M S16 fun v h' tk mu' nv6 S17 P => ?_⟩
        obtain ⟨oR7, hR7, rfl, g8, i7, t7, rfl⟩ := P
        have hD' := g8.list hD
        have h5 := fm_range i7 (k := 5) (by decide)
        obtain ⟨k, kt, hk⟩ := kd_pick _ h5.1 h5.2 a1 a2 a3 a4 a5
        tb_look
        refine ⟨j_itemC (List.mem_append_right _ hD') S17 h5.1 (by omega) hk ?_⟩
        tb_look
        refine ⟨((sp_lvalue w R oR7 hR7 k _ _ many hm3 _ _).less (by decide)) _ _ _ _ _ _ _ M S17 fun v h' tk mu' nv7 S18 P => ?_⟩
        obtain ⟨oR8, hR8, rfl, g9, its, nm, hV, hVo, _⟩ := P
        tb_look
        refine ⟨j_append (Sta.pull [_, _] S18) (by rw [sizeLine_eq]; omega) fun n' h' S19 => ?_⟩
        tb_look
        have gg := (((g5.trans g6).trans g7).trans g8).trans g9
        exact ForQ.next (Sta.unpull [_, _] S19).swap ⟨_, _, hs ++ [.vec k its nm], oR8, _, _, _, _, rfl, rfl, hR8, (hA.gr gg).append (.cons (d := .vec k its nm) hV .nil), ok_add (h := .vec k its nm) hok hVo, by simp [hhl]⟩
  · clear S10 S11
    rintro vs mu nv2 h tk ⟨acc, an, hs, oR4, lp, mn, tc, ts, rfl, rfl, hR4, hA, hok, hhl⟩ S12
    revert S12; (repeat (rename Sta _ _ _ _ _ _ => So; clear So)); intro S12
    have hal := hA.length
    have hold : HoldIf := ⟨⟩
    tb_look
    clear hold
    rename_i h13 S13
    refine ⟨x_ifJ (fun s' => ∃ h' tk lp2 nav outer oR nv3, s' = { s with heap := h', toks := tk } ∧ Gr nv2 nv3 ∧ Sta g env.locals h' (mV lawVr [some (.ref l), some (.int (cn : Nat) tc), some (.int (sn : Nat) ts), some (.ref H), lp2, mn, some nav, none, none, none, none, none, none, none, none, none, none]) [(R, oR), (H, listOf acc.toArray an), (c, o')] nv3 ∧ NmArg nv3 nav outer ∧ ∀ ns, outer = some ns → ns.length = cn ∧ ∀ x ∈ ns, SOk x) ?_ ?_⟩
    · tb_look
      refine ⟨((sp_lnext w R oR4 hR4 _ _).less (by decide)) _ _ _ _ _ _ _ M S13 fun v h' tk mu' nv' S14 P => ?_⟩
      obtain ⟨oR5, hR5, rfl, g5, i5, t5, rfl⟩ := P
      tb_look
      · refine ⟨x_asgComp (fun i acc2 mu3 nv3 => ∃ oR6 ns2, RowO oR6 ∧ mu3 = [(R, oR6), (H, listOf acc.toArray an), (c, o')] ∧ Gr nv' nv3 ∧ StrsAre acc2 ns2 ∧ (∀ x ∈ ns2, SOk x) ∧ acc2.length = i) M S14 l_outer G rfl (swaps_loc G l_outer rfl rfl) (clos_list [("row", c)] rfl (by intro p hp; rw [List.mem_singleton.mp hp]; exact cc.c)) (by decide) rfl (by decide) rfl ?_⟩
        tb_look
        refine ⟨j_range S14 fun rg h' tk t u v S15 hrg => ?_⟩
        refine ⟨_, _, _, _, .range rfl hrg (range_small (by omega)), S15, by rw [sizeLine_eq]; omega, ⟨oR5, [], hR5, rfl, Gr.refl _, .nil, (fun d h => by cases h), rfl⟩, CompTurn.plain ?_, ?_⟩
        · rintro I i v acc2 mu3 nv3 C oC D k io' env' h tk QL hi hv ⟨oR6, ns2, hR6, rfl, g6, hns, hle, hal2⟩ _ ce hk hin S16
          revert S16; (repeat (rename Sta _ _ _ _ _ _ => So; clear So)); intro S16
          have G' := ce.g G hk
          have gl_f : IsGlb env' "_law_next" := ce.glb rfl (by decide)
          have cc' : CCel env' "row" c := ⟨ce.kindF G cc.k rfl, rfl, rfl, by rw [ce.cells]; rfl⟩
          tb_look
          refine ⟨j_new S16 (by simp [sizeLine_eq]) fun D' h' S17 => ?_⟩
          have S18 : Sta g env.locals h' _ [(R, oR6), (C, oC), (D, _), (I, io'), (H, _), (c, o')] _ := Sta.pull [_, _, _] S17.keep1
          tb_look
          refine ⟨((sp_lnext w R oR6 hR6 _ _).less (by decide)) _ _ _ _ _ _ _ M S18 fun v h' tk mu' nv4 S19 P => ?_⟩
          obtain ⟨oR7, hR7, rfl, g7, j, t3, rfl⟩ := P
          have hD' := g7.list (.head _)
          have g8 := (Gr.cons _ (Gr.refl _)).trans g7
          have h7 := fm_range j (k := 3) (by decide)
          tb_look
          have : j.fmod 3 = 0 ∨ j.fmod 3 = 1 ∨ j.fmod 3 = 2 := by omega
          rcases this with h | h | h <;> rw [h] <;> refine ⟨j_itemC (List.mem_append_right _ hD') S19 (by decide) (by decide) rfl ?_⟩ <;>
            refine CompEnd.mk' (Sta.unpull [(C, oC), _, _] S19) ⟨oR7, ns2 ++ [_], hR7, rfl, g6.trans g8, strs_app hns (.cons _ _ .nil), ?_, by simp [hal2]⟩ <;>
            (intro x hx; rcases List.mem_append.mp hx with hx | hx; exact hle x hx; rw [List.mem_singleton.mp hx]; exact ⟨by decide, by decide +kernel⟩)
        · rintro acc2 mu3 nv3 Dn k4 h tk ⟨oR6, ns2, hR6, rfl, g6, hns, hle, hal2⟩ hl' S16
          revert S16; (repeat (rename Sta _ _ _ _ _ _ => So; clear So)); intro S16
          tb_look
          have hnl := hns.length
          exact ⟨rfl, _, _, _, .ref Dn, some ns2, oR6, _, rfl, (g5.trans g6).trans (Gr.cons _ (Gr.refl _)), S16.keep1, ⟨Dn, k4, acc2.toArray, rfl, .head _, by simpa using hns⟩, fun ns e => by cases e; exact ⟨by omega, hle⟩⟩
      · exact ⟨rfl, _, _, _, .none, none, oR5, _, rfl, g5, S14, rfl, fun ns e => by cases e⟩
    · rintro s' ⟨h', tk, lp2, nav, outer, oR5, nv3, rfl, g5, S14, hN, hno⟩
      have S15 := S14.drop.keep1.drop
      have g6 : Gr nv3 ((H, listOf acc.toArray an) :: nv3) := Gr.cons _ (Gr.refl _)
      subst hhl
      exact q _ _ _ H nav hs outer _ _ _ _ S15 ⟨⟨_, _, .head _, by simpa using hA.gr (g5.trans g6)⟩, hok, by omega, hN.gr g6, hno⟩
end Mine
end
/-! N29 -/
section
namespace Mine
/-- what is held, its list named -/
structure HeldX (w : World) (nv : Led) (H : Addr) (xs : Array Value) (n : Nat) (nav : Value) (hs : List HV) (outer : Option (List Str)) : Prop where
  m : (H, listOf xs n) ∈ nv
  a : HAll w nv xs.toList hs
  ok : ∀ h ∈ hs, HOk h
  z : hs.length ≤ 5
  n : NmArg nv nav outer
  o : ∀ ns, outer = some ns → ns.length = hs.length ∧ ∀ x ∈ ns, SOk x
theorem HeldX.gr {w : World} {nv nv' : Led} (g : Gr nv nv') {H : Addr} {xs : Array Value} {n : Nat} {nav : Value} {hs : List HV} {outer : Option (List Str)} (h : HeldX w nv H xs n nav hs outer) : HeldX w nv' H xs n nav hs outer :=
  ⟨g.list h.m, h.a.gr g, h.ok, h.z, h.n.gr g, h.o⟩
theorem HeldX.len {w : World} {nv : Led} {H : Addr} {xs : Array Value} {n : Nat} {nav : Value} {hs : List HV} {outer : Option (List Str)} (h : HeldX w nv H xs n nav hs outer) : xs.size = hs.length := by
  have := h.a.length
  rwa [Array.length_toList] at this
noncomputable def lenI : HV → Int
  | .null => -1
  | .vec _ its _ => its.length
theorem ints_app {vs ws : List Value} {xs ys : List Int} (h : IntsAre vs xs) (k : IntsAre ws ys) : IntsAre (vs ++ ws) (xs ++ ys) := by
  induction h with
  | nil => exact k
  | cons y t _ ih => exact .cons y t ih
theorem law_B (prog : Program) (w : World) (A : Around) (env : Env) (g : Heap) (s : Shared) (Q : Flow → Shared → Prop) (c l H : Addr) (nv : Led) (nav : Value) (hs : List HV) (outer : Option (List Str)) (tc : Tok) (sh lp mn : Option Value) (hsc : env.scope = lawF.sc) (G : EnvG env) (M : Am (KK w) 20 A env g)
    (S : Sta g env.locals s.heap (mV lawVr [some (.ref l), some (.int (hs.length : Nat) tc), sh, some (.ref H), lp, mn, some nav, none, none, none, none, none, none, none, none, none, none]) [] nv) (hH : Held w nv H nav hs outer)
    (q : ∀ (h' : Heap) (tk : Nat) (nv : Led) (xs : Array Value) (n : Nat) (Ln : Addr) (lv : Array Value) (ln : Nat) (told : Value), Sta g env.locals h' (mV lawVr [some (.ref l), some (.int (hs.length : Nat) tc), sh, some (.ref H), lp, mn, some nav, some (.ref Ln), some told, none, none, none, none, none, none, none, none]) [] nv →
      HeldX w nv H xs n nav hs outer → (Ln, listOf lv ln) ∈ nv → IntsAre lv.toList (hs.map lenI) → SimpOut w nv told xs.toList hs outer → wp prog w A (execs lawD9 env) Q { s with heap := h', toks := tk }) :
    wp prog w A (execs lawD7 env) Q s := by
  have l_held : IsLoc env lawVr "held" 3 := .of hsc rfl rfl
  have l_outer : IsLoc env lawVr "outer" 6 := .of hsc rfl rfl
  have l_lengths : IsLoc env lawVr "lengths" 7 := .of hsc rfl rfl
  have l_told : IsLoc env lawVr "told" 8 := .of hsc rfl rfl
  have gl_simplified : IsGlb env "simplified" := .of hsc rfl rfl
  have c_simplified := c_simplified w
  clear hsc
  obtain ⟨⟨xs, n, hm, hA⟩, hok, hz, hN, ho⟩ := hH
  have hX : HeldX w nv H xs n nav hs outer := ⟨hm, hA, hok, hz, hN, ho⟩
  have hxl := hX.len
  dsimp only [lawD7, lawF, List.tail_cons]
  tb_look
  refine ⟨x_asgComp (fun i acc mu' nv' => mu' = [] ∧ nv' = nv ∧ IntsAre acc ((hs.take i).map lenI)) M S l_lengths G rfl (swaps_loc G l_lengths rfl rfl) (clos_none rfl) (by decide) rfl (by decide) rfl ?_⟩
  tb_look
  refine ⟨_, _, _, _, .list rfl (S.mem (List.mem_append_right _ hm)) (.inr fun i acc mu' nv' _ h => ?_), S, by rw [sizeLine_eq]; omega, ⟨rfl, rfl, .nil⟩, CompTurn.plain ?_, ?_⟩
  · obtain ⟨rfl, rfl, _⟩ := h
    exact hm
  · rintro I i v acc mu' nv' C oC D k io' env' h tk QL hi hv ⟨rfl, rfl, ha⟩ _ ce hk hin S2
    revert S2; (repeat (rename Sta _ _ _ _ _ _ => So; clear So)); intro S2
    have G' := ce.g G hk
    have cv0 := ce.var hin (x := "v") rfl (by decide)
    have gl_len : IsGlb env' "len" := ce.glb rfl (by decide)
    have c_len := b_len w
    rw [← Array.getElem?_toList] at hv
    obtain ⟨d, hd1, hd2⟩ := hA.get hv
    have hokd := hok d (List.mem_of_getElem? hd1)
    have htake : (hs.take (i + 1)).map lenI = (hs.take i).map lenI ++ [lenI d] := by rw [List.take_add_one, hd1, Option.toList_some, List.map_append, List.map_cons, List.map_nil]
    cases d with
    | null =>
      obtain ⟨a, rfl, NA⟩ := hd2.nu
      have e0 : (("NULL" : Str) == "NULL") = true := beq_self_eq_true _
      tb_look
      refine CompEnd.mk' S2 ⟨rfl, rfl, ?_⟩
      rw [htake]
      exact ints_app ha (.cons _ _ .nil)
    | vec kd its nm =>
      obtain ⟨a, il, n2, ys, av, t2, rfl, V, hl, hD, hN2⟩ := hd2
      have hlen := hD.length
      rw [Array.length_toList] at hlen
      have hz3 := hokd.2.1
      have e0 : (kd.str == ("NULL" : Str)) = false := by cases kd <;> rfl
      tb_look
      refine ⟨j_len (List.mem_append_right _ hl) S2 (by omega) ?_⟩
      refine CompEnd.mk' S2 ⟨rfl, rfl, ?_⟩
      rw [htake]
      refine ints_app ha ?_
      rw [show lenI (.vec kd its nm) = (ys.size : Int) by rw [hlen]; rfl]
      exact .cons _ _ .nil
  · rintro acc mu' nv' Ln k h tk ⟨rfl, rfl, ha⟩ hl' S2
    revert S2; (repeat (rename Sta _ _ _ _ _ _ => So; clear So)); intro S2
    rw [List.take_of_length_le (by omega)] at ha
    have S3 := S2.keep1
    have g1 : Gr nv' ((Ln, listOf acc.toArray k) :: nv') := Gr.cons _ (Gr.refl _)
    have hX1 := hX.gr g1
    have hLn : (Ln, listOf acc.toArray k) ∈ (Ln, listOf acc.toArray k) :: nv' := .head _
    generalize (Ln, listOf acc.toArray k) :: nv' = nvA at *
    tb_look
    refine ⟨(sp_simp w H xs n hs nav outer _ _ hX1.m hX1.a hok (by omega) hX1.n ho).grw (by decide) M S3 fun v' h' tk nv'' S4 g2 P => ?_⟩
    have hold : HoldIf := ⟨⟩
    tb_look
    rename_i S5
    refine Halt.mk ?_
    exact q _ _ _ xs n Ln acc.toArray k v' S5 (hX1.gr g2) (g2.list hLn) (by simpa using ha) P
end Mine
end
/-! N30 -/
section
namespace Mine
noncomputable def lawD10 : List Stmt := lawD9.tail
theorem clen_same {r : Int} (hr : r ≥ 1) : ∀ (hs : List HV) (s : Int), (s = -1 ∨ s = r) → (hs ≠ [] ∨ s = r) → (∀ h ∈ hs, lenI h = r) → clen s hs = r
  | [], s, _, h2, _ => by
    rcases h2 with h2 | h2
    · exact absurd rfl h2
    · exact h2
  | .null :: _, s, _, _, h3 => by
    have e : (-1 : Int) = r := h3 .null (.head _)
    omega
  | .vec k its nm :: hs, s, h1, _, h3 => by
    have e : (its.length : Int) = r := h3 _ (.head _)
    unfold clen
    rw [if_neg (by rintro ⟨a, b⟩; rcases h1 with h1 | h1 <;> omega), e]
    exact clen_same hr hs r (.inr rfl) (.inr rfl) fun h hh => h3 h (.tail _ hh)
theorem ints_dats (nv : Led) {vs : List Value} {ns : List Int} (h : IntsAre vs ns) : DatAll nv vs (ns.map Dat.int) := by
  induction h with
  | nil => exact .nil
  | cons i t _ ih => exact .cons (.int i t) ih
theorem ints_at : ∀ {vs : List Value} {ns : List Int}, IntsAre vs ns → ∀ {j : Nat} {k : Int}, ns[j]? = some k → ∃ t, vs[j]? = some (.int k t)
  | _, _, .nil, j, k, h => by simp at h
  | _, _, .cons i t r, 0, k, h => by simp at h; subst h; exact ⟨t, rfl⟩
  | _, _, .cons i t r, j + 1, k, h => by
    obtain ⟨u, hu⟩ := ints_at r (j := j) (k := k) (by simpa using h)
    exact ⟨u, by simpa using hu⟩
theorem dint_inj {a b : List Int} (h : a.map Dat.int = b.map Dat.int) : a = b := by
  induction a generalizing b with
  | nil => cases b with
    | nil => rfl
    | cons => cases h
  | cons x a ih => cases b with
    | nil => cases h
    | cons y b =>
      simp only [List.map_cons, List.cons.injEq, Dat.int.injEq] at h
      rw [h.1, ih h.2]
theorem lens_same {hs : List HV} {r : Int} : hs.map lenI = List.replicate hs.length r ↔ ∀ h ∈ hs, lenI h = r := by
  rw [List.eq_replicate_iff]
  simp
theorem ok_ints (ns : List Int) : ∀ d ∈ ns.map Dat.int, kqdOk 8 d = true := fun d h => by
  obtain ⟨i, _, rfl⟩ := List.mem_map.mp h
  rfl
theorem ok_strs {ns : List Str} (h : ∀ x ∈ ns, PyData.strOk x = true) : ∀ d ∈ ns.map Dat.str, kqdOk 8 d = true := fun d hd => by
  obtain ⟨x, hx, rfl⟩ := List.mem_map.mp hd
  exact h x hx
theorem lenI_of {h : HV} {r : Int} (hv : h.isV = true) (e : (h.its.length : Int) = r) : lenI h = r := by
  cases h with
  | null => cases hv
  | vec k its nm => exact e
theorem law_C (prog : Program) (w : World) (A : Around) (env : Env) (g : Heap) (s : Shared) (Q : Flow → Shared → Prop) (l H Ln : Addr) (nv : Led) (xs lv : Array Value) (n ln : Nat) (nav told : Value) (hs : List HV) (outer : Option (List Str)) (tc : Tok) (sh lp mn : Option Value) (hsc : env.scope = lawF.sc) (G : EnvG env) (M : Am (KK w) 20 A env g)
    (S : Sta g env.locals s.heap (mV lawVr [some (.ref l), some (.int (hs.length : Nat) tc), sh, some (.ref H), lp, mn, some nav, some (.ref Ln), some told, none, none, none, none, none, none, none, none]) [] nv)
    (hX : HeldX w nv H xs n nav hs outer) (hLn : (Ln, listOf lv ln) ∈ nv) (hLi : IntsAre lv.toList (hs.map lenI)) (hT : SimpOut w nv told xs.toList hs outer)
    (q1 : LawQ g env.locals s Q)
    (q2 : clen (-1) hs ≥ 1 → ∀ h' tk, Sta g env.locals h' (mV lawVr [some (.ref l), some (.int (hs.length : Nat) tc), sh, some (.ref H), lp, mn, some nav, some (.ref Ln), some told, none, none, none, none, none, none, none, none]) [] nv → wp prog w A (execs lawD10 env) Q { s with heap := h', toks := tk }) :
    wp prog w A (execs lawD9 env) Q s := by
  have l_count : IsLoc env lawVr "count" 1 := .of hsc rfl rfl
  have l_held : IsLoc env lawVr "held" 3 := .of hsc rfl rfl
  have l_outer : IsLoc env lawVr "outer" 6 := .of hsc rfl rfl
  have l_lengths : IsLoc env lawVr "lengths" 7 := .of hsc rfl rfl
  have l_told : IsLoc env lawVr "told" 8 := .of hsc rfl rfl
  have l_spot : IsLoc env lawVr "spot" 9 := .of hsc rfl rfl
  have gl_len : IsGlb env "len" := .of hsc rfl rfl
  have c_len := b_len w
  have gl_law_names : IsGlb env "_law_names" := .of hsc rfl rfl
  have c_law_names := c_law_names w
  have gl_range : IsGlb env "range" := .of hsc rfl rfl
  have c_range := b_range w
  clear hsc
  have hxl := hX.len
  have hz := hX.z
  have hll := hLi.length
  rw [List.length_map] at hll
  dsimp only [lawD9, lawD7, lawF, List.tail_cons]
  have hold : HoldIf := ⟨⟩
  tb_look
  clear hold
  refine ⟨x_ifB (decide (¬ clen (-1) hs ≥ 1)) S ?_ ?_ ?_⟩
  · tb_look
    · rename_i e1
      have e1' : hs = [] := List.eq_nil_of_length_eq_zero (by simpa using e1)
      subst e1'
      exact ⟨rfl, _, _, rfl, S⟩
    · rename_i e1
      have e1' : hs ≠ [] := by rintro rfl; exact absurd e1 (by simp)
      have h0 : 0 < hs.length := List.length_pos_iff.mpr e1'
      obtain ⟨h0v, hh0⟩ : ∃ h, hs[0]? = some h := ⟨_, List.getElem?_eq_getElem h0⟩
      have hm0 : h0v ∈ hs := List.mem_of_getElem? hh0
      obtain ⟨t0, ht0⟩ := ints_at hLi (j := 0) (k := lenI h0v) (by rw [List.getElem?_map, hh0]; rfl)
      refine ⟨j_item (List.mem_append_right _ hLn) S (by decide) (by decide) ht0 ?_⟩
      have hcl : clen (-1) hs ≥ 1 → clen (-1) hs = lenI h0v := fun hc => by
        have := (clen_pos (hs := hs) (s := -1) rfl (by omega)).1 h0v hm0
        exact (lenI_of this.1 this.2).symm
      tb_look
      · rename_i e2
        have e2' := of_decide_eq_true e2
        refine ⟨?_, _, _, rfl, S⟩
        have : ¬ clen (-1) hs ≥ 1 := fun hc => by have := hcl hc; omega
        simp [this]
      · rename_i e2
        have e2' := of_decide_eq_false e2
        refine ⟨j_item (List.mem_append_right _ hLn) S (by decide) (by decide) ht0 ?_⟩
        tb_look
        refine ⟨j_new S (by simp [sizeLine_eq]) fun D h' S1 => ?_⟩
        tb_look
        refine ⟨j_mul1 (.head _) S1 (by omega) fun D2 h' S2 => ?_⟩
        tb_look
        have hrep : IntsAre (List.replicate hs.length (Value.int (lenI h0v) t0)) (List.replicate hs.length (lenI h0v)) := by
          generalize hs.length = m
          induction m with
          | zero => exact .nil
          | succ m ih => exact .cons _ _ ih
        have hD2 : ∀ nv', DatAll nv' (List.replicate hs.length (Value.int (lenI h0v) t0)).toArray.toList ((List.replicate hs.length (lenI h0v)).map Dat.int) := fun nv' => by simpa using ints_dats nv' hrep
        refine ⟨j_neD (List.mem_append_right _ hLn) (ints_dats _ hLi) (.head _) (hD2 _) (ok_ints _) (ok_ints _) M S2 fun b hb => ?_⟩
        have S3 := S2.drop.drop
        have hfin : b = decide (¬ clen (-1) hs ≥ 1) := by
          by_cases hc : clen (-1) hs ≥ 1
          · rw [decide_eq_false (by simpa using hc)]
            refine Bool.eq_false_iff.mpr fun hbt => hb.mp hbt ?_
            rw [(lens_same (r := lenI h0v)).mpr]
            intro h hh
            have := (clen_pos (hs := hs) (s := -1) rfl (by omega)).1 h hh
            rw [lenI_of this.1 this.2, hcl hc]
          · rw [decide_eq_true hc]
            refine hb.mpr fun he => hc ?_
            have := clen_same (r := lenI h0v) (by omega) hs (-1) (.inl rfl) (.inl e1') (lens_same.mp (dint_inj he))
            omega
        tb_look
        all_goals (rename_i eb; exact ⟨by rw [← hfin, eb], _, _, rfl, S3⟩)
  · intro hb h' tk S2
    have hc := of_decide_eq_true hb
    unfold SimpOut at hT
    rw [if_neg (by omega), if_neg (by omega)] at hT
    obtain ⟨T, il, c0, tt, av, rfl, V, hil, hNm⟩ := hT
    have e0 : (("list" : Str) != "list") = false := by decide
    have hsz : xs.toList.toArray.size = hs.length := by simpa using hxl
    tb_look
    refine ⟨j_len (List.mem_append_right _ hil) S2 (by omega) ?_⟩
    rw [hsz]
    have e1 : ((hs.length : Int) != (hs.length : Int)) = false := by simp
    tb_look
    refine ⟨(sp_lnames w T _ _ av outer _ _ V hNm).same (by decide) M S2 fun v h' tk S3 hv => ?_⟩
    tb_look
    have key : ∀ {Q' : Value → Shared → Prop} {s' : Shared}, Sta g env.locals s'.heap (mV lawVr [some (.ref l), some (.int (hs.length : Nat) tc), sh, some (.ref H), lp, mn, some nav, some (.ref Ln), some (.ref T), none, none, none, none, none, none, none, none]) [] nv → Q' (.bool false) s' → wp prog w A (compareOp .NotEq v nav) Q' s' := by
      intro Q' s' S' q'
      have hn := hX.n
      cases outer with
      | none =>
        cases hv
        cases hn
        exact PySem.EqNone.ne_none_none q'
      | some ons =>
        obtain ⟨la, na, xa, rfl, ha1, ha2⟩ := hv
        obtain ⟨lb, nb, xb, rfl, hb1, hb2⟩ := hn
        have ho := fun x hx => ((hX.o ons rfl).2 x hx).2
        refine j_neD (List.mem_append_right _ ha1) (strs_dat ha2) (List.mem_append_right _ hb1) (strs_dat hb2) (ok_strs ho) (ok_strs ho) M S' fun b hb => ?_
        have : b = false := Bool.eq_false_iff.mpr fun e => hb.mp e rfl
        subst this
        exact q'
    refine ⟨key S3 ?_⟩
    tb_look
    refine ⟨x_forR (fun i vs mu2 nv2 => ∃ spv, vs = [some (.ref l), some (.int (hs.length : Nat) tc), sh, some (.ref H), lp, mn, some nav, some (.ref Ln), some (.ref T), spv, none, none, none, none, none, none, none] ∧ mu2 = [] ∧ nv2 = nv) l_spot G M (by rintro i vs mu2 nv2 ⟨_, rfl, _⟩; rfl) ?_⟩
    tb_look
    refine ⟨j_range S3 fun rg h' tk t u v' S4 hrg => ?_⟩
    refine ⟨rg, hs.length, t, u, v', _, _, _, rfl, hrg, range_small (by omega), S4, ⟨_, rfl, rfl, rfl⟩, ?_, ?_⟩
    · rintro I i t2 vs mu2 nv2 io h tk QL hi ⟨spv, rfl, rfl, rfl⟩ S5
      revert S5; (repeat (rename Sta _ _ _ _ _ _ => So; clear So)); intro S5
      obtain ⟨xv, hxv⟩ : ∃ v, xs.toList[i]? = some v := ⟨_, List.getElem?_eq_getElem (by rw [Array.length_toList]; omega)⟩
      obtain ⟨d, hd1, hd2⟩ := hX.a.get hxv
      have hH := hX.m
      have hx1 : xs.toList.toArray.toList[((i : Nat) : Int).toNat]? = some xv := by simpa using hxv
      tb_look
      refine ⟨j_itemC (List.mem_append_right _ hil) S5 (by omega) (by omega) hx1 ?_⟩
      cases d with
      | null =>
        obtain ⟨a, rfl, NA⟩ := hd2.nu
        have e2 : (("NULL" : Str) != "NULL") = false := by decide
        tb_look
        refine ⟨j_item (List.mem_append_right _ hH) (by assumption) (by omega) (by omega) hxv ?_⟩
        tb_look
        refine ⟨j_item (List.mem_append_right _ hH) (by assumption) (by omega) (by omega) hxv ?_⟩
        tb_look
        exact ForQ.next S5 ⟨_, rfl, rfl, rfl⟩
      | vec k its nm =>
        obtain ⟨a, il2, n2, ys, av2, t4, rfl, V2, hl2, hD2, hN2⟩ := hd2
        have e2 : (k.str != k.str) = false := by simp
        have e3 : (k.str != ("NULL" : Str)) = true := by cases k <;> decide
        tb_look
        refine ⟨j_item (List.mem_append_right _ hH) (by assumption) (by omega) (by omega) hxv ?_⟩
        tb_look
        refine ⟨j_item (List.mem_append_right _ hH) (by assumption) (by omega) (by omega) hxv ?_⟩
        tb_look
        refine ⟨j_itemC (List.mem_append_right _ hil) (by assumption) (by omega) (by omega) hx1 ?_⟩
        tb_look
        refine ⟨j_item (List.mem_append_right _ hH) (by assumption) (by omega) (by omega) hxv ?_⟩
        tb_look
        refine ⟨j_neSelf (List.mem_append_right _ hl2) (by assumption) M ?_⟩
        tb_look
        exact ForQ.next S5 ⟨_, rfl, rfl, rfl⟩
    · rintro vs mu2 nv2 h tk ⟨spv, rfl, rfl, rfl⟩ S5
      revert S5; (repeat (rename Sta _ _ _ _ _ _ => So; clear So)); intro S5
      tb_look
      exact q1 _ _ _ _ _ _ S5 rfl
  · intro hb h' tk S2
    have hc : clen (-1) hs ≥ 1 := by have := of_decide_eq_false hb; omega
    exact x_nil (x_next (q2 hc _ _ S2))
end Mine
end
/-! N31 -/
section
namespace Mine
theorem topK_mem {ks : List Kd} (h : ks ≠ []) : topK ks ∈ ks := by
  have key : ∀ (ks : List Kd) (a : Kd), ks.foldl (fun a k => if a.rank ≤ k.rank then k else a) a ∈ a :: ks := by
    intro ks
    induction ks with
    | nil => intro a; exact .head _
    | cons k ks ih =>
      intro a
      rw [List.foldl_cons]
      have := ih (if a.rank ≤ k.rank then k else a)
      rcases List.mem_cons.mp this with e | e
      · rw [e]
        split
        · exact .tail _ (.head _)
        · exact .head _
      · exact .tail _ (.tail _ e)
  cases ks with
  | nil => exact absurd rfl h
  | cons k ks =>
    unfold topK
    rw [List.foldl_cons, if_pos (show Kd.lg.rank ≤ k.rank from Nat.zero_le _)]
    exact key ks k
theorem kd_at (k : Kd) (a b c d e : Tok) : ∃ t : Tok, ([.str Kd.lg.str a, .str Kd.ig.str b, .str Kd.db.str c, .str Kd.ch.str d, .str Kd.ls.str e] : List Value)[((k.rank : Nat) : Int).toNat]? = some (.str k.str t) := by
  cases k
  · exact ⟨a, rfl⟩
  · exact ⟨b, rfl⟩
  · exact ⟨c, rfl⟩
  · exact ⟨d, rfl⟩
  · exact ⟨e, rfl⟩
noncomputable def kstrs : List Str := [Kd.lg.str, Kd.ig.str, Kd.db.str, Kd.ch.str, Kd.ls.str]
theorem kstrs_at (k : Kd) : kstrs[k.rank]? = some k.str ∧ ∀ i < k.rank, kstrs[i]? ≠ some k.str := by cases k <;> exact ⟨by decide, by decide⟩
theorem shaped_cv {k to : Kd} {d : Dt} (ho : ItOk k d) (hr : k.rank ≤ to.rank) : Shaped to (cv k to d) := by
  by_cases hkt : k = to
  · subst hkt
    rw [cv_same]
    refine ⟨?_, fun h => item_atom h ho⟩
    rintro rfl
    cases d with
    | atom d => exact ho.elim
    | one k' e => exact ⟨k', e, rfl⟩
  · have hkl : k ≠ .ls := by rintro rfl; cases to <;> first | exact hkt rfl | (simp [Kd.rank] at hr)
    obtain ⟨a, rfl⟩ := item_atom hkl ho
    rw [cv_atom hkt]
    refine ⟨fun h => ⟨k, a, by rw [if_pos h]⟩, fun h => ⟨cvA k to a, by rw [if_neg h]⟩⟩
theorem str_ints : ((List.range 41).all fun j => PyData.strOk (toString ((j : Int) - 20))) = true := by decide +kernel
theorem str_int {i : Int} (h : i.natAbs ≤ 20) : PyData.strOk (toString i) = true := by
  have := List.all_eq_true.mp str_ints (i + 20).toNat (List.mem_range.mpr (by omega))
  rwa [show (((i + 20).toNat : Nat) : Int) - 20 = i by omega] at this
theorem dbs_strs : (dbs.all fun p => PyData.strOk (dbT p.1 p.2)) = true := by decide +kernel
theorem kd_strOk (k : Kd) : PyData.strOk k.str = true := by cases k <;> decide +kernel
theorem kq_int (n : Nat) (i : Int) : kqdOk n (.int i) = true := by cases n <;> rfl
theorem kq_none (n : Nat) : kqdOk n .none = true := by cases n <;> rfl
theorem kq_str (n : Nat) {x : Str} (h : PyData.strOk x = true) : kqdOk n (.str x) = true := by cases n <;> exact h
theorem ok_tup {a b : Dat} {n : Nat} (h1 : kqdOk n a = true) (h2 : kqdOk n b = true) : kqdOk (n + 1) (.tuple [a, b]) = true := by
  show ([a, b].all (kqdOk n)) = true
  simp [h1, h2]
theorem ok_atom {k : Kd} {a : Dat} (n : Nat) (ho : ItOk k (.atom a)) : kqdOk (n + 1) a = true := by
  rcases item_atoms ho with rfl | ⟨_, i, rfl, _⟩ | ⟨_, n, m, _, rfl⟩ | ⟨_, x, rfl, hx⟩
  · exact kq_none _
  · exact kq_int _ _
  · exact ok_tup (kq_int _ _) (kq_int _ _)
  · exact kq_str _ hx.2
theorem ok_cv {k to : Kd} {d : Dt} (ho : ItOk k d) (hr : k.rank ≤ to.rank) : kqdOk 8 (shD (cv k to d)) = true := by
  by_cases hkt : k = to
  · subst hkt
    rw [cv_same]
    cases d with
    | atom d => exact ok_atom 7 ho
    | one k' e =>
      cases k <;> cases k' <;> first | exact ho.elim | skip
      obtain ⟨i, rfl, _⟩ := ho
      exact ok_tup (kq_str _ (kd_strOk .ig)) (kq_int _ _)
  · have hkl : k ≠ .ls := by rintro rfl; cases to <;> first | exact hkt rfl | (simp [Kd.rank] at hr)
    obtain ⟨a, rfl⟩ := item_atom hkl ho
    rw [cv_atom hkt]
    by_cases htl : to = .ls
    · rw [if_pos htl]
      exact ok_tup (kq_str _ (kd_strOk k)) (ok_atom 6 ho)
    · rw [if_neg htl]
      show kqdOk 8 (cvA k to a) = true
      rcases item_atoms ho with rfl | ⟨hk2, i, rfl, hi, _⟩ | ⟨rfl, n, m, hnm, rfl⟩ | ⟨rfl, x, rfl, hx⟩
      · have : cvA k to .none = .none := by cases k <;> cases to <;> rfl
        rw [this]; rfl
      · cases to with
        | ls => exact absurd rfl htl
        | lg => cases k <;> first | exact absurd rfl hkt | (simp [Kd.rank] at hr)
        | ig =>
          have : cvA k .ig (.int i) = .int i := by cases k <;> rfl
          rw [this]; rfl
        | db =>
          have : cvA k .db (.int i) = .tuple [.int i, .int 1] := by cases k <;> rfl
          rw [this]; exact ok_tup (kq_int _ _) (kq_int _ _)
        | ch =>
          have : cvA k .ch (.int i) = .str (if k = .lg then (if i = 1 then "TRUE" else "FALSE") else toString i) := by cases k <;> rfl
          rw [this]
          refine kq_str _ ?_
          split
          · split <;> decide +kernel
          · exact str_int hi
      · have hto : to = .ch := by cases to <;> first | rfl | exact absurd rfl hkt | exact absurd rfl htl | (simp [Kd.rank] at hr)
        subst hto
        have : cvA .db .ch (.tuple [.int n, .int m]) = .str (dbT n m) := rfl
        rw [this]
        exact kq_str _ (by have := List.all_eq_true.mp dbs_strs _ hnm; simpa using this)
      · cases to <;> first | exact absurd rfl hkt | exact absurd rfl htl | (simp [Kd.rank] at hr)
/-- shown, as the law has it -/
theorem sp_shas (w : World) (k to : Kd) (v v' : Value) (d : Dt) (t2 : Tok) (mu nv : Led) (hv : DtIn nv v d) (ho : ItOk k d) (hr : k.rank ≤ to.rank) (h1 : k = to → v' = v) (h2 : k ≠ to → DatIn nv v' (shD (cv k to d))) :
    Spec (KK w) w 1 (.ref 568) [.str to.str t2, v'] mu nv (Grw mu nv fun v nv' => DatIn nv' v (shD (cv k to d))) := by
  by_cases hkt : k = to
  · subst hkt
    have e := h1 rfl
    subst e
    have hs := shaped_cv (to := k) ho (Nat.le_refl _)
    rw [cv_same] at hs ⊢
    exact sp_lshown w k v' d t2 mu nv hv hs.1 hs.2
  · have hd := h2 hkt
    by_cases htl : to = .ls
    · subst htl
      obtain ⟨k', e, he⟩ := (shaped_cv ho hr).1 rfl
      rw [he] at hd ⊢
      exact (sp_lshown2 w v' _ t2 mu nv hd).mono fun x mu' nv' ⟨a, b, c⟩ => by subst a b c; exact ⟨rfl, Gr.refl _, hd⟩
    · exact (sp_lshown1 w to htl v' t2 mu nv).mono fun x mu' nv' ⟨a, b, c⟩ => by subst a b c; exact ⟨rfl, Gr.refl _, hd⟩
theorem allIts_mem {to : Kd} {hs : List HV} {d' : Dt} (h : d' ∈ allIts to hs) : ∃ h ∈ hs, ∃ d ∈ h.its, d' = cv h.kd to d := by
  obtain ⟨v, hh, hd⟩ := List.mem_flatMap.mp h
  obtain ⟨d, hd1, e⟩ := List.mem_map.mp hd
  exact ⟨v, hh, d, hd1, e.symm⟩
theorem allIts_len (to : Kd) : ∀ {hs : List HV}, (∀ h ∈ hs, HOk h) → (allIts to hs).length ≤ 3 * hs.length
  | [], _ => by simp [allIts]
  | h :: hs, ho => by
    have h1 := allIts_len to (hs := hs) fun x hx => ho x (.tail _ hx)
    have h2 := (ho h (.head _)).vec.2.1
    unfold allIts at h1 ⊢
    rw [List.flatMap_cons, List.length_append, List.length_map, List.length_cons]
    omega
end Mine
end
/-! N32 -/
section
namespace Mine
noncomputable def lawD15 : List Stmt := lawD10.tail.tail.tail.tail.tail
/-- a told Vector -/
structure ToldV (w : World) (nv : Led) (T : Addr) (to : Kd) (av : Value) (its : List Dt) : Prop where
  ex : ∃ il n xs t, VecAt nv T (.str to.str t) (.ref il) av ∧ (il, listOf xs n) ∈ nv ∧ DtAll nv xs.toList its
theorem ToldV.gr {w : World} {nv nv' : Led} (g : Gr nv nv') {T : Addr} {to : Kd} {av : Value} {its : List Dt} (h : ToldV w nv T to av its) : ToldV w nv' T to av its := by
  obtain ⟨il, n, xs, t, V, hl, hD⟩ := h.ex
  exact ⟨il, n, xs, t, V.gr g, g.list hl, hD.gr g⟩
theorem law_D (prog : Program) (w : World) (A : Around) (env : Env) (g : Heap) (s : Shared) (Q : Flow → Shared → Prop) (l H Ln T : Addr) (nv : Led) (xs : Array Value) (n : Nat) (nav av : Value) (hs : List HV) (outer : Option (List Str)) (tc : Tok) (sh lp mn : Option Value) (to : Kd) (hto : topK (hs.map HV.kd) = to) (hsc : env.scope = lawF.sc) (G : EnvG env) (M : Am (KK w) 20 A env g)
    (S : Sta g env.locals s.heap (mV lawVr [some (.ref l), some (.int (hs.length : Nat) tc), sh, some (.ref H), lp, mn, some nav, some (.ref Ln), some (.ref T), none, none, none, none, none, none, none, none]) [] nv)
    (hX : HeldX w nv H xs n nav hs outer) (hne : hs ≠ []) (hv : ∀ h ∈ hs, h.isV = true) (hT : ToldV w nv T to av (allIts to hs))
    (q : ∀ (h' : Heap) (tk : Nat) (nv' : Led) (t1 : Tok) (Du : Addr) (vv it : Option Value), Gr nv nv' → Sta g env.locals h' (mV lawVr [some (.ref l), some (.int (hs.length : Nat) tc), sh, some (.ref H), lp, mn, some nav, some (.ref Ln), some (.ref T), none, some (.str to.str t1), some (.ref Du), vv, it, none, none, none]) [] nv' → wp prog w A (execs lawD15 env) Q { s with heap := h', toks := tk }) :
    wp prog w A (execs lawD10 env) Q s := by
  have l_held : IsLoc env lawVr "held" 3 := .of hsc rfl rfl
  have l_told : IsLoc env lawVr "told" 8 := .of hsc rfl rfl
  have l_aim : IsLoc env lawVr "aim" 10 := .of hsc rfl rfl
  have l_due : IsLoc env lawVr "due" 11 := .of hsc rfl rfl
  have l_v : IsLoc env lawVr "v" 12 := .of hsc rfl rfl
  have l_item : IsLoc env lawVr "item" 13 := .of hsc rfl rfl
  have gl_max : IsGlb env "max" := .of hsc rfl rfl
  have c_max := b_max w
  have gl_law_kinds : IsGlb env "_law_kinds" := .of hsc rfl rfl
  have c_law_kinds := c_law_kinds w
  have gl_law_shown : IsGlb env "_law_shown" := .of hsc rfl rfl
  have c_law_shown := c_law_shown w
  have gl_law_as : IsGlb env "_law_as" := .of hsc rfl rfl
  have c_law_as := c_law_as w
  have gl_law_told : IsGlb env "_law_told" := .of hsc rfl rfl
  have c_law_told := c_law_told w
  clear hsc
  have hxl := hX.len
  have hz := hX.z
  have hm := hX.m
  have hrank : ∀ h ∈ hs, h.kd.rank ≤ to.rank := fun h hh => by rw [← hto]; exact topK_ge (List.mem_map.mpr ⟨h, hh, rfl⟩)
  dsimp only [lawD10, lawD9, lawD7, lawF, List.tail_cons]
  tb_look
  refine ⟨e_comp (fun i acc mu' nv' => mu' = [] ∧ Gr nv nv' ∧ IntsAre acc ((hs.take i).map fun h => ((h.kd.rank : Nat) : Int))) M S (clos_none rfl) (by decide) rfl (by decide) rfl ?_⟩
  tb_look
  refine ⟨_, _, _, _, .list rfl (S.mem (List.mem_append_right _ hm)) (.inr fun i acc mu' nv' _ h => ?_), S, by rw [sizeLine_eq]; omega, ⟨rfl, Gr.refl _, .nil⟩, CompTurn.plain ?_, ?_⟩
  · obtain ⟨rfl, g1, _⟩ := h
    exact List.mem_append_right _ (g1.list hm)
  · rintro I i v acc mu' nv' C oC D k io' env' h tk QL hi hv' ⟨rfl, g1, ha⟩ _ ce hk hin S2
    revert S2; (repeat (rename Sta _ _ _ _ _ _ => So; clear So)); intro S2
    have G' := ce.g G hk
    have cv0 := ce.var hin (x := "v") rfl (by decide)
    have gl_k : IsGlb env' "_law_kinds" := ce.glb rfl (by decide)
    rw [← Array.getElem?_toList] at hv'
    obtain ⟨d, hd1, hd2⟩ := hX.a.get hv'
    have hmem := List.mem_of_getElem? hd1
    obtain ⟨a, il, n2, ys, av2, t2, rfl, V, hl, hD, hN2⟩ := hd2.vec (hv d hmem)
    tb_look
    refine ⟨(sp_lkinds w _ _).grw (by decide) M S2 fun v h' tk nv5 S16 g7 P => ?_⟩
    obtain ⟨D2, a1, a2, a3, a4, a5, kk, rfl, hD2⟩ := P
    have V' := V.gr (g1.trans g7)
    tb_look
    have hst : StrsAre (#[.str Kd.lg.str a1, .str Kd.ig.str a2, .str Kd.db.str a3, .str Kd.ch.str a4, .str Kd.ls.str a5] : Array Value).toList kstrs := .cons _ _ (.cons _ _ (.cons _ _ (.cons _ _ (.cons _ _ .nil))))
    refine ⟨j_indexL (List.mem_append_right _ hD2) S16 hst d.kd.rank (kstrs_at d.kd).1 (kstrs_at d.kd).2 (by simp) ?_⟩
    refine CompEnd.mk' S16 ⟨rfl, g1.trans g7, ?_⟩
    rw [List.take_add_one, hd1, Option.toList_some, List.map_append, List.map_cons, List.map_nil]
    exact ints_app ha (.cons _ _ .nil)
  · rintro acc mu' nv' D k h tk ⟨rfl, g1, ha⟩ hl' S2
    revert S2; (repeat (rename Sta _ _ _ _ _ _ => So; clear So)); intro S2
    rw [List.take_of_length_le (by omega)] at ha
    tb_look
    refine ⟨j_maxL (.head _) M S2 (by simpa using ha) (by simpa using List.length_pos_iff.mpr hne) fun h' X t3 tk S3 hX1 hX2 => ?_⟩
    have S4 := S3.drop
    have hXr : X = ((to.rank : Nat) : Int) := by
      obtain ⟨h1, hh1, rfl⟩ := List.mem_map.mp hX1
      have h2 := hrank h1 hh1
      obtain ⟨h3, hh3, e3⟩ := List.mem_map.mp (topK_mem (ks := hs.map HV.kd) (by simpa using hne))
      have h4 := hX2 _ (List.mem_map.mpr ⟨h3, hh3, rfl⟩)
      rw [e3, hto] at h4
      omega
    subst hXr
    tb_look
    refine ⟨(sp_lkinds w _ _).grw (by decide) M (by assumption) fun v h' tk nv5 S5 g2 P => ?_⟩
    obtain ⟨D2, a1, a2, a3, a4, a5, kk, rfl, hD2⟩ := P
    obtain ⟨t4, ht4⟩ := kd_at to a1 a2 a3 a4 a5
    tb_look
    refine ⟨j_itemC (List.mem_append_right _ hD2) S5 (by omega) (by have : to.rank ≤ 4 := by cases to <;> decide
                                                                    omega) ht4 ?_⟩
    tb_look
    refine ⟨j_new (by assumption) (by simp [sizeLine_eq]) fun Du h' S6 => ?_⟩
    tb_look
    rename_i h8 S8
    have gA := g1.trans g2
    have hXA := hX.gr gA
    refine ⟨x_forL (fun i vs mu2 nv2 => ∃ acc an vv it, vs = [some (.ref l), some (.int (hs.length : Nat) tc), sh, some (.ref H), lp, mn, some nav, some (.ref Ln), some (.ref T), none, some (.str to.str t4), some (.ref Du), vv, it, none, none, none] ∧ mu2 = [(Du, listOf acc.toArray an)] ∧ Gr nv5 nv2 ∧ DatAll nv2 acc ((allIts to (hs.take i)).map shD) ∧ acc.length ≤ 3 * i) l_v G M (by rintro i vs mu2 nv2 ⟨_, _, _, _, rfl, _⟩; rfl) ?_⟩
    tb_look
    refine ⟨H, xs, n, _, _, _, rfl, S8, ⟨[], 0, _, _, rfl, rfl, Gr.refl _, .nil, by simp⟩, S8.mem (List.mem_append_right _ hXA.m), .inr ?_, ?_, ?_⟩
    · rintro i vs mu2 nv2 _ ⟨_, _, _, _, rfl, rfl, g3, _⟩
      exact List.mem_append_right _ (g3.list hXA.m)
    · rintro I i v vs mu2 nv2 io h tk QL hi hv' ⟨acc, an, vv, it, rfl, rfl, g3, hacc, hal⟩ S9
      revert S9; (repeat (rename Sta _ _ _ _ _ _ => So; clear So)); intro S9
      rw [← Array.getElem?_toList] at hv'
      obtain ⟨d, hd1, hd2⟩ := hXA.a.get hv'
      have hmem := List.mem_of_getElem? hd1
      have hok := (hX.ok d hmem).vec
      obtain ⟨a, il, n2, ys, av2, t2, rfl, V, hl, hD, hN2⟩ := (hd2.vec (hv d hmem)).gr g3
      have hlen := hD.length
      rw [Array.length_toList] at hlen
      have hall : allIts to (hs.take (i + 1)) = allIts to (hs.take i) ++ d.its.map (cv d.kd to) := by
        unfold allIts
        rw [List.take_add_one, hd1, Option.toList_some, List.flatMap_append]
        simp
      have hi5 : i < 5 := by omega
      tb_look
      refine ⟨x_forL (fun i2 vs mu3 nv3 => ∃ acc2 an2 it2, vs = [some (.ref l), some (.int (hs.length : Nat) tc), sh, some (.ref H), lp, mn, some nav, some (.ref Ln), some (.ref T), none, some (.str to.str t4), some (.ref Du), some (.ref a), it2, none, none, none] ∧ mu3 = [(I, io), (Du, listOf acc2.toArray an2)] ∧ Gr nv2 nv3 ∧ DatAll nv3 acc2 ((allIts to (hs.take i) ++ (d.its.take i2).map (cv d.kd to)).map shD) ∧ acc2.length = acc.length + i2) l_item G M (by rintro i vs mu2 nv2 ⟨_, _, _, rfl, _⟩; rfl) ?_⟩
      tb_look
      refine ⟨il, ys, n2, _, _, _, rfl, S9, ⟨acc, an, _, rfl, rfl, Gr.refl _, by simpa using hacc, rfl⟩, S9.mem (List.mem_append_right _ hl), .inr ?_, ?_, ?_⟩
      · rintro i vs mu3 nv3 _ ⟨_, _, _, rfl, rfl, g4, _⟩
        exact List.mem_append_right _ (g4.list hl)
      · rintro I2 i2 v2 vs mu3 nv3 io2 h tk QL hi2 hv2 ⟨acc2, an2, it2, rfl, rfl, g4, hacc2, hal2⟩ S10
        revert S10; (repeat (rename Sta _ _ _ _ _ _ => So; clear So)); intro S10
        rw [← Array.getElem?_toList] at hv2
        obtain ⟨e, he1, he2⟩ := hD.get hv2
        have hoe := hok.1 e (List.mem_of_getElem? he1)
        have V' := V.gr g4
        tb_look
        refine ⟨(sp_las w d.kd to v2 e _ _ _ _ (he2.gr g4) hoe (hrank d hmem)).grw (by decide) M S10 fun v3 h' tk nv4 S11 g5 P => ?_⟩
        obtain ⟨hp1, hp2⟩ := P
        tb_look
        refine ⟨(sp_shas w d.kd to v2 v3 e _ _ _ (he2.gr (g4.trans g5)) hoe (hrank d hmem) hp1 hp2).grw (by decide) M S11 fun v4 h' tk nv5 S12 g6 hd4 => ?_⟩
        tb_look
        refine ⟨j_append (Sta.pull [_, _] S12) (by rw [sizeLine_eq]; have := hok.2.1; omega) fun n' h' S13 => ?_⟩
        tb_look
        refine ForQ.next (Sta.unpull [_, _] S13) ⟨_, _, _, rfl, rfl, (g4.trans g5).trans g6, ?_, by simp; omega⟩
        rw [List.take_add_one, he1, Option.toList_some, List.map_append (f := cv d.kd to), ← List.append_assoc, List.map_append (f := shD)]
        exact dats_app (DatAll.gr (g5.trans g6) hacc2) (.cons hd4 .nil)
      · rintro vs mu3 nv3 h tk ⟨acc2, an2, it2, rfl, rfl, g4, hacc2, hal2⟩ S10
        revert S10; (repeat (rename Sta _ _ _ _ _ _ => So; clear So)); intro S10
        rw [List.take_of_length_le (l := d.its) (by omega)] at hacc2
        tb_look
        exact ForQ.next S10 ⟨acc2, an2, _, _, rfl, rfl, g3.trans g4, by rw [hall]; exact hacc2, by have := hok.2.1; omega⟩
    · rintro vs mu2 nv2 h tk ⟨acc, an, vv, it, rfl, rfl, g3, hacc, hal⟩ S9
      revert S9; (repeat (rename Sta _ _ _ _ _ _ => So; clear So)); intro S9
      rw [List.take_of_length_le (by omega)] at hacc
      have gB := gA.trans g3
      obtain ⟨il, n2, ys, tt, V, hl, hD⟩ := (hT.gr gB).ex
      have e0 : (to.str != to.str) = false := by simp
      tb_look
      refine ⟨((sp_ltold w T il ys n2 to tt av _ _ _ V hl hD (fun d hd => ?_) ?_).less (by decide)) _ _ _ _ _ _ _ M S9 fun v h' tk mu' nv6 S10 P => ?_⟩
      · obtain ⟨x, hx, e, he, rfl⟩ := allIts_mem hd
        exact shaped_cv ((hX.ok x hx).vec.1 e he) (hrank x hx)
      · have := allIts_len to hX.ok; omega
      obtain ⟨rfl, g4, D3, k3, zs, rfl, hD3, hz3⟩ := P
      tb_look
      have hko : ∀ x ∈ (allIts to hs).map shD, kqdOk 8 x = true := fun x hx => by
        obtain ⟨y, hy, rfl⟩ := List.mem_map.mp hx
        obtain ⟨z, hz1, e, he, rfl⟩ := allIts_mem hy
        exact ok_cv ((hX.ok z hz1).vec.1 e he) (hrank z hz1)
      refine ⟨j_neD (List.mem_append_right _ hD3) (hz3.mono fun p hp => List.mem_append_right _ hp) (List.mem_append_left _ (.head _)) (by simpa using (DatAll.gr g4 hacc).mono fun p hp => List.Mem.tail _ hp) hko hko M S10 fun b hb => ?_⟩
      have : b = false := Bool.eq_false_iff.mpr fun e => hb.mp e rfl
      subst this
      tb_look
      exact ⟨q _ _ _ t4 Du vv it ((gB.trans g4).trans (Gr.cons _ (Gr.refl _))) S10.keep1⟩
end Mine
end
/-! N33 -/
section
namespace Mine
noncomputable def lawD16 : List Stmt := lawD15.tail
noncomputable def nmD : Option (List Str) → Dat
  | none => .none
  | some ns => .list (ns.map Dat.str)
theorem nmArg_dat {nv : Led} {v : Value} : ∀ {o : Option (List Str)}, NmArg nv v o → DatIn nv v (nmD o)
  | none, h => by cases h; exact .none
  | some ns, ⟨il, n, xs, e, h1, h2⟩ => by
    subst e
    have := strs_dat (nv := nv) h2
    rw [show xs = xs.toList.toArray by simp] at h1
    exact .list h1 this
theorem dat_nmArg {nv : Led} {v : Value} : ∀ {o : Option (List Str)}, DatIn nv v (nmD o) → NmArg nv v o
  | none, h => by cases h; rfl
  | some ns, h => by
    cases h with
    | list h r => exact ⟨_, _, _, rfl, h, by simpa using dat_strs r⟩
theorem dats_get {nv : Led} : ∀ {vs : List Value} {ds : List Dat}, DatAll nv vs ds → ∀ {i : Nat} {d : Dat}, ds[i]? = some d → ∃ v, vs[i]? = some v ∧ DatIn nv v d
  | _, _, .nil, i, d, h => by simp at h
  | _, _, .cons (v := v) h r, 0, d, e => by simp at e; subst e; exact ⟨v, rfl, h⟩
  | _, _, .cons h r, i + 1, d, e => by
    obtain ⟨v, h1, h2⟩ := dats_get r (i := i) (by simpa using e)
    exact ⟨v, by simpa using h1, h2⟩
/-- the names of the values themselves -/
structure Own (nv : Led) (On : Addr) (hs : List HV) : Prop where
  ex : ∃ ov n, (On, listOf ov n) ∈ nv ∧ DatAll nv ov.toList (hs.map fun h => nmD h.nm)
theorem law_E (prog : Program) (w : World) (A : Around) (env : Env) (g : Heap) (s : Shared) (Q : Flow → Shared → Prop) (H : Addr) (nv : Led) (xs : Array Value) (n : Nat) (nav : Value) (hs : List HV) (outer : Option (List Str)) (v0 v1 v2 v4 v5 v6 v7 v8 v9 v10 v11 v12 v13 : Option Value) (hsc : env.scope = lawF.sc) (G : EnvG env) (M : Am (KK w) 20 A env g)
    (S : Sta g env.locals s.heap (mV lawVr [v0, v1, v2, some (.ref H), v4, v5, v6, v7, v8, v9, v10, v11, v12, v13, none, none, none]) [] nv)
    (hX : HeldX w nv H xs n nav hs outer) (hv : ∀ h ∈ hs, h.isV = true)
    (q : ∀ (h' : Heap) (tk : Nat) (nv' : Led) (On : Addr), Gr nv nv' → Own nv' On hs → Sta g env.locals h' (mV lawVr [v0, v1, v2, some (.ref H), v4, v5, v6, v7, v8, v9, v10, v11, v12, v13, some (.ref On), none, none]) [] nv' → wp prog w A (execs lawD16 env) Q { s with heap := h', toks := tk }) :
    wp prog w A (execs lawD15 env) Q s := by
  have l_held : IsLoc env lawVr "held" 3 := .of hsc rfl rfl
  have l_own_names : IsLoc env lawVr "own_names" 14 := .of hsc rfl rfl
  clear hsc
  have hxl := hX.len
  have hz := hX.z
  have hm := hX.m
  dsimp only [lawD15, lawD10, lawD9, lawD7, lawF, List.tail_cons]
  tb_look
  refine ⟨x_asgComp (fun i acc mu' nv' => mu' = [] ∧ nv' = nv ∧ DatAll nv acc ((hs.take i).map fun h => nmD h.nm)) M S l_own_names G rfl (swaps_loc G l_own_names rfl rfl) (clos_none rfl) (by decide) rfl (by decide) rfl ?_⟩
  tb_look
  refine ⟨_, _, _, _, .list rfl (S.mem (List.mem_append_right _ hm)) (.inr fun i acc mu' nv' _ h => ?_), S, by rw [sizeLine_eq]; omega, ⟨rfl, rfl, .nil⟩, CompTurn.plain ?_, ?_⟩
  · obtain ⟨rfl, rfl, _⟩ := h
    exact hm
  · rintro I i v acc mu' nv' C oC D k io' env' h tk QL hi hv' ⟨rfl, rfl, ha⟩ _ ce hk hin S2
    revert S2; (repeat (rename Sta _ _ _ _ _ _ => So; clear So)); intro S2
    have G' := ce.g G hk
    have cv0 := ce.var hin (x := "v") rfl (by decide)
    have gl_k : IsGlb env' "_law_names" := ce.glb rfl (by decide)
    have c_k := c_law_names w
    rw [← Array.getElem?_toList] at hv'
    obtain ⟨d, hd1, hd2⟩ := hX.a.get hv'
    have hmem := List.mem_of_getElem? hd1
    obtain ⟨a, il, n2, ys, av2, t2, rfl, V, hl, hD, hN2⟩ := hd2.vec (hv d hmem)
    tb_look
    refine ⟨(sp_lnames w a _ _ av2 d.nm _ _ V hN2).same (by decide) M S2 fun v h' tk S16 P => ?_⟩
    refine CompEnd.mk' S16 ⟨rfl, rfl, ?_⟩
    rw [List.take_add_one, hd1, Option.toList_some, List.map_append, List.map_cons, List.map_nil]
    exact dats_app ha (.cons (nmArg_dat P) .nil)
  · rintro acc mu' nv' D k h tk ⟨rfl, rfl, ha⟩ hl' S2
    revert S2; (repeat (rename Sta _ _ _ _ _ _ => So; clear So)); intro S2
    rw [List.take_of_length_le (by omega)] at ha
    have hold : HoldIf := ⟨⟩
    tb_look
    refine Halt.mk ?_
    exact q _ _ _ D (Gr.cons _ (Gr.refl _)) ⟨acc.toArray, k, .head _, by simpa using DatAll.gr (Gr.cons _ (Gr.refl _)) ha⟩ S2.keep1
end Mine
end
/-! N34 -/
section
namespace Mine
theorem strOk_app {x y : Str} (hx : PyData.strOk x = true) (hy : PyData.strOk y = true) : PyData.strOk (x ++ y) = true := by
  show (x.cps ++ y.cps).all _ = true
  rw [Array.all_append]
  have hx : x.cps.all _ = true := hx
  have hy : y.cps.all _ = true := hy
  rw [hx, hy]; rfl
theorem strOk_jn {o i : Str} (ho : PyData.strOk o = true) (hi : PyData.strOk i = true) : PyData.strOk (jn o i) = true := by
  unfold jn
  split
  · exact hi
  · split
    · exact ho
    · exact strOk_app (strOk_app ho (by decide +kernel)) hi
theorem strOk_at {o : Option (List Str)} (h : ∀ ns, o = some ns → ∀ x ∈ ns, SOk x) (i : Nat) : PyData.strOk (atN o i) = true := by
  cases o with
  | none => show PyData.strOk "" = true; decide +kernel
  | some ns =>
    show PyData.strOk (ns.getD i "") = true
    rw [List.getD_eq_getElem?_getD]
    cases e : ns[i]? with
    | none => show PyData.strOk "" = true; decide +kernel
    | some x => exact (h ns rfl x (List.mem_of_getElem? e)).2
theorem oneNames_ok {outer : Option (List Str)} {hs : List HV} (ho : ∀ ns, outer = some ns → ∀ x ∈ ns, SOk x) (hh : ∀ h ∈ hs, HOk h) : ∀ x ∈ oneNames outer hs, PyData.strOk x = true := fun x hx => by
  unfold oneNames at hx
  obtain ⟨i, hi, rfl⟩ := List.mem_mapIdx.mp hx
  exact strOk_jn (strOk_at ho i) (strOk_at (fun ns e => ((hh _ (List.getElem_mem hi)).vec.2.2 ns e).2) 0)
theorem ok_nmD {h : HV} (ho : HOk h) : kqdOk 8 (nmD h.nm) = true := by
  have := ho.vec.2.2
  cases hn : h.nm with
  | none => rfl
  | some ns =>
    have h2 := fun x hx => ((this ns hn).2 x hx).2
    show (ns.map Dat.str).all (kqdOk 7) = true
    rw [List.all_eq_true]
    intro d hd
    obtain ⟨x, hx, rfl⟩ := List.mem_map.mp hd
    exact kq_str 7 (h2 x hx)
theorem own_none {hs : List HV} : (hs.map fun h => nmD h.nm) = List.replicate hs.length Dat.none ↔ someNames none hs = false := by
  rw [List.eq_replicate_iff]
  simp only [List.length_map, true_and, List.mem_map, forall_exists_index, and_imp, forall_apply_eq_imp_iff₂, someNames, Option.isSome_none, Bool.false_or]
  rw [List.any_eq_false]
  constructor
  · intro h x hx
    have := h x hx
    cases hn : x.nm with
    | none => simp
    | some ns => rw [hn] at this; cases this
  · intro h x hx
    have := h x hx
    cases hn : x.nm with
    | none => rfl
    | some ns => rw [hn] at this; simp at this
theorem none_dats (nv : Led) (m : Nat) : DatAll nv (List.replicate m Value.none) (List.replicate m Dat.none) := by
  induction m with
  | zero => exact .nil
  | succ m ih => exact .cons .none ih
theorem law_F (prog : Program) (w : World) (A : Around) (env : Env) (g : Heap) (s : Shared) (Q : Flow → Shared → Prop) (H Ln T On : Addr) (nv : Led) (xs lv : Array Value) (n ln : Nat) (nav kv iv av : Value) (hs : List HV) (outer : Option (List Str)) (tc : Tok) (v0 v2 v4 v5 v9 v10 v11 v12 v13 : Option Value) (hsc : env.scope = lawF.sc) (G : EnvG env) (M : Am (KK w) 20 A env g)
    (S : Sta g env.locals s.heap (mV lawVr [v0, some (.int (hs.length : Nat) tc), v2, some (.ref H), v4, v5, some nav, some (.ref Ln), some (.ref T), v9, v10, v11, v12, v13, some (.ref On), none, none]) [] nv)
    (hX : HeldX w nv H xs n nav hs outer) (hne : hs ≠ []) (h1 : ∀ h ∈ hs, h.isV = true ∧ h.its.length = 1) (hLn : (Ln, listOf lv ln) ∈ nv) (hLi : IntsAre lv.toList (hs.map lenI)) (hO : Own nv On hs) (hV : VecAt nv T kv iv av) (hNm : NmIn w nv av (if someNames outer hs then some (oneNames outer hs) else none))
    (q1 : LawQ g env.locals s Q) : wp prog w A (execs lawD16 env) Q s := by
  have l_count : IsLoc env lawVr "count" 1 := .of hsc rfl rfl
  have l_held : IsLoc env lawVr "held" 3 := .of hsc rfl rfl
  have l_outer : IsLoc env lawVr "outer" 6 := .of hsc rfl rfl
  have l_lengths : IsLoc env lawVr "lengths" 7 := .of hsc rfl rfl
  have l_told : IsLoc env lawVr "told" 8 := .of hsc rfl rfl
  have l_spot : IsLoc env lawVr "spot" 9 := .of hsc rfl rfl
  have l_due : IsLoc env lawVr "due" 11 := .of hsc rfl rfl
  have l_own_names : IsLoc env lawVr "own_names" 14 := .of hsc rfl rfl
  have l_inner : IsLoc env lawVr "inner" 15 := .of hsc rfl rfl
  have gl_law_names : IsGlb env "_law_names" := .of hsc rfl rfl
  have c_law_names := c_law_names w
  have gl_law_joined : IsGlb env "_law_joined" := .of hsc rfl rfl
  have c_law_joined := c_law_joined w
  have gl_range : IsGlb env "range" := .of hsc rfl rfl
  have c_range := b_range w
  clear hsc
  have hz := hX.z
  have h0 : 0 < hs.length := List.length_pos_iff.mpr hne
  obtain ⟨h0v, hh0⟩ : ∃ h, hs[0]? = some h := ⟨_, List.getElem?_eq_getElem h0⟩
  have hm0 := h1 h0v (List.mem_of_getElem? hh0)
  obtain ⟨t0, ht0⟩ := ints_at hLi (j := 0) (k := 1) (by rw [List.getElem?_map, hh0]; exact congrArg some (lenI_of hm0.1 (by omega)))
  have e0 : ((1 : Int) == 1) = true := by decide
  obtain ⟨ov, on, hOn, hOd⟩ := hO.ex
  have hXn := hX.n
  dsimp only [lawD16, lawD15, lawD10, lawD9, lawD7, lawF, List.tail_cons]
  tb_look
  refine ⟨j_item (List.mem_append_right _ hLn) S (by decide) (by decide) ht0 ?_⟩
  have hold : HoldIf := ⟨⟩
  tb_look
  refine ⟨x_ifB false S ?_ (fun h => by cases h) fun _ h' tk S1 => ?_⟩
  · clear hold
    cases hsn : someNames outer hs with
    | false =>
      rw [hsn] at hNm
      cases hNm
      tb_look
      exact ⟨rfl, _, _, rfl, S⟩
    | true =>
      rw [hsn] at hNm
      obtain ⟨ad, o, a, rfl, hm, D, _⟩ := hNm
      tb_look
      refine ⟨ad_in false D (List.mem_append_right _ hm) S (by rfl) ?_⟩
      tb_look
      exact ⟨rfl, _, _, rfl, S⟩
  · tb_look
    refine ⟨x_ifB (!someNames outer hs) S1 ?_ (fun hb h' tk S2 => ?_) fun hb h' tk S2 => ?_⟩
    · clear hold
      tb_look
      refine ⟨is_any hXn ?_⟩
      cases outer with
      | some ons =>
        have e1 : (some ons : Option (List Str)).isNone = false := rfl
        tb_look
        exact ⟨rfl, _, _, rfl, S1⟩
      | none =>
        have e1 : (none : Option (List Str)).isNone = true := rfl
        tb_look
        refine ⟨j_new S1 (by simp [sizeLine_eq]) fun D h' S2 => ?_⟩
        tb_look
        refine ⟨j_mul1 (.head _) S2 (by omega) fun D2 h' S3 => ?_⟩
        tb_look
        have hD2 : ∀ nv', DatAll nv' (List.replicate hs.length Value.none).toArray.toList (List.replicate hs.length Dat.none) := fun nv' => by simpa using none_dats nv' hs.length
        refine ⟨j_eqD (List.mem_append_right _ hOn) (hOd.mono fun p hp => List.mem_append_right _ hp) (.head _) (hD2 _) (fun d hd => ?_) (fun d hd => ?_) M S3 fun b hb => ?_⟩
        · obtain ⟨x, hx, rfl⟩ := List.mem_map.mp hd
          exact ok_nmD (hX.ok x hx)
        · rw [List.eq_of_mem_replicate hd]; rfl
        have S4 := S3.drop.drop
        have hfin : b = !someNames none hs := by
          rw [own_none] at hb
          cases hsn : someNames none hs with
          | false => exact hb.mpr hsn
          | true => exact Bool.eq_false_iff.mpr fun e => by rw [hb.mp e] at hsn; cases hsn
        tb_look
        all_goals (rename_i eb; exact ⟨by rw [← hfin, eb], _, _, rfl, S4⟩)
    · have hsn : someNames outer hs = false := by simpa using hb
      rw [hsn] at hNm
      tb_look
      refine ⟨(sp_lnames w T _ _ av none _ _ hV hNm).same (by decide) M S2 fun v h' tk S3 P => ?_⟩
      obtain rfl := P
      tb_look
      exact q1 _ _ _ _ _ _ S3 rfl
    · have hsn : someNames outer hs = true := by simpa using hb
      rw [hsn, if_pos rfl] at hNm
      clear hold
      tb_look
      refine ⟨j_new S2 (by simp [sizeLine_eq]) fun Du h' S3 => ?_⟩
      tb_look
      rename_i h4 S4
      refine ⟨x_forR (fun i vs mu2 nv2 => ∃ fa fn spv inn, vs = [v0, some (.int (hs.length : Nat) tc), v2, some (.ref H), v4, v5, some nav, some (.ref Ln), some (.ref T), spv, v10, some (.ref Du), v12, v13, some (.ref On), inn, none] ∧ mu2 = [(Du, listOf fa.toArray fn)] ∧ nv2 = nv ∧ StrsAre fa (oneNames outer (hs.take i)) ∧ fa.length = i) l_spot G M (by rintro i vs mu2 nv2 ⟨_, _, _, _, rfl, _⟩; rfl) ?_⟩
      tb_look
      refine ⟨j_range S4 fun rg h' tk t u v' S5 hrg => ?_⟩
      refine ⟨rg, hs.length, t, u, v', _, _, _, rfl, hrg, range_small (by omega), S5, ⟨[], 0, _, _, rfl, rfl, rfl, .nil, rfl⟩, ?_, ?_⟩
      · rintro I i t2 vs mu2 nv2 io h tk QL hi ⟨fa, fn, spv, inn, rfl, rfl, rfl, hfa, hfl⟩ S6
        revert S6; (repeat (rename Sta _ _ _ _ _ _ => So; clear So)); intro S6
        obtain ⟨d, hd1⟩ : ∃ d, hs[i]? = some d := ⟨_, List.getElem?_eq_getElem hi⟩
        have hmem := List.mem_of_getElem? hd1
        have hok := (hX.ok d hmem).vec
        obtain ⟨ow, how, hod⟩ := dats_get hOd (i := i) (d := nmD d.nm) (by rw [List.getElem?_map, hd1]; rfl)
        have hna := dat_nmArg hod
        have hlo := atN_len (o := outer) (fun ns e => (hX.o ns e).2) i
        have hli := atN_len (o := d.nm) (fun ns e => (hok.2.2 ns e).2) 0
        have hone : oneNames outer (hs.take (i + 1)) = oneNames outer (hs.take i) ++ [jn (atN outer i) (atN d.nm 0)] := by
          unfold oneNames
          rw [List.take_add_one, hd1, Option.toList_some, List.mapIdx_concat, List.length_take, Nat.min_eq_left (by omega)]
          rfl
        have hout : ∀ {Q' : Value → Shared → Prop} {s' : Shared} {vs' : List (Option Value)} {mu' : Led} {tt : Tok} {value slice : Expr}, outer.isNone = false → Sta g env.locals s'.heap (mV lawVr vs') mu' nv2 → (∀ t, Q' (.str (atN outer i) t) s') →
            (subscripted slice false nav (.int (i : Nat) tt) = operate [nav, .int (i : Nat) tt] (getItem nav (.int (i : Nat) tt))) → (∀ r, letTemporaryGo value nav r = pure ()) → wp prog w A (subscriptTail value slice nav (.int (i : Nat) tt)) Q' s' := by
          intro Q' s' vs' mu' tt value slice ho S' q' hs' ht'
          cases outer with
          | none => cases ho
          | some ons =>
            obtain ⟨lo, no, xo, rfl, hlo1, hlo2⟩ := hXn
            have hon := (hX.o ons rfl).1
            obtain ⟨u5, hu5⟩ := hlo2.at (j := i) (y := atN (some ons) i) (by show ons[i]? = some (ons.getD i ""); rw [List.getD_eq_getElem?_getD, List.getElem?_eq_getElem (by omega)]; rfl)
            exact j_item (List.mem_append_right _ hlo1) S' (by omega) (by omega) hu5 (q' u5) hs' ht'
        tb_look
        refine ⟨j_item (List.mem_append_right _ hOn) S6 (by omega) (by omega) how ?_⟩
        tb_look
        refine ⟨is_any hna ?_⟩
        cases hnm : d.nm with
        | none =>
          rw [hnm] at hone hli
          have e3 : (none : Option (List Str)).isNone = true := rfl
          tb_look
          skip
          refine ⟨is_any hXn ?_⟩
          cases hon : outer.isNone with
          | true =>
            have hoe : atN outer i = "" := by cases outer with
              | none => rfl
              | some ons => cases hon
            tb_look
            refine ⟨(sp_ljoin w "" (atN none 0) _ _ _ _ (by decide) (by omega)).same (by decide) M (by assumption) fun v' h' tk S13 P => ?_⟩
            obtain ⟨t5, rfl⟩ := P
            tb_look
            refine ⟨j_append S13.swap (by rw [sizeLine_eq]; omega) fun n' h' S14 => ?_⟩
            tb_look
            exact ForQ.next S14.swap ⟨_, _, _, _, rfl, rfl, rfl, by rw [hone, hoe]; exact strs_app hfa (.cons _ _ .nil), by simp [hfl]⟩
          | false =>
            tb_look
            refine ⟨hout hon (by assumption) (fun t => ?_) (by with_unfolding_all rfl) (fun r => by with_unfolding_all rfl)⟩
            tb_look
            refine ⟨(sp_ljoin w (atN outer i) (atN none 0) _ _ _ _ (by omega) (by omega)).same (by decide) M (by assumption) fun v' h' tk S13 P => ?_⟩
            obtain ⟨t5, rfl⟩ := P
            tb_look
            refine ⟨j_append S13.swap (by rw [sizeLine_eq]; omega) fun n' h' S14 => ?_⟩
            tb_look
            exact ForQ.next S14.swap ⟨_, _, _, _, rfl, rfl, rfl, by rw [hone]; exact strs_app hfa (.cons _ _ .nil), by simp [hfl]⟩
        | some ns =>
          rw [hnm] at hone hli hna
          have e3 : (some ns : Option (List Str)).isNone = false := rfl
          obtain ⟨il, n3, xn, rfl, hl, hin⟩ := hna
          have hnl : ns.length = 1 := by have h2 := (hok.2.2 ns hnm).1; have h3 := (h1 d hmem).2; omega
          obtain ⟨u6, hu6⟩ := hin.at (j := 0) (y := atN (some ns) 0) (by show ns[0]? = some (ns.getD 0 ""); rw [List.getD_eq_getElem?_getD, List.getElem?_eq_getElem (by omega)]; rfl)
          tb_look
          refine ⟨j_item (List.mem_append_right _ hOn) (by assumption) (by omega) (by omega) how ?_⟩
          tb_look
          refine ⟨j_itemC (List.mem_append_right _ hl) (by assumption) (by decide) (by decide) hu6 ?_⟩
          tb_look
          skip
          refine ⟨is_any hXn ?_⟩
          cases hon : outer.isNone with
          | true =>
            have hoe : atN outer i = "" := by cases outer with
              | none => rfl
              | some ons => cases hon
            tb_look
            refine ⟨(sp_ljoin w "" (atN (some ns) 0) _ _ _ _ (by decide) (by omega)).same (by decide) M (by assumption) fun v' h' tk S13 P => ?_⟩
            obtain ⟨t5, rfl⟩ := P
            tb_look
            refine ⟨j_append S13.swap (by rw [sizeLine_eq]; omega) fun n' h' S14 => ?_⟩
            tb_look
            exact ForQ.next S14.swap ⟨_, _, _, _, rfl, rfl, rfl, by rw [hone, hoe]; exact strs_app hfa (.cons _ _ .nil), by simp [hfl]⟩
          | false =>
            tb_look
            refine ⟨hout hon (by assumption) (fun t => ?_) (by with_unfolding_all rfl) (fun r => by with_unfolding_all rfl)⟩
            tb_look
            refine ⟨(sp_ljoin w (atN outer i) (atN (some ns) 0) _ _ _ _ (by omega) (by omega)).same (by decide) M (by assumption) fun v' h' tk S13 P => ?_⟩
            obtain ⟨t5, rfl⟩ := P
            tb_look
            refine ⟨j_append S13.swap (by rw [sizeLine_eq]; omega) fun n' h' S14 => ?_⟩
            tb_look
            exact ForQ.next S14.swap ⟨_, _, _, _, rfl, rfl, rfl, by rw [hone]; exact strs_app hfa (.cons _ _ .nil), by simp [hfl]⟩
      · rintro vs mu2 nv2 h tk ⟨fa, fn, spv, inn, rfl, rfl, rfl, hfa, hfl⟩ S6
        revert S6; (repeat (rename Sta _ _ _ _ _ _ => So; clear So)); intro S6
        rw [List.take_of_length_le (by omega)] at hfa
        tb_look
        refine ⟨(sp_lnames w T _ _ av (some (oneNames outer hs)) _ _ hV hNm).same (by decide) M S6 fun v h' tk S7 P => ?_⟩
        obtain ⟨il, k, ys, rfl, hil, hys⟩ := P
        tb_look
        have ho := oneNames_ok (outer := outer) (hs := hs) (fun ns e => (hX.o ns e).2) hX.ok
        refine ⟨j_eqD (List.mem_append_right _ hil) (strs_dat hys) (.head _) (by simpa using strs_dat hfa) (ok_strs ho) (ok_strs ho) M S7 fun b hb => ?_⟩
        have : b = true := hb.mpr rfl
        subst this
        tb_look
        exact q1 _ _ _ _ _ _ S7 rfl
end Mine
end
/-! N35 -/
section
namespace Mine
theorem ok_nmO {o : Option (List Str)} (h : ∀ ns, o = some ns → ∀ x ∈ ns, SOk x) : kqdOk 8 (nmD o) = true := by
  cases o with
  | none => rfl
  | some ns =>
    show (ns.map Dat.str).all (kqdOk 7) = true
    rw [List.all_eq_true]
    intro d hd
    obtain ⟨x, hx, rfl⟩ := List.mem_map.mp hd
    exact kq_str 7 (h ns rfl x hx).2
theorem law_G (prog : Program) (w : World) (A : Around) (env : Env) (g : Heap) (s : Shared) (Q : Flow → Shared → Prop) (H Ln T On ad : Addr) (o : Obj) (nv : Led) (xs lv : Array Value) (n ln r : Nat) (nav kv iv : Value) (hs : List HV) (outer : Option (List Str)) (tc : Tok) (v0 v2 v4 v5 v9 v10 v11 v12 v13 : Option Value) (hsc : env.scope = lawF.sc) (G : EnvG env) (M : Am (KK w) 20 A env g)
    (S : Sta g env.locals s.heap (mV lawVr [v0, some (.int (hs.length : Nat) tc), v2, some (.ref H), v4, v5, some nav, some (.ref Ln), some (.ref T), v9, v10, v11, v12, v13, some (.ref On), none, none]) [] nv)
    (hX : HeldX w nv H xs n nav hs outer) (hne : hs ≠ []) (hr : r > 1) (h1 : ∀ h ∈ hs, h.isV = true ∧ h.its.length = r) (hLn : (Ln, listOf lv ln) ∈ nv) (hLi : IntsAre lv.toList (hs.map lenI)) (hO : Own nv On hs) (hV : VecAt nv T kv iv (.ref ad)) (had : (ad, o) ∈ nv) (hC : ColAttrs w nv ad o r hs.length (firstNm hs) outer)
    (q1 : LawQ g env.locals s Q) : wp prog w A (execs lawD16 env) Q s := by
  have l_count : IsLoc env lawVr "count" 1 := .of hsc rfl rfl
  have l_held : IsLoc env lawVr "held" 3 := .of hsc rfl rfl
  have l_outer : IsLoc env lawVr "outer" 6 := .of hsc rfl rfl
  have l_lengths : IsLoc env lawVr "lengths" 7 := .of hsc rfl rfl
  have l_told : IsLoc env lawVr "told" 8 := .of hsc rfl rfl
  have l_own_names : IsLoc env lawVr "own_names" 14 := .of hsc rfl rfl
  have l_sides : IsLoc env lawVr "sides" 16 := .of hsc rfl rfl
  clear hsc
  have hz := hX.z
  have h0 : 0 < hs.length := List.length_pos_iff.mpr hne
  obtain ⟨d, hh0⟩ : ∃ h, hs[0]? = some h := ⟨_, List.getElem?_eq_getElem h0⟩
  have hmem := List.mem_of_getElem? hh0
  have hm0 := h1 d hmem
  have hr3 : r ≤ 3 := by have := (hX.ok d hmem).vec.2.1; omega
  have hfirst : firstNm hs = d.nm := by
    unfold firstNm
    rw [← List.head?_eq_getElem?] at hh0
    rw [hh0]; rfl
  rw [hfirst] at hC
  obtain ⟨t0, ht0⟩ := ints_at hLi (j := 0) (k := (r : Int)) (by rw [List.getElem?_map, hh0]; exact congrArg some (lenI_of hm0.1 (by omega)))
  have e0 : ((r : Int) == 1) = false := beq_eq_false_iff_ne.mpr (by omega)
  obtain ⟨ov, on, hOn, hOd⟩ := hO.ex
  obtain ⟨ow, how, hod⟩ := dats_get hOd (i := 0) (d := nmD d.nm) (by rw [List.getElem?_map, hh0]; rfl)
  have hna := dat_nmArg hod
  have hXn := hX.n
  obtain ⟨dv, hdv, hC⟩ := hC
  have hdim : ∃ kvs, AD w ad o kvs ∧ valueAt kvs (Str.ofString "dim") = some dv := by
    split at hC
    · obtain ⟨dn, D, _⟩ := hC
      exact ⟨_, D, rfl⟩
    · exact ⟨_, hC, rfl⟩
  obtain ⟨kvs, Dk, hvk⟩ := hdim
  obtain ⟨x2, kv2, il2, k2, t1, t2, rfl, V2, hl2⟩ := hdv
  dsimp only [lawD16, lawD15, lawD10, lawD9, lawD7, lawF, List.tail_cons]
  tb_look
  refine ⟨j_item (List.mem_append_right _ hLn) S (by decide) (by decide) ht0 ?_⟩
  tb_look
  refine ⟨ad_itemC Dk (List.mem_append_right _ had) S hvk ?_⟩
  tb_look
  refine ⟨j_item (List.mem_append_right _ hLn) (by assumption) (by decide) (by decide) ht0 ?_⟩
  tb_look
  refine ⟨j_new (by assumption) (by simp [sizeLine_eq]) fun D h' S1 => ?_⟩
  tb_look
  refine ⟨j_neD (ds := [.int (r : Nat), .int (hs.length : Nat)]) (List.mem_append_right _ hl2) (.cons (.int _ _) (.cons (.int _ _) .nil)) (.head _) (.cons (.int _ _) (.cons (.int _ _) .nil)) (fun d hd => ?_) (fun d hd => ?_) M S1 fun b hb => ?_⟩
  · simp only [List.mem_cons, List.mem_nil_iff, or_false] at hd; rcases hd with rfl | rfl <;> rfl
  · simp only [List.mem_cons, List.mem_nil_iff, or_false] at hd; rcases hd with rfl | rfl <;> rfl
  have : b = false := Bool.eq_false_iff.mpr fun e => hb.mp e rfl
  subst this
  have S2 := S1.drop
  have hold : HoldIf := ⟨⟩
  tb_look
  clear hold
  refine ⟨x_ifB (!(d.nm.isSome || outer.isSome)) S2 ?_ (fun hb h' tk S3 => ?_) fun hb h' tk S3 => ?_⟩
  · tb_look
    refine ⟨is_any hXn ?_⟩
    cases outer with
    | some ons =>
      have e1 : (some ons : Option (List Str)).isNone = false := rfl
      tb_look
      exact ⟨by simp, _, _, rfl, S2⟩
    | none =>
      have e1 : (none : Option (List Str)).isNone = true := rfl
      tb_look
      refine ⟨j_item (List.mem_append_right _ hOn) S2 (by decide) (by decide) how ?_⟩
      tb_look
      refine ⟨is_any hna ?_⟩
      cases hn : d.nm with
      | none =>
        have e2 : (none : Option (List Str)).isNone = true := rfl
        tb_look
        exact ⟨rfl, _, _, rfl, S2⟩
      | some ns =>
        have e2 : (some ns : Option (List Str)).isNone = false := rfl
        tb_look
        exact ⟨rfl, _, _, rfl, S2⟩
  · have hb' : (d.nm.isSome || outer.isSome) = false := by simpa using hb
    rw [if_neg (by rw [hb']; decide)] at hC
    tb_look
    refine ⟨ad_nin false hC (List.mem_append_right _ had) S3 (by rfl) ?_⟩
    have e3 : (!false) = true := rfl
    tb_look
    exact q1 _ _ _ _ _ _ S3 rfl
  · have hb' : (d.nm.isSome || outer.isSome) = true := by
      cases h : (d.nm.isSome || outer.isSome) with
      | true => rfl
      | false => rw [h] at hb; cases hb
    rw [if_pos hb'] at hC
    obtain ⟨dn, D, x5, kv5, il5, k5, pa, pb, av5, rfl, V5, hl5, hpa, hpb⟩ := hC
    tb_look
    refine ⟨x_asgComp (fun i acc mu' nv' => mu' = [] ∧ nv' = nv ∧ DatAll nv acc (([d.nm, outer].take i).map nmD)) M S3 l_sides G rfl (swaps_loc G l_sides rfl rfl) (clos_none rfl) (by decide) rfl (by decide) rfl ?_⟩
    tb_look
    refine ⟨ad_itemC D (List.mem_append_right _ had) S3 (by rfl) ?_⟩
    tb_look
    refine ⟨_, _, _, _, .list rfl (S3.mem (List.mem_append_right _ hl5)) (.inr fun i acc mu' nv' _ h => ?_), by assumption, by rw [sizeLine_eq]; simp, ⟨rfl, rfl, .nil⟩, CompTurn.plain ?_, ?_⟩
    · obtain ⟨rfl, rfl, _⟩ := h
      exact hl5
    · rintro I i v acc mu' nv' C oC D9 k io' env' h tk QL hi hv' ⟨rfl, rfl, ha⟩ _ ce hk hin S5
      revert S5; (repeat (rename Sta _ _ _ _ _ _ => So; clear So)); intro S5
      have G' := ce.g G hk
      have cv0 := ce.var hin (x := "side") rfl (by decide)
      have hp : ∃ ow, [d.nm, outer][i]? = some ow ∧ PartIn nv' v ow := by
        have : i = 0 ∨ i = 1 := by simp at hi; omega
        rcases this with rfl | rfl
        · simp at hv'; subst hv'; exact ⟨_, rfl, hpa⟩
        · simp at hv'; subst hv'; exact ⟨_, rfl, hpb⟩
      obtain ⟨ow2, ho2, hp2⟩ := hp
      cases ow2 with
      | none =>
        obtain ⟨x6, rfl, N6⟩ := hp2
        have e4 : (("NULL" : Str) == "NULL") = true := beq_self_eq_true _
        tb_look
        refine CompEnd.mk' S5 ⟨rfl, rfl, ?_⟩
        rw [List.take_add_one, ho2, Option.toList_some, List.map_append, List.map_cons, List.map_nil]
        exact dats_app ha (.cons .none .nil)
      | some ns =>
        obtain ⟨x6, iv6, t6, rfl, V6, hs6⟩ := hp2
        obtain ⟨il6, n6, xs6, rfl, hl6, hi6⟩ := hs6
        have e4 : (("character" : Str) == "NULL") = false := by decide
        tb_look
        refine CompEnd.mk' S5 ⟨rfl, rfl, ?_⟩
        rw [List.take_add_one, ho2, Option.toList_some, List.map_append, List.map_cons, List.map_nil]
        exact dats_app ha (.cons (nmArg_dat (o := some ns) ⟨il6, n6, xs6, rfl, hl6, hi6⟩) .nil)
    · rintro acc mu' nv' Sd k h tk ⟨rfl, rfl, ha⟩ hl' S5
      revert S5; (repeat (rename Sta _ _ _ _ _ _ => So; clear So)); intro S5
      have ha : DatAll nv' acc [nmD d.nm, nmD outer] := ha
      tb_look
      refine ⟨j_item (List.mem_append_right _ hOn) S5 (by decide) (by decide) how ?_⟩
      tb_look
      refine ⟨j_new S5 (by simp [sizeLine_eq]) fun Dl h' S6 => ?_⟩
      tb_look
      have hko : ∀ x ∈ [nmD d.nm, nmD outer], kqdOk 8 x = true := fun x hx => by
        simp only [List.mem_cons, List.mem_nil_iff, or_false] at hx
        rcases hx with rfl | rfl
        · exact ok_nmD (hX.ok d hmem)
        · exact ok_nmO fun ns e => (hX.o ns e).2
      have hDl : DatAll nv' [ow, nav] [nmD d.nm, nmD outer] := .cons hod (.cons (nmArg_dat hXn) .nil)
      refine ⟨j_eqD (.tail _ (.head _)) (by simpa using ha.mono fun p hp => List.Mem.tail _ (List.Mem.tail _ hp)) (.head _) (hDl.mono fun p hp => List.Mem.tail _ (List.Mem.tail _ hp)) hko hko M S6 fun b hb => ?_⟩
      have : b = true := hb.mpr rfl
      subst this
      exact q1 _ _ _ _ _ _ S6 rfl
end Mine
end
/-! N36 -/
section
namespace Mine
noncomputable def LawRun : Prop := ∀ (prog : Program) (w : World) (A : Around) (env : Env) (g : Heap) (s : Shared) (Q : Flow → Shared → Prop) (c l : Addr) (o : Obj) (vs : List Value) (ns : List Int),
  env.scope = lawF.sc → env.cells = [(Str.ofString "row", c)] → EnvG env → Am (KK w) 20 A env g → Sta g env.locals s.heap (mV lawVr (some (.ref l) :: List.replicate 16 none)) [(c, o)] [] → o.data = .cell none →
  g.IsList l vs.toArray → IntsAre vs ns → ns.length ≤ 63 → (∀ fl h' tk m' mu' nv', Sta g env.locals h' m' mu' nv' → retOf fl = .bool true → Q fl { s with heap := h', toks := tk }) → wp prog w A (execs lawF.b env) Q s
theorem ColAttrs.gr {w : World} {nv nv' : Led} (g : Gr nv nv') {ad : Addr} {o : Obj} {r c : Nat} {heads names : Option (List Str)} (had : (ad, o) ∈ nv) (h : ColAttrs w nv ad o r c heads names) : (ad, o) ∈ nv' ∧ ColAttrs w nv' ad o r c heads names := by
  obtain ⟨dv, hd, h⟩ := h
  by_cases hb : (heads.isSome || names.isSome) = true
  · rw [if_pos hb] at h
    obtain ⟨dn, D, hn⟩ := h
    exact ⟨g.ad had D (by rfl), dv, hd.gr g, by rw [if_pos hb]; exact ⟨dn, D, hn.gr g⟩⟩
  · rw [if_neg hb] at h
    exact ⟨g.ad had h (by rfl), dv, hd.gr g, by rw [if_neg hb]; exact h⟩
theorem law_run : LawRun := by
  intro prog w A env g s Q c l o vs ns hsc hce G M S ho hl hi hz q
  refine law_A prog w A env g s Q c l o vs ns hsc hce G M S ho hl hi hz fun h' tk nv H nav hs outer tc sh lp mn S1 hH => ?_
  refine law_B prog w A env g _ Q c l H nv nav hs outer tc sh lp mn hsc G M S1 hH fun h' tk nv xs n Ln lv ln told S2 hX hLn hLi hT => ?_
  refine law_C prog w A env g _ Q l H Ln nv xs lv n ln nav told hs outer tc sh lp mn hsc G M S2 hX hLn hLi hT (fun fl h' tk m' mu' nv' S' e => q fl h' tk m' mu' nv' S' e) fun hc h' tk S3 => ?_
  obtain ⟨hall, _, hnil⟩ := clen_pos (hs := hs) (s := -1) (r := clen (-1) hs) rfl (by omega)
  have hne : hs ≠ [] := fun e => by have := hnil e; omega
  have hv : ∀ h ∈ hs, h.isV = true := fun h hh => (hall h hh).1
  unfold SimpOut at hT
  by_cases h1 : clen (-1) hs = 1
  · rw [if_pos h1] at hT
    obtain ⟨T, il, k, ys, av, t, rfl, V, hil, hD, hNm⟩ := hT
    have hT : ToldV w nv T (topK (hs.map HV.kd)) av (allIts (topK (hs.map HV.kd)) hs) := ⟨il, k, ys, t, V, hil, hD⟩
    refine law_D prog w A env g _ Q l H Ln T nv xs n nav av hs outer tc sh lp mn _ rfl hsc G M S3 hX hne hv hT fun h' tk nv1 t1 Du vv it g1 S4 => ?_
    refine law_E prog w A env g _ Q H nv1 xs n nav hs outer _ _ _ _ _ _ _ _ _ _ _ _ _ hsc G M S4 (hX.gr g1) hv fun h' tk nv2 On g2 hO S5 => ?_
    exact law_F prog w A env g _ Q H Ln T On nv2 xs lv n ln nav _ _ av hs outer tc _ _ _ _ _ _ _ _ _ hsc G M S5 ((hX.gr g1).gr g2) hne (fun h hh => ⟨hv h hh, by have := (hall h hh).2; omega⟩) ((g1.trans g2).list hLn) hLi hO ((V.gr g1).gr g2) ((hNm.gr g1).gr g2) fun fl h' tk m' mu' nv' S' e => q fl h' tk m' mu' nv' S' e
  · rw [if_neg h1, if_pos (by omega)] at hT
    obtain ⟨T, il, k, ys, t, ad, oa, rfl, V, hil, hD, had, hC⟩ := hT
    have hT : ToldV w nv T (topK (hs.map HV.kd)) (.ref ad) (allIts (topK (hs.map HV.kd)) hs) := ⟨il, k, ys, t, V, hil, hD⟩
    refine law_D prog w A env g _ Q l H Ln T nv xs n nav (.ref ad) hs outer tc sh lp mn _ rfl hsc G M S3 hX hne hv hT fun h' tk nv1 t1 Du vv it g1 S4 => ?_
    refine law_E prog w A env g _ Q H nv1 xs n nav hs outer _ _ _ _ _ _ _ _ _ _ _ _ _ hsc G M S4 (hX.gr g1) hv fun h' tk nv2 On g2 hO S5 => ?_
    obtain ⟨had2, hC2⟩ := hC.gr (g1.trans g2) had
    exact law_G prog w A env g _ Q H Ln T On ad oa nv2 xs lv n ln (clen (-1) hs).toNat nav _ _ hs outer tc _ _ _ _ _ _ _ _ _ hsc G M S5 ((hX.gr g1).gr g2) hne (by omega) (fun h hh => ⟨hv h hh, by have := (hall h hh).2; omega⟩) ((g1.trans g2).list hLn) hLi hO ((V.gr g1).gr g2) had2 hC2 fun fl h' tk m' mu' nv' S' e => q fl h' tk m' mu' nv' S' e
end Mine
end
local macro_rules | `(tactic| k_qdec) => `(tactic| kernel_rfl)
theorem PySem.Challenge.cw_nz0502_01_holds : PySem.Challenge.rw_nz0502_01.Holds := by
  w_on
  refine holds_law Mine.said0 fun said => ?_
  refine holds_open (q := Mine.viewQ) (loose := Mine.looseQ) (Xt := Mine.Xt0) (XP := XL Mine.viewQ []) (Yf := Hook.obs Mine.H0) (Ya := Hook.val Mine.H0) (YP := Hook.says Mine.H0) (N := 6686) Mine.left0 (Hook.of Mine.H0) (Hook.keeps Mine.H0) (fun s e => xl_of s (Bool.and_eq_true_iff.mp e).1) XL.keeps (by rfl) (by rfl) (by rfl) (fun s e => recFacts_of (Bool.and_eq_true_iff.mp e).2) (by rfl) (by first | assumption | decide +kernel) (by decide +kernel) ⟨rfl, rfl, rfl, rfl, rfl, by decide +kernel⟩ ?hwit ?hcore
  case hwit => w_witness2
  k_go0
  rename Fr _ _ _ _ => F
  rename News _ _ _ _ => N
  rename Below _ _ _ _ => K0
  rename Top _ _ _ _ _ _ => T
  rename CellsAre _ _ _ => Y0
  rename Heap.IsList _ _ _ => hL
  rename IntsAre _ _ => hI
  rename Frag.In _ _ => KX
  rename Shared => s₁
  rename Obj => o9
  rename o9.data = _ => hw9
  rename Addr => l9
  refine' wpAny_mono (law_run _ _ _ _ s₁.heap _ (fun fl s' => ∃ h' tk m' mu' nv', Sta s₁.heap s₁.heap.objs.size h' m' mu' nv' ∧ retOf fl = .bool true ∧ s' = { s₁ with heap := h', toks := tk }) (s₁.heap.objs.size + 1) _ o9 _ _ ?ha ?hb ?hc ?hd ?he ?hf ?hg ?hh ?hi ?hj) ?Y (fun _ _ (x : False) => x.elim)
  case ha => rfl
  case hb => rfl
  case hc => exact ⟨rfl, rfl, rfl⟩
  case hg => exact hL
  case hh => exact hI
  case hd =>
    refine ⟨⟨_, _, _, K0, Around.frames_deeper rfl⟩, KX, ⟨_, _, _, _, _, T⟩, rfl, rfl, ?_, ?_, rfl⟩
    · rw [depth_deeper]; decide
    · rw [units_deeper]; decide
  case he =>
    refine ⟨Eq.mp (congrArg (Fr _ _ _) ?_) F, N, by simp⟩
    exact hm_cells (ns := ["script"]) (more := lawVr.tail) (vals := [.ref _]) (k := 16) (by rfl) rfl (by decide)
  case hf => exact hw9.trans rfl
  case hi => omega
  case hj =>
    intro fl h' tk m' mu' nv' S' e
    exact ⟨h', tk, m', mu', nv', S', e, rfl⟩
  case Y =>
    rintro fl s' ⟨h', tk, m', mu', nv', S', e, rfl⟩
    have F9 := S'.F
    cases fl with
    | ret v =>
      have e : v = .bool true := e
      subst e
      wrow_close
    | _ => simp [retOf] at e
