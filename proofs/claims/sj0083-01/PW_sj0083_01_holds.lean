import PyProof.Rows.All
import Wide.All
import OpenK.AllK
import Wide.FinOn
import Lean
import PySem.Challenge.RW_sj0083_01
set_option Elab.async false
set_option linter.unusedVariables false
set_option maxRecDepth 100000
namespace Mine
open PySem PySem.W PyProof.Rows

/-! ## the head by hand: the law's view, the objects that the walk uses, the top's run at once -/
noncomputable def view : Program := { PySem.Challenge.pw_sj0083_01 with main := { PySem.Challenge.pw_sj0083_01.main with body := [14, 38].filterMap fun i => PySem.Challenge.pw_sj0083_01.main.body[i]? } }
noncomputable def lse : List Str := ["GmpError", "DivisionByZero", "OutOfRange", "normal", "compare", "add", "sub", "divrem_limb", "shift_left", "shift_right", "bits", "low", "UNIT", "matrix_mul", "led_back", "great_step", "one_step", "difference_bits", "least_bits", "most_bits", "by_high", "half_gcd", "mul_school", "divrem_small", "guessed_limb", "take_away", "put_back", "divide_rows", "divrem_school", "_law_cut", "_law_limbs", "_law_whole", "_law_shared", "_law_leads_back"].map Str.ofString
noncomputable def en (P : Params) (x : String) (t : Tok) (v : Value) : DictEntry := { hash := PyData.keyHash P (Str.ofString x), key := .str (Str.ofString x) t, val := v }
/-- the function that the i-th statement of the top makes -/
noncomputable def fnAt (i : Nat) (cd : Addr) (pm : String) (tk : Tok) : Obj := match PySem.Challenge.pw_sj0083_01.main.body[i]? with
  | some (.FunctionDef n ps b _ _ _ sc _ _ _) => { cls := .type "function", data := .func (fnOf n n ps b sc .none .none .none (.str (Str.ofString pm) tk) none (.ref cd) .none) }
  | _ => { cls := .none, data := .seq #[] }
noncomputable def Kf (P : Params) : Frag := [
  (3, { cls := .type "dict", data := .dict #[en P "__name__" 165 (Value.str (Str.ofString "law_sj0083_01") 577),
    en P "__doc__" 166 (Value.none),
    en P "__package__" 167 (Value.none),
    en P "__loader__" 168 (Value.builtin "__main__.__loader__#\x6fpaque"),
    en P "__spec__" 169 (Value.none),
    en P "__annotations__" 170 (Value.ref 6),
    en P "__builtins__" 171 (Value.ref 4),
    en P "__file__" 173 (Value.str (Str.ofString "/claim/cut.py") 172),
    en P "__cached__" 174 (Value.none),
    en P "GmpError" 208 (Value.ref 24),
    en P "DivisionByZero" 224 (Value.ref 37),
    en P "OutOfRange" 240 (Value.ref 49),
    en P "normal" 248 (Value.ref 58),
    en P "compare" 257 (Value.ref 65),
    en P "add" 270 (Value.ref 72),
    en P "sub" 284 (Value.ref 79),
    en P "divrem_limb" 296 (Value.ref 86),
    en P "shift_left" 311 (Value.ref 93),
    en P "shift_right" 326 (Value.ref 100),
    en P "bits" 334 (Value.ref 107),
    en P "low" 345 (Value.ref 114),
    en P "UNIT" 350 (Value.ref 119),
    en P "matrix_mul" 368 (Value.ref 126),
    en P "led_back" 387 (Value.ref 133),
    en P "great_step" 400 (Value.ref 140),
    en P "one_step" 415 (Value.ref 147),
    en P "difference_bits" 424 (Value.ref 154),
    en P "least_bits" 433 (Value.ref 161),
    en P "most_bits" 442 (Value.ref 168),
    en P "by_high" 460 (Value.ref 175),
    en P "half_gcd" 477 (Value.ref 182),
    en P "mul_school" 495 (Value.ref 189),
    en P "divrem_small" 506 (Value.ref 196),
    en P "guessed_limb" 520 (Value.ref 203),
    en P "take_away" 536 (Value.ref 210),
    en P "put_back" 550 (Value.ref 217),
    en P "divide_rows" 563 (Value.ref 224),
    en P "divrem_school" 576 (Value.ref 231),
    en P "_law_cut" 586 (Value.ref 238),
    en P "_law_limbs" 595 (Value.ref 245),
    en P "_law_whole" 605 (Value.ref 252),
    en P "_law_shared" 613 (Value.ref 259),
    en P "_law_leads_back" 619 (Value.ref 264),
    en P "law" 625 (Value.ref 269)] 44 }),
  (57, { cls := Value.type "code", data := Data.fields #[Value.str (Str.ofString "normal") 241, Value.str (Str.ofString "normal") 242, Value.str (Str.ofString "/claim/cut.py") 243, Value.int 8 0, Value.int 1 0, Value.int 0 0, Value.int 0 0, Value.int 3 0, Value.ref 52, Value.bool true, Value.int 181 0, Value.ref 53, Value.none, Value.ref 54, Value.ref 55, Value.ref 56, Value.int 246 0, Value.int 8 0, Value.str (Str.ofString "/claim/cut.py") 247] }),
  (58, fnAt 4 57 "gmp.limbs" 187),
  (64, { cls := Value.type "code", data := Data.fields #[Value.str (Str.ofString "compare") 249, Value.str (Str.ofString "compare") 250, Value.str (Str.ofString "/claim/cut.py") 251, Value.int 13 0, Value.int 2 0, Value.int 0 0, Value.int 0 0, Value.int 3 0, Value.ref 59, Value.bool true, Value.int 181 0, Value.ref 60, Value.none, Value.ref 61, Value.ref 62, Value.ref 63, Value.int 255 0, Value.int 13 0, Value.str (Str.ofString "/claim/cut.py") 256] }),
  (65, fnAt 5 64 "gmp.limbs" 187),
  (71, { cls := Value.type "code", data := Data.fields #[Value.str (Str.ofString "add") 258, Value.str (Str.ofString "add") 259, Value.str (Str.ofString "/claim/cut.py") 260, Value.int 20 0, Value.int 3 0, Value.int 0 0, Value.int 0 0, Value.int 3 0, Value.ref 66, Value.bool true, Value.int 181 0, Value.ref 67, Value.none, Value.ref 68, Value.ref 69, Value.ref 70, Value.int 268 0, Value.int 20 0, Value.str (Str.ofString "/claim/cut.py") 269] }),
  (72, fnAt 6 71 "gmp.limbs" 187),
  (78, { cls := Value.type "code", data := Data.fields #[Value.str (Str.ofString "sub") 271, Value.str (Str.ofString "sub") 272, Value.str (Str.ofString "/claim/cut.py") 273, Value.int 35 0, Value.int 3 0, Value.int 0 0, Value.int 0 0, Value.int 3 0, Value.ref 73, Value.bool true, Value.int 181 0, Value.ref 74, Value.none, Value.ref 75, Value.ref 76, Value.ref 77, Value.int 282 0, Value.int 35 0, Value.str (Str.ofString "/claim/cut.py") 283] }),
  (79, fnAt 7 78 "gmp.limbs" 187),
  (85, { cls := Value.type "code", data := Data.fields #[Value.str (Str.ofString "divrem_limb") 285, Value.str (Str.ofString "divrem_limb") 286, Value.str (Str.ofString "/claim/cut.py") 287, Value.int 44 0, Value.int 3 0, Value.int 0 0, Value.int 0 0, Value.int 3 0, Value.ref 80, Value.bool true, Value.int 181 0, Value.ref 81, Value.none, Value.ref 82, Value.ref 83, Value.ref 84, Value.int 294 0, Value.int 44 0, Value.str (Str.ofString "/claim/cut.py") 295] }),
  (86, fnAt 8 85 "gmp.limbs" 187),
  (92, { cls := Value.type "code", data := Data.fields #[Value.str (Str.ofString "shift_left") 297, Value.str (Str.ofString "shift_left") 298, Value.str (Str.ofString "/claim/cut.py") 299, Value.int 53 0, Value.int 3 0, Value.int 0 0, Value.int 0 0, Value.int 3 0, Value.ref 87, Value.bool true, Value.int 181 0, Value.ref 88, Value.none, Value.ref 89, Value.ref 90, Value.ref 91, Value.int 309 0, Value.int 53 0, Value.str (Str.ofString "/claim/cut.py") 310] }),
  (93, fnAt 9 92 "gmp.limbs" 187),
  (99, { cls := Value.type "code", data := Data.fields #[Value.str (Str.ofString "shift_right") 312, Value.str (Str.ofString "shift_right") 313, Value.str (Str.ofString "/claim/cut.py") 314, Value.int 65 0, Value.int 3 0, Value.int 0 0, Value.int 0 0, Value.int 3 0, Value.ref 94, Value.bool true, Value.int 181 0, Value.ref 95, Value.none, Value.ref 96, Value.ref 97, Value.ref 98, Value.int 324 0, Value.int 65 0, Value.str (Str.ofString "/claim/cut.py") 325] }),
  (100, fnAt 10 99 "gmp.limbs" 187),
  (106, { cls := Value.type "code", data := Data.fields #[Value.str (Str.ofString "bits") 327, Value.str (Str.ofString "bits") 328, Value.str (Str.ofString "/claim/cut.py") 329, Value.int 72 0, Value.int 2 0, Value.int 0 0, Value.int 0 0, Value.int 3 0, Value.ref 101, Value.bool true, Value.int 181 0, Value.ref 102, Value.none, Value.ref 103, Value.ref 104, Value.ref 105, Value.int 332 0, Value.int 72 0, Value.str (Str.ofString "/claim/cut.py") 333] }),
  (107, fnAt 11 106 "gmp.limbs" 187),
  (113, { cls := Value.type "code", data := Data.fields #[Value.str (Str.ofString "low") 335, Value.str (Str.ofString "low") 336, Value.str (Str.ofString "/claim/cut.py") 337, Value.int 74 0, Value.int 3 0, Value.int 0 0, Value.int 0 0, Value.int 3 0, Value.ref 108, Value.bool true, Value.int 181 0, Value.ref 109, Value.none, Value.ref 110, Value.ref 111, Value.ref 112, Value.int 343 0, Value.int 74 0, Value.str (Str.ofString "/claim/cut.py") 344] }),
  (114, fnAt 12 113 "gmp.limbs" 187),
  (115, { cls := Value.type "list", data := Data.seq #[Value.int 1 348] }),
  (116, { cls := Value.type "list", data := Data.seq #[] }),
  (117, { cls := Value.type "list", data := Data.seq #[] }),
  (118, { cls := Value.type "list", data := Data.seq #[Value.int 1 349] }),
  (119, { cls := Value.type "tuple", data := Data.seq #[Value.ref 115, Value.ref 116, Value.ref 117, Value.ref 118] }),
  (125, { cls := Value.type "code", data := Data.fields #[Value.str (Str.ofString "matrix_mul") 351, Value.str (Str.ofString "matrix_mul") 352, Value.str (Str.ofString "/claim/cut.py") 353, Value.int 81 0, Value.int 4 0, Value.int 0 0, Value.int 0 0, Value.int 3 0, Value.ref 120, Value.bool true, Value.int 181 0, Value.ref 121, Value.none, Value.ref 122, Value.ref 123, Value.ref 124, Value.int 366 0, Value.int 81 0, Value.str (Str.ofString "/claim/cut.py") 367] }),
  (126, fnAt 15 125 "gmp.halfgcd" 346),
  (132, { cls := Value.type "code", data := Data.fields #[Value.str (Str.ofString "led_back") 369, Value.str (Str.ofString "led_back") 370, Value.str (Str.ofString "/claim/cut.py") 371, Value.int 85 0, Value.int 7 0, Value.int 0 0, Value.int 0 0, Value.int 3 0, Value.ref 127, Value.bool true, Value.int 181 0, Value.ref 128, Value.none, Value.ref 129, Value.ref 130, Value.ref 131, Value.int 385 0, Value.int 85 0, Value.str (Str.ofString "/claim/cut.py") 386] }),
  (133, fnAt 16 132 "gmp.halfgcd" 346),
  (139, { cls := Value.type "code", data := Data.fields #[Value.str (Str.ofString "great_step") 388, Value.str (Str.ofString "great_step") 389, Value.str (Str.ofString "/claim/cut.py") 390, Value.int 89 0, Value.int 5 0, Value.int 0 0, Value.int 0 0, Value.int 3 0, Value.ref 134, Value.bool true, Value.int 181 0, Value.ref 135, Value.none, Value.ref 136, Value.ref 137, Value.ref 138, Value.int 398 0, Value.int 89 0, Value.str (Str.ofString "/claim/cut.py") 399] }),
  (140, fnAt 17 139 "gmp.halfgcd" 346),
  (146, { cls := Value.type "code", data := Data.fields #[Value.str (Str.ofString "one_step") 401, Value.str (Str.ofString "one_step") 402, Value.str (Str.ofString "/claim/cut.py") 403, Value.int 94 0, Value.int 5 0, Value.int 0 0, Value.int 0 0, Value.int 3 0, Value.ref 141, Value.bool true, Value.int 181 0, Value.ref 142, Value.none, Value.ref 143, Value.ref 144, Value.ref 145, Value.int 413 0, Value.int 94 0, Value.str (Str.ofString "/claim/cut.py") 414] }),
  (147, fnAt 18 146 "gmp.halfgcd" 346),
  (153, { cls := Value.type "code", data := Data.fields #[Value.str (Str.ofString "difference_bits") 416, Value.str (Str.ofString "difference_bits") 417, Value.str (Str.ofString "/claim/cut.py") 418, Value.int 101 0, Value.int 3 0, Value.int 0 0, Value.int 0 0, Value.int 3 0, Value.ref 148, Value.bool true, Value.int 181 0, Value.ref 149, Value.none, Value.ref 150, Value.ref 151, Value.ref 152, Value.int 422 0, Value.int 101 0, Value.str (Str.ofString "/claim/cut.py") 423] }),
  (154, fnAt 19 153 "gmp.halfgcd" 346),
  (160, { cls := Value.type "code", data := Data.fields #[Value.str (Str.ofString "least_bits") 425, Value.str (Str.ofString "least_bits") 426, Value.str (Str.ofString "/claim/cut.py") 427, Value.int 103 0, Value.int 3 0, Value.int 0 0, Value.int 0 0, Value.int 3 0, Value.ref 155, Value.bool true, Value.int 181 0, Value.ref 156, Value.none, Value.ref 157, Value.ref 158, Value.ref 159, Value.int 431 0, Value.int 103 0, Value.str (Str.ofString "/claim/cut.py") 432] }),
  (161, fnAt 20 160 "gmp.halfgcd" 346),
  (167, { cls := Value.type "code", data := Data.fields #[Value.str (Str.ofString "most_bits") 434, Value.str (Str.ofString "most_bits") 435, Value.str (Str.ofString "/claim/cut.py") 436, Value.int 105 0, Value.int 3 0, Value.int 0 0, Value.int 0 0, Value.int 3 0, Value.ref 162, Value.bool true, Value.int 181 0, Value.ref 163, Value.none, Value.ref 164, Value.ref 165, Value.ref 166, Value.int 440 0, Value.int 105 0, Value.str (Str.ofString "/claim/cut.py") 441] }),
  (168, fnAt 21 167 "gmp.halfgcd" 346),
  (174, { cls := Value.type "code", data := Data.fields #[Value.str (Str.ofString "by_high") 443, Value.str (Str.ofString "by_high") 444, Value.str (Str.ofString "/claim/cut.py") 445, Value.int 107 0, Value.int 6 0, Value.int 0 0, Value.int 0 0, Value.int 3 0, Value.ref 169, Value.bool true, Value.int 181 0, Value.ref 170, Value.none, Value.ref 171, Value.ref 172, Value.ref 173, Value.int 458 0, Value.int 107 0, Value.str (Str.ofString "/claim/cut.py") 459] }),
  (175, fnAt 22 174 "gmp.halfgcd" 346),
  (181, { cls := Value.type "code", data := Data.fields #[Value.str (Str.ofString "half_gcd") 461, Value.str (Str.ofString "half_gcd") 462, Value.str (Str.ofString "/claim/cut.py") 463, Value.int 112 0, Value.int 6 0, Value.int 0 0, Value.int 0 0, Value.int 3 0, Value.ref 176, Value.bool true, Value.int 181 0, Value.ref 177, Value.none, Value.ref 178, Value.ref 179, Value.ref 180, Value.int 475 0, Value.int 112 0, Value.str (Str.ofString "/claim/cut.py") 476] }),
  (182, fnAt 23 181 "gmp.halfgcd" 346),
  (188, { cls := Value.type "code", data := Data.fields #[Value.str (Str.ofString "mul_school") 480, Value.str (Str.ofString "mul_school") 481, Value.str (Str.ofString "/claim/cut.py") 482, Value.int 130 0, Value.int 3 0, Value.int 0 0, Value.int 0 0, Value.int 3 0, Value.ref 183, Value.bool true, Value.int 181 0, Value.ref 184, Value.none, Value.ref 185, Value.ref 186, Value.ref 187, Value.int 493 0, Value.int 130 0, Value.str (Str.ofString "/claim/cut.py") 494] }),
  (189, fnAt 25 188 "gmp.school" 478),
  (195, { cls := Value.type "code", data := Data.fields #[Value.str (Str.ofString "divrem_small") 496, Value.str (Str.ofString "divrem_small") 497, Value.str (Str.ofString "/claim/cut.py") 498, Value.int 140 0, Value.int 3 0, Value.int 0 0, Value.int 0 0, Value.int 3 0, Value.ref 190, Value.bool true, Value.int 181 0, Value.ref 191, Value.none, Value.ref 192, Value.ref 193, Value.ref 194, Value.int 504 0, Value.int 140 0, Value.str (Str.ofString "/claim/cut.py") 505] }),
  (196, fnAt 26 195 "gmp.school" 478),
  (202, { cls := Value.type "code", data := Data.fields #[Value.str (Str.ofString "guessed_limb") 507, Value.str (Str.ofString "guessed_limb") 508, Value.str (Str.ofString "/claim/cut.py") 509, Value.int 143 0, Value.int 4 0, Value.int 0 0, Value.int 0 0, Value.int 3 0, Value.ref 197, Value.bool true, Value.int 181 0, Value.ref 198, Value.none, Value.ref 199, Value.ref 200, Value.ref 201, Value.int 518 0, Value.int 143 0, Value.str (Str.ofString "/claim/cut.py") 519] }),
  (203, fnAt 27 202 "gmp.school" 478),
  (209, { cls := Value.type "code", data := Data.fields #[Value.str (Str.ofString "take_away") 521, Value.str (Str.ofString "take_away") 522, Value.str (Str.ofString "/claim/cut.py") 523, Value.int 151 0, Value.int 5 0, Value.int 0 0, Value.int 0 0, Value.int 3 0, Value.ref 204, Value.bool true, Value.int 181 0, Value.ref 205, Value.none, Value.ref 206, Value.ref 207, Value.ref 208, Value.int 534 0, Value.int 151 0, Value.str (Str.ofString "/claim/cut.py") 535] }),
  (210, fnAt 28 209 "gmp.school" 478),
  (216, { cls := Value.type "code", data := Data.fields #[Value.str (Str.ofString "put_back") 537, Value.str (Str.ofString "put_back") 538, Value.str (Str.ofString "/claim/cut.py") 539, Value.int 160 0, Value.int 4 0, Value.int 0 0, Value.int 0 0, Value.int 3 0, Value.ref 211, Value.bool true, Value.int 181 0, Value.ref 212, Value.none, Value.ref 213, Value.ref 214, Value.ref 215, Value.int 548 0, Value.int 160 0, Value.str (Str.ofString "/claim/cut.py") 549] }),
  (217, fnAt 29 216 "gmp.school" 478),
  (223, { cls := Value.type "code", data := Data.fields #[Value.str (Str.ofString "divide_rows") 551, Value.str (Str.ofString "divide_rows") 552, Value.str (Str.ofString "/claim/cut.py") 553, Value.int 167 0, Value.int 3 0, Value.int 0 0, Value.int 0 0, Value.int 3 0, Value.ref 218, Value.bool true, Value.int 181 0, Value.ref 219, Value.none, Value.ref 220, Value.ref 221, Value.ref 222, Value.int 561 0, Value.int 167 0, Value.str (Str.ofString "/claim/cut.py") 562] }),
  (224, fnAt 30 223 "gmp.school" 478),
  (230, { cls := Value.type "code", data := Data.fields #[Value.str (Str.ofString "divrem_school") 564, Value.str (Str.ofString "divrem_school") 565, Value.str (Str.ofString "/claim/cut.py") 566, Value.int 177 0, Value.int 3 0, Value.int 0 0, Value.int 0 0, Value.int 3 0, Value.ref 225, Value.bool true, Value.int 181 0, Value.ref 226, Value.none, Value.ref 227, Value.ref 228, Value.ref 229, Value.int 574 0, Value.int 177 0, Value.str (Str.ofString "/claim/cut.py") 575] }),
  (231, fnAt 31 230 "gmp.school" 478),
  (237, { cls := Value.type "code", data := Data.fields #[Value.str (Str.ofString "_law_cut") 579, Value.str (Str.ofString "_law_cut") 580, Value.str (Str.ofString "/claim/cut.py") 581, Value.int 191 0, Value.int 2 0, Value.int 0 0, Value.int 0 0, Value.int 3 0, Value.ref 232, Value.bool true, Value.int 181 0, Value.ref 233, Value.none, Value.ref 234, Value.ref 235, Value.ref 236, Value.int 584 0, Value.int 191 0, Value.str (Str.ofString "/claim/cut.py") 585] }),
  (238, fnAt 33 237 "law_sj0083_01" 577),
  (244, { cls := Value.type "code", data := Data.fields #[Value.str (Str.ofString "_law_limbs") 587, Value.str (Str.ofString "_law_limbs") 588, Value.str (Str.ofString "/claim/cut.py") 589, Value.int 196 0, Value.int 2 0, Value.int 0 0, Value.int 0 0, Value.int 3 0, Value.ref 239, Value.bool true, Value.int 181 0, Value.ref 240, Value.none, Value.ref 241, Value.ref 242, Value.ref 243, Value.int 593 0, Value.int 196 0, Value.str (Str.ofString "/claim/cut.py") 594] }),
  (245, fnAt 34 244 "law_sj0083_01" 577),
  (251, { cls := Value.type "code", data := Data.fields #[Value.str (Str.ofString "_law_whole") 596, Value.str (Str.ofString "_law_whole") 597, Value.str (Str.ofString "/claim/cut.py") 598, Value.int 202 0, Value.int 2 0, Value.int 0 0, Value.int 0 0, Value.int 3 0, Value.ref 246, Value.bool true, Value.int 181 0, Value.ref 247, Value.none, Value.ref 248, Value.ref 249, Value.ref 250, Value.int 603 0, Value.int 202 0, Value.str (Str.ofString "/claim/cut.py") 604] }),
  (252, fnAt 35 251 "law_sj0083_01" 577),
  (258, { cls := Value.type "code", data := Data.fields #[Value.str (Str.ofString "_law_shared") 606, Value.str (Str.ofString "_law_shared") 607, Value.str (Str.ofString "/claim/cut.py") 608, Value.int 207 0, Value.int 2 0, Value.int 0 0, Value.int 0 0, Value.int 3 0, Value.ref 253, Value.bool true, Value.int 181 0, Value.ref 254, Value.none, Value.ref 255, Value.ref 256, Value.ref 257, Value.int 611 0, Value.int 207 0, Value.str (Str.ofString "/claim/cut.py") 612] }),
  (259, fnAt 36 258 "law_sj0083_01" 577),
  (263, { cls := Value.type "code", data := Data.fields #[Value.str (Str.ofString "_law_leads_back") 614, Value.str (Str.ofString "_law_leads_back") 615, Value.str (Str.ofString "/claim/cut.py") 616, Value.int 211 0, Value.int 4 0, Value.int 0 0, Value.int 0 0, Value.int 3 0, Value.ref 260, Value.bool true, Value.int 181 0, Value.ref 261, Value.none, Value.none, Value.none, Value.ref 262, Value.int 617 0, Value.int 211 0, Value.str (Str.ofString "/claim/cut.py") 618] }),
  (264, fnAt 37 263 "law_sj0083_01" 577),
  (268, { cls := Value.type "code", data := Data.fields #[Value.str (Str.ofString "law") 620, Value.str (Str.ofString "law") 621, Value.str (Str.ofString "/claim/cut.py") 622, Value.int 215 0, Value.int 1 0, Value.int 0 0, Value.int 0 0, Value.int 3 0, Value.ref 265, Value.bool true, Value.int 181 0, Value.ref 266, Value.none, Value.none, Value.none, Value.ref 267, Value.int 623 0, Value.int 215 0, Value.str (Str.ofString "/claim/cut.py") 624] }),
  (269, fnAt 38 268 "law_sj0083_01" 577)]

theorem Kf_as : ∀ P, [3, 57, 58, 64, 65, 71, 72, 78, 79, 85, 86, 92, 93, 99, 100, 106, 107, 113, 114, 115, 116, 117, 118, 119, 125, 126, 132, 133, 139, 140, 146, 147, 153, 154, 160, 161, 167, 168, 174, 175, 181, 182, 188, 189, 195, 196, 202, 203, 209, 210, 216, 217, 223, 224, 230, 231, 237, 238, 244, 245, 251, 252, 258, 259, 263, 264, 268, 269] = (Kf P).map (·.1) := fun P => by kernel_rfl
set_option maxHeartbeats 8000000 in
theorem law_said : PySem.Challenge.rw_sj0083_01.wellSaid = true := by
  rw [PySem.W.Fast.te9446332074065402090]
  kernel_rfl
set_option maxHeartbeats 8000000 in
theorem hd {d : DefRec} {kwd : List (Str × Expr)} (hdef : defOf view PySem.Challenge.rw_sj0083_01.row.name = some (d, kwd)) (hp : PySem.Challenge.rw_sj0083_01.row.prog.theDef PySem.Challenge.rw_sj0083_01.row.name = some (d.params, d.body, d.scope)) (hk : kwWritten? d.params.kwonlyargs d.params.kw_defaults = some kwd)
    (hc : WalkO view lse (XL view []) (kHook Kf _ Kf_as).says PySem.Challenge.rw_sj0083_01.row.toRowW d kwd fun f vs => PySem.call f vs) : PySem.Challenge.rw_sj0083_01.Holds := by
  refine holds_law law_said fun said => ?_
  refine holds_open (q := view) (loose := lse) (Xt := fun s => xlAt view [] s && recOk (RowW.records PySem.Challenge.rw_sj0083_01.row.toRowW) s) (XP := XL view []) (Yf := Hook.obs (kHook Kf _ Kf_as)) (Ya := Hook.val (kHook Kf _ Kf_as)) (YP := Hook.says (kHook Kf _ Kf_as)) (N := 3590) ?hl
    (Hook.of _) (Hook.keeps _) (fun s e => xl_of s (Bool.and_eq_true_iff.mp e).1) XL.keeps hdef hp hk (fun s e => recFacts_of (Bool.and_eq_true_iff.mp e).2) (by rfl) (by first | assumption | decide +kernel) (by decide +kernel) ⟨rfl, rfl, rfl, rfl, rfl, by decide +kernel⟩ ?hw hc
  case hl =>
    -- by the library's quick twins of the run
    intro w
    unfold openEnds topFrom fencedOpening
    rw [PySem.W.Fast.te14082659384304107361, PySem.W.Fast.te10274390034422433532, PySem.W.Fast.te14364793385576792824, PySem.W.Fast.te4187177175401517315, PySem.W.Fast.te14289696077712309145]
    kernel_rfl
  case hw => w_witness2
end Mine
namespace Mine
open PySem PySem.W PySem.Calls PyProof.Rows
local macro_rules | `(tactic| walk_at "om") => `(tactic| first
  | with_reducible assumption
  | decide
  | with_reducible exact Nat.le_refl _
  | exact Nat.lt_of_lt_of_le (by with_reducible assumption) (by decide)
  | lia
  | omega)

/-! ## values, objects, heaps -/
inductive V where
  | int (i : Int)
  | bool (b : Bool)
  | none
  | ref (a : Addr)

inductive VR : V → Value → Prop where
  | int {i : Int} {t : Tok} : VR (.int i) (.int i t)
  | bool {b : Bool} : VR (.bool b) (.bool b)
  | none : VR .none .none
  | ref {a : Addr} : VR (.ref a) (.ref a)

inductive VsR : List V → List Value → Prop where
  | nil : VsR [] []
  | cons {v : V} {vs : List V} {u : Value} {us : List Value} : VR v u → VsR vs us → VsR (v :: vs) (u :: us)

structure HO where
  w : Bool
  tup : Bool
  xs : List V

abbrev Hp := Addr → Option HO

def Hp.set (H : Hp) (a : Addr) (o : HO) : Hp := fun b => if b = a then some o else H b

def OR (o : HO) (h : Heap) (a : Addr) : Prop :=
  ∃ (us : List Value) (n : Nat), VsR o.xs us ∧ h.get? a = some { cls := .type (if o.tup then "tuple" else "list"), data := .seq us.toArray n }

structure Cx where
  prog : Program
  w : World
  K : Frag
  p : Program
  loose : List Str
  mg : Str → Option Value
  mb : Str → Option Value
  hs : Heap

structure Cx.Ok (c : Cx) : Prop where
  k : c.K.In c.hs
  t : TopRead c.p c.loose c.mg c.mb c.hs

/-- a frame: everything of its Env that is not the same in all frames -/
structure Fm where
  sc : Scope
  L : Addr
  cl : List (Str × Addr)
  ql : Str
  fn : Option Addr
  cd : Value
  fo : Option Addr

abbrev Fm.env (f : Fm) : Env := { scope := f.sc, locals := f.L, globals := mainGlobals, cells := f.cl, qual := f.ql, func := f.fn, code := f.cd, frame := f.fo, builtins := builtinsNs }
/-- the frame of a def without cells -/
abbrev Fm.of (nm : Str) (sc : Scope) (L a : Addr) (cd : Value) : Fm := ⟨sc, L, [], nm ++ ".<locals>.", some a, cd, some L⟩

structure HS (c : Cx) (H : Hp) (s : Shared) : Prop where
  obj : ∀ a o, H a = some o → OR o s.heap a
  wr : ∀ a o, H a = some o → o.w = true → c.hs.get? a = none
  keeps : ∀ b o, c.hs.get? b = some o → s.heap.get? b = some o

def lkp : List (Str × V) → Str → Option V
  | [], _ => none
  | (y, v) :: r, x => if x = y then some v else lkp r x

def put : List (Str × V) → Str → V → List (Str × V)
  | [], x, v => [(x, v)]
  | (y, u) :: r, x, v => if x = y then (y, v) :: r else (y, u) :: put r x v

theorem lkp_put (m : List (Str × V)) (x : Str) (v : V) (y : Str) : lkp (put m x v) y = if y = x then some v else lkp m y := by
  induction m with
  | nil => simp [put, lkp]
  | cons p r ih =>
    obtain ⟨z, u⟩ := p
    simp only [put]
    by_cases h : x = z
    · subst h
      simp only [if_true, lkp]
      by_cases h2 : y = x <;> simp [h2]
    · simp only [if_neg h, lkp, ih]
      by_cases h2 : y = z
      · subst h2
        have : ¬ y = x := fun e => h e.symm
        simp [this]
      · simp [h2]

inductive MR : Option V → Option Value → Prop where
  | none {u : Option Value} : MR none u
  | some {v : V} {u : Value} : VR v u → MR (some v) (some u)

structure FS (c : Cx) (L : Addr) (m : List (Str × V)) (H : Hp) (s : Shared) : Prop extends HS c H s where
  ns : ∃ mm, s.heap.Ns L mm ∧ ∀ x, MR (lkp m x) (mm x)
  hL : H L = none
  hsL : c.hs.get? L = none

structure SC (ex : Addr → Prop) (H : Hp) (s : Shared) (H' : Hp) (s' : Shared) : Prop where
  same : s' = { s with heap := s'.heap, toks := s'.toks }
  keep : ∀ b o, ¬ ex b → (∀ q, H b = some q → q.w = false) → s.heap.get? b = some o → s'.heap.get? b = some o
  alive : ∀ b o, s.heap.get? b = some o → ∃ o', s'.heap.get? b = some o'
  new : ∀ b q, H' b = some q → s.heap.get? b = none ∨ ∃ q0, H b = some q0 ∧ (q.w = true → q0.w = true)

theorem SC.refl {ex : Addr → Prop} {H : Hp} {s : Shared} : SC ex H s H s :=
  ⟨rfl, fun _ _ _ _ e => e, fun _ o e => ⟨o, e⟩, fun _ q e => .inr ⟨q, e, id⟩⟩

theorem SC.trans {ex : Addr → Prop} {H H1 H2 : Hp} {s s1 s2 : Shared} (x : SC ex H s H1 s1) (y : SC ex H1 s1 H2 s2) : SC ex H s H2 s2 where
  same := by
    have h1 := x.same
    have h2 := y.same
    rw [h2]
    rw [h1]
  keep := fun b o hb hq e => y.keep b o hb (fun q hq1 => by
    rcases x.new b q hq1 with h | ⟨q0, h0, h1⟩
    · rw [h] at e; cases e
    · have := hq q0 h0
      cases hw : q.w with
      | false => rfl
      | true => rw [h1 hw] at this; cases this) (x.keep b o hb hq e)
  alive := fun b o e => by obtain ⟨o1, e1⟩ := x.alive b o e; exact y.alive b o1 e1
  new := fun b q e => by
    rcases y.new b q e with h | ⟨q1, h1, w1⟩
    · left
      cases hs : s.heap.get? b with
      | none => rfl
      | some o => obtain ⟨o1, e1⟩ := x.alive b o hs; rw [h] at e1; cases e1
    · rcases x.new b q1 h1 with h | ⟨q0, h0, w0⟩
      · exact .inl h
      · exact .inr ⟨q0, h0, fun h => w0 (w1 h)⟩

/-- a step that keeps everything that lives, and the abstract heap -/
theorem HS.grow {c : Cx} {H : Hp} {s : Shared} {h' : Heap} {tk : Nat} (S : HS c H s) (hk : ∀ b o, s.heap.get? b = some o → h'.get? b = some o) : HS c H { s with heap := h', toks := tk } where
  obj := fun a o e => by
    obtain ⟨us, n, r, h1⟩ := S.obj a o e
    exact ⟨us, n, r, hk _ _ h1⟩
  wr := S.wr
  keeps := fun b o e => hk _ _ (S.keeps b o e)
theorem FS.grow {c : Cx} {L : Addr} {m : List (Str × V)} {H : Hp} {s : Shared} {h' : Heap} {tk : Nat} (S : FS c L m H s) (hk : ∀ b o, s.heap.get? b = some o → h'.get? b = some o) : FS c L m H { s with heap := h', toks := tk } where
  toHS := S.toHS.grow hk
  ns := by obtain ⟨mm, n, r⟩ := S.ns; exact ⟨mm, n.keeps hk, r⟩
  hL := S.hL
  hsL := S.hsL
theorem SC.grow {ex : Addr → Prop} {H : Hp} {s : Shared} {h' : Heap} {tk : Nat} (hk : ∀ b o, s.heap.get? b = some o → h'.get? b = some o) : SC ex H s H { s with heap := h', toks := tk } :=
  ⟨rfl, fun b o _ _ e => hk b o e, fun b o e => ⟨o, hk b o e⟩, fun _ q e => .inr ⟨q, e, id⟩⟩
theorem FS.tok {c : Cx} {L : Addr} {m : List (Str × V)} {H : Hp} {s : Shared} {tk : Nat} (S : FS c L m H s) : FS c L m H { s with toks := tk } := S.grow (h' := s.heap) fun _ _ e => e
theorem SC.tok {ex : Addr → Prop} {H : Hp} {s : Shared} {tk : Nat} : SC ex H s H { s with toks := tk } := SC.grow (h' := s.heap) fun _ _ e => e

/-- a tracked object is live -/
theorem HS.live {c : Cx} {H : Hp} {s : Shared} (S : HS c H s) {a : Addr} {o : HO} (e : H a = some o) : ∃ ob, s.heap.get? a = some ob := by
  obtain ⟨_, _, _, h⟩ := S.obj a o e; exact ⟨_, h⟩
theorem HS.fresh {c : Cx} {H : Hp} {s : Shared} (S : HS c H s) {a : Addr} (e : s.heap.get? a = none) : H a = none := by
  cases h : H a with
  | none => rfl
  | some o => obtain ⟨ob, h1⟩ := S.live h; rw [e] at h1; cases h1
theorem HS.freshS {c : Cx} {H : Hp} {s : Shared} (S : HS c H s) {a : Addr} (e : s.heap.get? a = none) : c.hs.get? a = none := by
  cases h : c.hs.get? a with
  | none => rfl
  | some o => rw [S.keeps _ _ h] at e; cases e
theorem size_fresh (h : Heap) : h.get? h.objs.size = none := by
  cases e : h.get? h.objs.size with
  | none => rfl
  | some o => exact absurd (Heap.lt_size e) (Nat.lt_irrefl _)

/-- a new object laid at the end, tracked -/
theorem HS.alloc {c : Cx} {H : Hp} {s : Shared} {o : HO} {n tk : Nat} (S : HS c H s) {us : List Value} (r : VsR o.xs us) :
    HS c (H.set s.heap.objs.size o) { s with heap := s.heap.push { cls := .type (if o.tup then "tuple" else "list"), data := .seq us.toArray n }, toks := tk } where
  obj := fun a q e => by
    unfold Hp.set at e
    by_cases h : a = s.heap.objs.size
    · subst h
      rw [if_pos rfl] at e; cases e
      exact ⟨us, n, r, Heap.get?_push_size _ rfl⟩
    · rw [if_neg h] at e
      obtain ⟨us', n', r', h1⟩ := S.obj a q e
      exact ⟨us', n', r', Heap.get?_push_of_some _ h1⟩
  wr := fun a q e hw => by
    unfold Hp.set at e
    by_cases h : a = s.heap.objs.size
    · subst h; exact S.freshS (size_fresh _)
    · rw [if_neg h] at e; exact S.wr a q e hw
  keeps := fun b o e => Heap.get?_push_of_some _ (S.keeps b o e)
theorem FS.alloc {c : Cx} {L : Addr} {m : List (Str × V)} {H : Hp} {s : Shared} {o : HO} {n tk : Nat} (S : FS c L m H s) {us : List Value} (r : VsR o.xs us) :
    FS c L m (H.set s.heap.objs.size o) { s with heap := s.heap.push { cls := .type (if o.tup then "tuple" else "list"), data := .seq us.toArray n }, toks := tk } where
  toHS := S.toHS.alloc r
  ns := by obtain ⟨mm, n, r⟩ := S.ns; exact ⟨mm, n.keeps fun _ _ e => Heap.get?_push_of_some _ e, r⟩
  hL := by
    obtain ⟨mm, ⟨o, es, ep, h, _⟩, _⟩ := S.ns
    have := Heap.lt_size h
    unfold Hp.set
    rw [if_neg (Nat.ne_of_lt this)]; exact S.hL
  hsL := S.hsL
theorem SC.alloc {ex : Addr → Prop} {H : Hp} {s : Shared} {o : HO} {ob : Obj} {tk : Nat} : SC ex H s (H.set s.heap.objs.size o) { s with heap := s.heap.push ob, toks := tk } where
  same := rfl
  keep := fun b o _ _ e => Heap.get?_push_of_some _ e
  alive := fun b o e => ⟨o, Heap.get?_push_of_some _ e⟩
  new := fun b q e => by
    unfold Hp.set at e
    by_cases h : b = s.heap.objs.size
    · subst h; exact .inl (size_fresh _)
    · rw [if_neg h] at e; exact .inr ⟨q, e, id⟩

/-! ## judgements -/
def SM {α β : Type} (c : Cx) (A : Around) (L : Addr) (m : List (Str × V)) (H : Hp) (t : Sem α) (R : β → α → Prop) (Q : β → Hp → Prop) : Prop :=
  ∀ s, FS c L m H s → wpAny (model c.prog c.w) A t (fun v s' => ∃ v' H', R v' v ∧ FS c L m H' s' ∧ SC (fun _ => False) H s H' s' ∧ Q v' H') (fun _ _ => False) s

theorem SM.uses {α β : Type} {c : Cx} {A : Around} {L : Addr} {m : List (Str × V)} {H : Hp} {t : Sem α} {R : β → α → Prop} {Q : β → Hp → Prop} (h : SM c A L m H t R Q) {s : Shared} (S : FS c L m H s) {Q0 : α → Shared → Prop}
    (k : ∀ v v' H' s', R v' v → FS c L m H' s' → SC (fun _ => False) H s H' s' → Q v' H' → Q0 v s') : wpAny (model c.prog c.w) A t Q0 (fun _ _ => False) s :=
  wpAny_mono (h s S) (fun v s' ⟨v', H', r, S', T, q⟩ => k v v' H' s' r S' T q) fun _ _ x => x
theorem SM.use {α β : Type} {c : Cx} {A : Around} {L : Addr} {m : List (Str × V)} {H : Hp} {t : Sem α} {R : β → α → Prop} {Q : β → Hp → Prop} (h : SM c A L m H t R Q) {s : Shared} (S : FS c L m H s) {Q0 : α → Shared → Prop}
    (k : ∀ v v' H' s', R v' v → FS c L m H' s' → SC (· = L) H s H' s' → Q v' H' → Q0 v s') : wpAny (model c.prog c.w) A t Q0 (fun _ _ => False) s :=
  wpAny_mono (h s S) (fun v s' ⟨v', H', r, S', T, q⟩ => k v v' H' s' r S' ⟨T.same, fun b o hb => T.keep b o id, T.alive, T.new⟩ q) fun _ _ x => x

abbrev EV (c : Cx) (A : Around) (f : Fm) (e : Expr) (m : List (Str × V)) (H : Hp) (Q : V → Hp → Prop) : Prop := SM c A f.L m H (eval e f.env) VR Q
abbrev TV (c : Cx) (A : Around) (f : Fm) (e : Expr) (m : List (Str × V)) (H : Hp) (Q : Bool → Hp → Prop) : Prop := SM c A f.L m H (isTrue e f.env (eval e f.env)) (fun b b' : Bool => b = b') Q
def EVs (c : Cx) (A : Around) (f : Fm) (es : List (Bool × Sem Value)) (m : List (Str × V)) (H : Hp) (Q : List V → Hp → Prop) : Prop := SM c A f.L m H (spliced es) VsR Q

def EX (c : Cx) (A : Around) (f : Fm) (st : Sem Flow) (m : List (Str × V)) (H : Hp) (N : List (Str × V) → Hp → Prop) (R : V → Hp → Prop) : Prop :=
  ∀ s, FS c f.L m H s → wpAny (model c.prog c.w) A st (fun fl s' => match fl with
    | .next => ∃ m' H', FS c f.L m' H' s' ∧ SC (· = f.L) H s H' s' ∧ N m' H'
    | .ret v => ∃ v' m' H', VR v' v ∧ FS c f.L m' H' s' ∧ SC (· = f.L) H s H' s' ∧ R v' H'
    | _ => False) (fun _ _ => False) s

def CALL (c : Cx) (A : Around) (f : Addr) (vs : List V) (H : Hp) (Q : V → Hp → Prop) : Prop :=
  ∀ s args, HS c H s → VsR vs args → codeAny (model c.prog c.w) A (.call (.ref f) ⟨args, []⟩)
    (fun r s' => ∃ v v' H', r = .ok (.ret v) ∧ VR v' v ∧ HS c H' s' ∧ SC (fun _ => False) H s H' s' ∧ Q v' H') s

/-- where a call of n frames more has room -/
structure Rm (A : Around) (n : Nat) : Prop where
  h : A.handled = none
  d : A.depth + n < recursionLimit

/-! ## what a rule asks of the values, as one bundle -/
inductive Two (P Q : Int → Int → Prop) (a b : V) : Prop
  | mk (i j : Int) (ea : a = .int i) (eb : b = .int j) (p : P i j) (q : Q i j) : Two P Q a b
inductive TwoN (P Q : Int → Nat → Prop) (a b : V) : Prop
  | mk (i : Int) (k : Nat) (ea : a = .int i) (eb : b = .int k) (p : P i k) (q : Q i k) : TwoN P Q a b
inductive PkLen (H : Hp) (Q : Nat → Prop) (v : V) : Prop
  | mk (r : Addr) (w : Bool) (xs : List V) (e : v = .ref r) (h : H r = some ⟨w, false, xs⟩) (n : xs.length ≤ 4096) (q : Q xs.length) : PkLen H Q v
inductive PkSet (H : Hp) (Q : Addr → List V → Int → Prop) (a b : V) : Prop
  | mk (D : Addr) (xs : List V) (k : Int) (ea : a = .ref D) (eb : b = .int k) (h : H D = some ⟨true, false, xs⟩) (p : 0 ≤ k ∧ k < xs.length ∧ k < 2 ^ 62) (q : Q D xs k) : PkSet H Q a b
inductive PkTwo (Q : V → V → Prop) (vs : List V) : Prop
  | mk (a b : V) (e : vs = [a, b]) (q : Q a b) : PkTwo Q vs
end Mine
namespace Mine
open PySem PySem.W PySem.Calls PyProof.Rows
local macro_rules | `(tactic| walk_at "om") => `(tactic| first
  | with_reducible assumption
  | decide
  | with_reducible exact Nat.le_refl _
  | exact Nat.lt_of_lt_of_le (by with_reducible assumption) (by decide)
  | lia
  | omega)

section
variable {c : Cx} {A : Around} {f : Fm} {m : List (Str × V)} {H : Hp} {Q : V → Hp → Prop}

/-! ## names, constants -/
theorem FS.ld {s : Shared} (S : FS c f.L m H s) {x : Str} {v : V} (hv : lkp m x = some v) : ∃ mm u, s.heap.Ns f.L mm ∧ mm x = some u ∧ VR v u := by
  obtain ⟨mm, n, r⟩ := S.ns
  have := r x
  rw [hv] at this
  cases h : mm x with
  | none => rw [h] at this; cases this
  | some u => rw [h] at this; cases this with | some q => exact ⟨mm, u, n, h, q⟩

theorem EV_local {x : Str} {pos : Pos} {v : V} (hv : lkp m x = some v) (q : Q v H)
    (hk : f.sc.kind = .function := by with_unfolding_all rfl) (hx : f.env.kindOf x = some .local := by with_unfolding_all rfl) (hd : (x == ("__debug__" : Str)) = false := by decide) : EV c A f (.Name x pos) m H Q := fun s S => by
  obtain ⟨mm, u, n, e, r⟩ := S.ld hv
  exact wpAny_Name (wpAny_loadName_local (env := f.env) hk hx n e ⟨v, H, r, S, .refl, q⟩) hd

theorem LD_local {x : Str} {v : V} (hv : lkp m x = some v) (q : Q v H)
    (hk : f.sc.kind = .function := by with_unfolding_all rfl) (hx : f.env.kindOf x = some .local := by with_unfolding_all rfl) : SM c A f.L m H (loadName f.env x) VR Q := fun s S => by
  obtain ⟨mm, u, n, e, r⟩ := S.ld hv
  exact wpAny_loadName_local (env := f.env) hk hx n e ⟨v, H, r, S, .refl, q⟩

theorem EV_glob {x : Str} {pos : Pos} {a : Addr} (O : c.Ok) (e : nsIn c.K mainGlobals x = some (some (.ref a))) (q : Q (.ref a) H)
    (hk : f.sc.kind = .function := by with_unfolding_all rfl) (hx : f.env.kindOf x = some .globalImplicit := by with_unfolding_all rfl) (hd : (x == ("__debug__" : Str)) = false := by decide) : EV c A f (.Name x pos) m H Q := fun s S =>
  Name_function_global (env := f.env) hk hx (loadGlobal_global (env := f.env) (O.t.g.keeps S.keeps) (mg_of O.k O.t.g e) ⟨.ref a, H, .ref, S, .refl, q⟩) hd

theorem EV_int {i : Int} {k : Nat} {pos : Pos} (q : Q (.int i) H) : EV c A f (.Constant (.int i) k pos) m H Q := fun _ S =>
  wpAny_Constant_int ⟨.int i, H, .int, S.tok, .tok, q⟩

theorem EV_bool {b : Bool} {k : Nat} {pos : Pos} (q : Q (.bool b) H) : EV c A f (.Constant (.bool b) k pos) m H Q := fun _ S =>
  fun _ _ _ => ⟨.bool b, H, .bool, S, .refl, q⟩

theorem SM.mono {α β : Type} {L : Addr} {t : Sem α} {R : β → α → Prop} {Q Q' : β → Hp → Prop} (h : SM c A L m H t R Q) (hq : ∀ b H', Q b H' → Q' b H') : SM c A L m H t R Q' := fun s S =>
  wpAny_mono (h s S) (fun _ _ ⟨a, H1, r1, S1, T1, q1⟩ => ⟨a, H1, r1, S1, T1, hq _ _ q1⟩) fun _ _ x => x

theorem SM_tok {L : Addr} {t : Sem Value} {v : V} {mk : Tok → Value} (hr : ∀ k, VR v (mk k)) (q : Q v H)
    (h : ∀ (s : Shared) (Q0 : Value → Shared → Prop), (∀ k tk, Q0 (mk k) { s with toks := tk }) → wpAny (model c.prog c.w) A t Q0 (fun _ _ => False) s) : SM c A L m H t VR Q := fun s S =>
  h s _ fun k tk => ⟨v, H, hr k, S.tok, .tok, q⟩

/-! ## operators -/
theorem EV_BinOp {l r : Expr} {op : Operator} {pos : Pos} (h : EV c A f l m H (fun a H1 => EV c A f r m H1 (fun b H2 => ∀ x y, VR a x → VR b y → SM c A f.L m H2 (binaryOp op x y) VR Q))) :
    EV c A f (.BinOp l op r pos) m H Q := fun _ S =>
  wpAny_BinOp (h.uses S fun _ _ _ _ r1 S1 T1 q1 => q1.uses S1 fun _ _ _ _ r2 S2 T2 q2 => (q2 _ _ r1 r2).uses S2 fun _ z _ _ r3 S3 T3 q3 => ⟨z, _, r3, S3, T1.trans (T2.trans T3), q3⟩)

theorem EV_int2 {l r : Expr} {op : Operator} {pos : Pos} {P : Int → Int → Prop} {g : Int → Int → Int}
    (hop : ∀ i j t u (s : Shared) (Q0 : Value → Shared → Prop), P i j → Q0 (.int (g i j) s.toks) { s with toks := s.toks + 1 } → wpAny (model c.prog c.w) A (binaryOp op (.int i t) (.int j u)) Q0 (fun _ _ => False) s)
    (h : EV c A f l m H (fun a H1 => EV c A f r m H1 (fun b H2 => Two (fun i j => P i j) (fun i j => Q (.int (g i j)) H2) a b))) : EV c A f (.BinOp l op r pos) m H Q :=
  EV_BinOp (h.mono fun _ _ q1 => q1.mono fun _ _ ⟨i, j, ea, eb, p, q⟩ => by
    subst ea; subst eb
    intro x y hx hy; cases hx; cases hy
    exact SM_tok (mk := Value.int (g i j)) (fun _ => .int) q fun s _ hq => hop _ _ _ _ _ _ p (hq _ _))

abbrev I2 (c : Cx) (A : Around) (f : Fm) (l r : Expr) (m : List (Str × V)) (H : Hp) (P : Int → Int → Prop) (Q : Int → Int → Hp → Prop) : Prop :=
  EV c A f l m H (fun a H1 => EV c A f r m H1 (fun b H2 => Two (fun i j => P i j) (fun i j => Q i j H2) a b))

section
variable {l r : Expr} {pos : Pos}
theorem EV_add (h : EV c A f l m H (fun a H1 => EV c A f r m H1 (fun b H2 => Two (fun i j => True) (fun i j => Q (.int (i + j)) H2) a b))) : EV c A f (.BinOp l .Add r pos) m H Q := EV_int2 (P := fun _ _ => True) (fun _ _ _ _ _ _ _ hq => PyProof.Rows.add_int hq) h
theorem EV_sub (h : EV c A f l m H (fun a H1 => EV c A f r m H1 (fun b H2 => Two (fun i j => True) (fun i j => Q (.int (i - j)) H2) a b))) : EV c A f (.BinOp l .Sub r pos) m H Q := EV_int2 (P := fun _ _ => True) (fun _ _ _ _ _ _ _ hq => PyProof.Rows.sub_int hq) h
theorem EV_mul (h : EV c A f l m H (fun a H1 => EV c A f r m H1 (fun b H2 => Two (fun i j => -(2 ^ 40) < i ∧ i < 2 ^ 40) (fun i j => Q (.int (i * j)) H2) a b))) : EV c A f (.BinOp l .Mult r pos) m H Q :=
  EV_int2 (P := fun i _ => -(2 ^ 40) < i ∧ i < 2 ^ 40) (fun i j _ _ _ _ p hq => PyProof.Rows.mul_int hq (.of_left (intBits_le_64 (by walk_at "om") (by walk_at "om")))) h
theorem EV_floordiv (h : EV c A f l m H (fun a H1 => EV c A f r m H1 (fun b H2 => Two (fun i j => 0 < j ∧ j < 1073741824) (fun i j => Q (.int (i / j)) H2) a b))) : EV c A f (.BinOp l .FloorDiv r pos) m H Q :=
  EV_int2 (P := fun _ j => 0 < j ∧ j < 1073741824) (g := fun i j => i / j) (fun i j _ _ _ _ p hq => PyProof.Rows.floordiv_int (by walk_at "om") (by rw [Int.fdiv_eq_ediv_of_nonneg _ (by walk_at "om")]; exact hq) (.inl (PyProof.noPylong_small (by walk_at "om")))) h
theorem EV_mod (h : EV c A f l m H (fun a H1 => EV c A f r m H1 (fun b H2 => Two (fun i j => 0 < j) (fun i j => Q (.int (i % j)) H2) a b))) : EV c A f (.BinOp l .Mod r pos) m H Q :=
  EV_int2 (P := fun _ j => 0 < j) (g := fun i j => i % j) (fun i j _ _ _ _ p hq => PyProof.Rows.mod_int (by walk_at "om") (by rw [Int.fmod_eq_emod_of_nonneg _ (by walk_at "om")]; exact hq)) h
theorem EV_shl (h : EV c A f l m H (fun a H1 => EV c A f r m H1 (fun b H2 => TwoN (fun i k => k ≤ 1000 ∧ i.natAbs < 2 ^ 64) (fun i k => Q (.int (i * 2 ^ k)) H2) a b))) : EV c A f (.BinOp l .LShift r pos) m H Q :=
  EV_int2 (P := fun i j => 0 ≤ j ∧ j ≤ 1000000 ∧ i.natAbs < 2 ^ 64) (g := fun i j => i * 2 ^ j.toNat) (fun i j _ _ _ _ p hq => PyProof.Rows.lshift_int_small p.1 p.2.1 p.2.2 hq)
    (h.mono fun _ _ q => q.mono fun _ _ ⟨i, k, ea, eb, p, q⟩ => ⟨i, k, ea, eb, ⟨by walk_at "om", by walk_at "om", p.2⟩, by simpa using q⟩)
theorem EV_shr (h : EV c A f l m H (fun a H1 => EV c A f r m H1 (fun b H2 => TwoN (fun i k => True) (fun i k => Q (.int (i / 2 ^ k)) H2) a b))) : EV c A f (.BinOp l .RShift r pos) m H Q :=
  EV_int2 (P := fun _ j => 0 ≤ j) (g := fun i j => i.fdiv (2 ^ j.toNat)) (fun i j _ _ _ _ p hq => PyProof.Rows.rshift_int p hq)
    (h.mono fun _ _ q => q.mono fun _ _ ⟨i, k, ea, eb, p, q⟩ => ⟨i, k, ea, eb, by walk_at "om", by
      rw [Int.fdiv_eq_ediv_of_nonneg _ (Int.le_of_lt (Int.pow_pos (by decide)))]; simpa using q⟩)
theorem EV_and (h : EV c A f l m H (fun a H1 => EV c A f r m H1 (fun b H2 => Two (fun i j => True) (fun i j => Q (.int (Builtin.bitAnd i j)) H2) a b))) : EV c A f (.BinOp l .BitAnd r pos) m H Q :=
  EV_int2 (P := fun _ _ => True) (fun i j _ _ _ _ p hq => PyProof.Rows.and_int hq) h
theorem EV_or (h : EV c A f l m H (fun a H1 => EV c A f r m H1 (fun b H2 => Two (fun i j => True) (fun i j => Q (.int (Builtin.bitOr i j)) H2) a b))) : EV c A f (.BinOp l .BitOr r pos) m H Q :=
  EV_int2 (P := fun _ _ => True) (fun i j _ _ _ _ p hq => PyProof.Rows.or_int hq) h
theorem EV_pow (h : EV c A f l m H (fun a H1 => EV c A f r m H1 (fun b H2 => TwoN (fun i k => k ≤ 1000 ∧ i.natAbs < 2 ^ 64) (fun i k => Q (.int (i ^ k)) H2) a b))) : EV c A f (.BinOp l .Pow r pos) m H Q :=
  EV_int2 (P := fun i j => 0 ≤ j ∧ j ≤ 1000000 ∧ i.natAbs < 2 ^ 64) (g := fun i j => i ^ j.toNat) (fun i j _ _ _ _ p hq => PyProof.Rows.pow_int_small p.1 p.2.1 p.2.2 hq)
    (h.mono fun _ _ q => q.mono fun _ _ ⟨i, k, ea, eb, p, q⟩ => ⟨i, k, ea, eb, ⟨by walk_at "om", by walk_at "om", p.2⟩, by simpa using q⟩)
end

/-! ## comparisons, tests -/
theorem EV_cmp {l r : Expr} {op : CmpOp} {pos : Pos} {g : Int → Int → Bool}
    (hop : ∀ i j t u (s : Shared) (Q0 : Value → Shared → Prop), Q0 (.bool (g i j)) s → wpAny (model c.prog c.w) A (compareOp op (.int i t) (.int j u)) Q0 (fun _ _ => False) s)
    (h : EV c A f l m H (fun a H1 => EV c A f r m H1 (fun b H2 => Two (fun i j => True) (fun i j => Q (.bool (g i j)) H2) a b))) (hm : behindInMarks op r = false := by with_unfolding_all rfl) : EV c A f (.Compare l [op] [r] pos) m H Q := fun _ S =>
  wpAny_Compare1 (h.uses S fun _ _ _ _ r1 S1 T1 q1 => q1.uses S1 fun _ _ _ _ r2 S2 T2 q2 => by
    obtain ⟨i, j, ea, eb, _, q⟩ := q2
    subst ea; subst eb; cases r1; cases r2
    exact hop _ _ _ _ _ _ ⟨_, _, .bool, S2, T1.trans T2, q⟩) hm

theorem TV_cmp {l r : Expr} {op : CmpOp} {pos : Pos} {g : Int → Int → Bool} {Q : Bool → Hp → Prop}
    (hop : ∀ i j t u (s : Shared) (Q0 : Value → Shared → Prop), Q0 (.bool (g i j)) s → wpAny (model c.prog c.w) A (compareOp op (.int i t) (.int j u)) Q0 (fun _ _ => False) s)
    (h : EV c A f l m H (fun a H1 => EV c A f r m H1 (fun b H2 => Two (fun i j => True) (fun i j => Q (g i j) H2) a b))) (hm : behindInMarks op r = false := by with_unfolding_all rfl) : TV c A f (.Compare l [op] [r] pos) m H Q := fun _ S =>
  wpAny_isTrue_Compare1 (h.uses S fun _ _ _ _ r1 S1 T1 q1 => q1.uses S1 fun _ _ _ _ r2 S2 T2 q2 => by
    obtain ⟨i, j, ea, eb, _, q⟩ := q2
    subst ea; subst eb; cases r1; cases r2
    exact hop _ _ _ _ _ _ (wpAny_truthy_bool ⟨_, _, rfl, S2, T1.trans T2, q⟩)) hm

section
variable {l r : Expr} {pos : Pos}
theorem TV_lt {Q : Bool → Hp → Prop} (h : EV c A f l m H (fun a H1 => EV c A f r m H1 (fun b H2 => Two (fun i j => True) (fun i j => Q (decide (i < j)) H2) a b))) (hm : behindInMarks .Lt r = false := by with_unfolding_all rfl) : TV c A f (.Compare l [.Lt] [r] pos) m H Q := TV_cmp (fun _ _ _ _ _ _ hq => PyProof.Rows.lt_int hq) h hm
theorem TV_gt {Q : Bool → Hp → Prop} (h : EV c A f l m H (fun a H1 => EV c A f r m H1 (fun b H2 => Two (fun i j => True) (fun i j => Q (decide (j < i)) H2) a b))) (hm : behindInMarks .Gt r = false := by with_unfolding_all rfl) : TV c A f (.Compare l [.Gt] [r] pos) m H Q := TV_cmp (fun _ _ _ _ _ _ hq => PyProof.Rows.gt_int hq) h hm
theorem TV_le {Q : Bool → Hp → Prop} (h : EV c A f l m H (fun a H1 => EV c A f r m H1 (fun b H2 => Two (fun i j => True) (fun i j => Q (decide (i ≤ j)) H2) a b))) (hm : behindInMarks .LtE r = false := by with_unfolding_all rfl) : TV c A f (.Compare l [.LtE] [r] pos) m H Q := TV_cmp (fun _ _ _ _ _ _ hq => PyProof.Rows.le_int hq) h hm
theorem TV_ge {Q : Bool → Hp → Prop} (h : EV c A f l m H (fun a H1 => EV c A f r m H1 (fun b H2 => Two (fun i j => True) (fun i j => Q (decide (j ≤ i)) H2) a b))) (hm : behindInMarks .GtE r = false := by with_unfolding_all rfl) : TV c A f (.Compare l [.GtE] [r] pos) m H Q := TV_cmp (fun _ _ _ _ _ _ hq => PyProof.Rows.ge_int hq) h hm
theorem TV_eq {Q : Bool → Hp → Prop} (h : EV c A f l m H (fun a H1 => EV c A f r m H1 (fun b H2 => Two (fun i j => True) (fun i j => Q (i == j) H2) a b))) (hm : behindInMarks .Eq r = false := by with_unfolding_all rfl) : TV c A f (.Compare l [.Eq] [r] pos) m H Q := TV_cmp (fun _ _ _ _ _ _ hq => PyProof.Rows.eq_int hq) h hm
theorem TV_ne {Q : Bool → Hp → Prop} (h : EV c A f l m H (fun a H1 => EV c A f r m H1 (fun b H2 => Two (fun i j => True) (fun i j => Q (i != j) H2) a b))) (hm : behindInMarks .NotEq r = false := by with_unfolding_all rfl) : TV c A f (.Compare l [.NotEq] [r] pos) m H Q := TV_cmp (fun _ _ _ _ _ _ hq => PyProof.Rows.ne_int hq) h hm
theorem EV_lt (h : EV c A f l m H (fun a H1 => EV c A f r m H1 (fun b H2 => Two (fun i j => True) (fun i j => Q (.bool (decide (i < j))) H2) a b))) (hm : behindInMarks .Lt r = false := by with_unfolding_all rfl) : EV c A f (.Compare l [.Lt] [r] pos) m H Q := EV_cmp (fun _ _ _ _ _ _ hq => PyProof.Rows.lt_int hq) h hm
theorem EV_gt (h : EV c A f l m H (fun a H1 => EV c A f r m H1 (fun b H2 => Two (fun i j => True) (fun i j => Q (.bool (decide (j < i))) H2) a b))) (hm : behindInMarks .Gt r = false := by with_unfolding_all rfl) : EV c A f (.Compare l [.Gt] [r] pos) m H Q := EV_cmp (fun _ _ _ _ _ _ hq => PyProof.Rows.gt_int hq) h hm
theorem EV_eq (h : EV c A f l m H (fun a H1 => EV c A f r m H1 (fun b H2 => Two (fun i j => True) (fun i j => Q (.bool (i == j)) H2) a b))) (hm : behindInMarks .Eq r = false := by with_unfolding_all rfl) : EV c A f (.Compare l [.Eq] [r] pos) m H Q := EV_cmp (fun _ _ _ _ _ _ hq => PyProof.Rows.eq_int hq) h hm
end

/-- a test by its value -/
theorem TV_value {e : Expr} {Q : Bool → Hp → Prop} (h : EV c A f e m H (fun v H1 => ∃ b, v = .bool b ∧ Q b H1))
    (he : isTrue e f.env (eval e f.env) = (do let v ← eval e f.env; standAt e.pos; holding [v] (truthy v)) := by with_unfolding_all rfl) : TV c A f e m H Q := fun _ S =>
  isTrue_plain (h.uses S fun _ _ _ _ r1 S1 T1 q1 => by
    obtain ⟨b, e, q⟩ := q1
    subst e; cases r1
    exact wpAny_truthy_bool ⟨_, _, rfl, S1, T1, q⟩) he

theorem TV_not {x : Expr} {pos : Pos} {Q : Bool → Hp → Prop} (h : TV c A f x m H (fun b H1 => Q (!b) H1)) : TV c A f (.UnaryOp .Not x pos) m H Q := fun _ S =>
  isTrue_not (h.uses S fun _ _ _ _ r1 S1 T1 q1 => ⟨_, _, by rw [r1], S1, T1, q1⟩)

/-- a test with any whole (of a chain of and | or) -/
def TB (c : Cx) (A : Around) (f : Fm) (e : Expr) (w : Sem Value) (m : List (Str × V)) (H : Hp) (Q : Bool → Hp → Prop) : Prop := SM c A f.L m H (isTrue e f.env w) (fun b b' : Bool => b = b') Q
theorem TV_bools {op : BoolOp} {xs : List Expr} {pos : Pos} {Q : Bool → Hp → Prop} (h : TB c A f (.BoolOp op xs pos) (eval (.BoolOp op xs pos) f.env) m H Q) : TV c A f (.BoolOp op xs pos) m H Q := h
theorem TB_and {x : Expr} {rest : List Expr} {pos : Pos} {w : Sem Value} {Q : Bool → Hp → Prop} (h : TV c A f x m H (fun b H1 => (b = true → TB c A f (.BoolOp .And rest pos) w m H1 Q) ∧ (b = false → Q false H1))) :
    TB c A f (.BoolOp .And (x :: rest) pos) w m H Q := fun _ S =>
  isTrue_and (h.uses S fun b v' _ _ r1 S1 T1 q1 => by
    subst r1
    cases v' with
    | true => exact SM.uses (q1.1 rfl) S1 fun _ _ _ _ r2 S2 T2 q2 => ⟨_, _, r2, S2, T1.trans T2, q2⟩
    | false => exact ⟨_, _, rfl, S1, T1, q1.2 rfl⟩)
theorem TB_or {x : Expr} {rest : List Expr} {pos : Pos} {w : Sem Value} {Q : Bool → Hp → Prop} (h : TV c A f x m H (fun b H1 => (b = true → Q true H1) ∧ (b = false → TB c A f (.BoolOp .Or rest pos) w m H1 Q))) :
    TB c A f (.BoolOp .Or (x :: rest) pos) w m H Q := fun _ S =>
  isTrue_or (h.uses S fun b v' _ _ r1 S1 T1 q1 => by
    subst r1
    cases v' with
    | true => exact ⟨_, _, rfl, S1, T1, q1.1 rfl⟩
    | false => exact SM.uses (q1.2 rfl) S1 fun _ _ _ _ r2 S2 T2 q2 => ⟨_, _, r2, S2, T1.trans T2, q2⟩)
theorem TB_and_nil {pos : Pos} {w : Sem Value} {Q : Bool → Hp → Prop} (q : Q true H) : TB c A f (.BoolOp .And [] pos) w m H Q := fun _ S => isTrue_and_nil ⟨_, _, rfl, S, .refl, q⟩
theorem TB_or_nil {pos : Pos} {w : Sem Value} {Q : Bool → Hp → Prop} (q : Q false H) : TB c A f (.BoolOp .Or [] pos) w m H Q := fun _ S => isTrue_or_nil ⟨_, _, rfl, S, .refl, q⟩

/-- «and» for its value, over bools -/
theorem EV_and2 {x y : Expr} {rest : List Expr} {pos : Pos} (h : EV c A f x m H (fun v H1 => ∃ b, v = .bool b ∧ (b = true → EV c A f (.BoolOp .And (y :: rest) pos) m H1 Q) ∧ (b = false → Q (.bool false) H1))) :
    EV c A f (.BoolOp .And (x :: y :: rest) pos) m H Q := fun _ S =>
  BoolOp_and (h.uses S fun _ _ _ _ r1 S1 T1 q1 => by
    obtain ⟨b, e, q⟩ := q1
    subst e; cases r1
    refine wpAny_truthy_bool ?_
    cases b with
    | true => exact SM.uses (q.1 rfl) S1 fun _ _ _ _ r2 S2 T2 q2 => ⟨_, _, r2, S2, T1.trans T2, q2⟩
    | false => exact ⟨_, _, .bool, S1, T1, q.2 rfl⟩)
theorem EV_and1 {x : Expr} {pos : Pos} {op : BoolOp} (h : EV c A f x m H Q) : EV c A f (.BoolOp op [x] pos) m H Q := fun s S => BoolOp_one (h s S)

theorem EV_ifexp {t b o : Expr} {pos : Pos} (h : TV c A f t m H (fun x H1 => (x = true → EV c A f b m H1 Q) ∧ (x = false → EV c A f o m H1 Q))) : EV c A f (.IfExp t b o pos) m H Q := fun _ S =>
  wpAny_IfExp (h.uses S fun b v' _ _ r1 S1 T1 q1 => by
    subst r1
    cases v' with
    | true => exact SM.uses (q1.1 rfl) S1 fun _ _ _ _ r2 S2 T2 q2 => ⟨_, _, r2, S2, T1.trans T2, q2⟩
    | false => exact SM.uses (q1.2 rfl) S1 fun _ _ _ _ r2 S2 T2 q2 => ⟨_, _, r2, S2, T1.trans T2, q2⟩)

/-! ## argument lists, displays -/
def EVl (c : Cx) (A : Around) (f : Fm) (pos : Pos) (es : List Expr) (m : List (Str × V)) (H : Hp) (Q : List V → Hp → Prop) : Prop := SM c A f.L m H (spliced (backTo pos (starEach es f.env))) VsR Q
theorem EVl_nil {pos : Pos} {Q : List V → Hp → Prop} (q : Q [] H) : EVl c A f pos [] m H Q := fun _ S => spliced_nil ⟨_, _, .nil, S, .refl, q⟩
theorem EVl_cons {pos : Pos} {e : Expr} {es : List Expr} {Q : List V → Hp → Prop} (h : EV c A f e m H (fun v H1 => EVl c A f pos es m H1 (fun vs H2 => Q (v :: vs) H2)))
    (he : starEach (e :: es) f.env = (false, eval e f.env) :: starEach es f.env := by with_unfolding_all rfl) : EVl c A f pos (e :: es) m H Q := fun s S => by
  rw [he]
  exact spliced_cons (h.uses S fun _ _ _ _ r1 S1 T1 q1 => SM.uses q1 S1 fun _ _ _ _ r2 S2 T2 q2 => ⟨_, _, .cons r1 r2, S2, T1.trans T2, q2⟩)

theorem VsR.length {vs : List V} {us : List Value} (r : VsR vs us) : us.length = vs.length := by
  induction r with
  | nil => rfl
  | cons _ _ ih => simp [ih]

theorem EV_list {es : List Expr} {pos : Pos} (h : EVl c A f pos es m H (fun vs H1 => vs.length ≤ 4096 ∧ ∀ a, H1 a = none → Q (.ref a) (H1.set a ⟨true, false, vs⟩))) : EV c A f (.List es pos) m H Q := fun _ S =>
  wpAny_List (SM.uses h S fun vs _ _ s1 r1 S1 T1 q1 => ⟨by
      rw [r1.length]; exact Nat.le_trans q1.1 (by decide),
    ⟨.ref s1.heap.objs.size, _, .ref, S1.alloc (o := ⟨true, false, _⟩) (n := 0) (tk := s1.toks) r1, T1.trans (SC.alloc (o := ⟨true, false, _⟩)), q1.2 _ (S1.fresh (size_fresh _))⟩⟩)
theorem EV_tuple {es : List Expr} {k : Nat} {pos : Pos} (h : EVl c A f pos es m H (fun vs H1 => vs.length ≤ 4096 ∧ ∀ a, H1 a = none → Q (.ref a) (H1.set a ⟨false, true, vs⟩))) : EV c A f (.Tuple es k pos) m H Q := fun _ S =>
  wpAny_Tuple (SM.uses h S fun vs _ _ s1 r1 S1 T1 q1 => ⟨by
      rw [r1.length]; exact Nat.le_trans q1.1 (by decide),
    ⟨.ref s1.heap.objs.size, _, .ref, S1.alloc (o := ⟨false, true, _⟩) (n := 0) (tk := s1.toks) r1, T1.trans (SC.alloc (o := ⟨false, true, _⟩)), q1.2 _ (S1.fresh (size_fresh _))⟩⟩)
end
end Mine
namespace Mine
open PySem PySem.W PySem.Calls PyProof.Rows
local macro_rules | `(tactic| walk_at "om") => `(tactic| first
  | with_reducible assumption
  | decide
  | with_reducible exact Nat.le_refl _
  | exact Nat.lt_of_lt_of_le (by with_reducible assumption) (by decide)
  | lia
  | omega)

theorem SC.weak {ex ex' : Addr → Prop} {H H' : Hp} {s s' : Shared} (T : SC ex H s H' s') (h : ∀ a, ex a → ex' a) : SC ex' H s H' s' :=
  ⟨T.same, fun b o hb => T.keep b o fun x => hb (h b x), T.alive, T.new⟩

theorem FS.call {c : Cx} {L : Addr} {m : List (Str × V)} {H H' : Hp} {s s' : Shared} (S : FS c L m H s) (S' : HS c H' s') (T : SC (fun _ => False) H s H' s') : FS c L m H' s' where
  toHS := S'
  ns := by
    obtain ⟨mm, ⟨o, es, ep, h, r⟩, q⟩ := S.ns
    exact ⟨mm, ⟨o, es, ep, T.keep L o id (fun q e => by rw [S.hL] at e; cases e) h, r⟩, q⟩
  hL := by
    obtain ⟨mm, ⟨o, es, ep, h, r⟩, q⟩ := S.ns
    cases e : H' L with
    | none => rfl
    | some q =>
      rcases T.new L q e with x | ⟨q0, x, _⟩
      · rw [h] at x; cases x
      · rw [S.hL] at x; cases x
  hsL := S.hsL

section
variable {c : Cx} {A : Around} {f : Fm} {m : List (Str × V)} {H : Hp} {Q : V → Hp → Prop}

theorem SM_call {L : Addr} {g : Addr} {vs : List V} {us : List Value} (r : VsR vs us) (h : CALL c A g vs H Q) : SM c A L m H (call (.ref g) us) VR Q := fun s S =>
  wpAny_call (codeAny_mono (h s us S.toHS r) fun rs s' ⟨v, v', H', e, rv, S', T, q⟩ => by
    subst e
    exact ⟨v', H', rv, S.call S' T, T, q⟩)

theorem EV_callN {x : Str} {np pos : Pos} {e : Expr} {rest : List Expr} (O : c.Ok)
    (h : EV c A f (.Name x np) m H (fun v H1 => ∃ g, v = .ref g ∧ keepIn c.K (.ref g) = true ∧ EVl c A f pos (e :: rest) m H1 (fun vs H2 => CALL c A g vs H2 Q)))
    (he : starEach (e :: rest) f.env = (false, eval e f.env) :: starEach rest f.env := by with_unfolding_all rfl) (hplain : (backTo pos (starEach rest f.env)).any (·.1) = false := by with_unfolding_all rfl) :
    EV c A f (.Call (.Name x np) (e :: rest) [] pos) m H Q := fun _ S =>
  wpAny_Call_NameR (h.uses S fun _ _ _ s1 r1 S1 T1 q1 => by
    obtain ⟨g, e1, hk, q⟩ := q1
    subst e1; cases r1
    exact callWith_K (first := []) O.k hk (SM.uses q S1 fun _ _ _ _ r2 S2 T2 q2 => ⟨O.k.keeps S2.keeps, (SM_call r2 q2).uses S2 fun _ _ _ _ r3 S3 T3 q3 => ⟨_, _, r3, S3, T1.trans (T2.trans T3), q3⟩⟩) he hplain)

/-- a def by its global name -/
theorem EV_def {x : Str} {np pos : Pos} {e : Expr} {rest : List Expr} {g : Addr} (O : c.Ok) (hg : nsIn c.K mainGlobals x = some (some (.ref g))) (hk : keepIn c.K (.ref g) = true)
    (h : EVl c A f pos (e :: rest) m H (fun vs H2 => CALL c A g vs H2 Q))
    (hf : f.sc.kind = .function := by with_unfolding_all rfl) (hx : f.env.kindOf x = some .globalImplicit := by with_unfolding_all rfl) (hd : (x == ("__debug__" : Str)) = false := by decide)
    (he : starEach (e :: rest) f.env = (false, eval e f.env) :: starEach rest f.env := by with_unfolding_all rfl) (hplain : (backTo pos (starEach rest f.env)).any (·.1) = false := by with_unfolding_all rfl) :
    EV c A f (.Call (.Name x np) (e :: rest) [] pos) m H Q := EV_callN O (EV_glob O hg ⟨g, rfl, hk, h⟩ hf hx hd) he hplain
/-- a def held by a local name -/
theorem EV_fvar {x : Str} {np pos : Pos} {e : Expr} {rest : List Expr} {g : Addr} (O : c.Ok) (hv : lkp m x = some (.ref g)) (hk : keepIn c.K (.ref g) = true)
    (h : EVl c A f pos (e :: rest) m H (fun vs H2 => CALL c A g vs H2 Q))
    (hf : f.sc.kind = .function := by with_unfolding_all rfl) (hx : f.env.kindOf x = some .local := by with_unfolding_all rfl) (hd : (x == ("__debug__" : Str)) = false := by decide)
    (he : starEach (e :: rest) f.env = (false, eval e f.env) :: starEach rest f.env := by with_unfolding_all rfl) (hplain : (backTo pos (starEach rest f.env)).any (·.1) = false := by with_unfolding_all rfl) :
    EV c A f (.Call (.Name x np) (e :: rest) [] pos) m H Q := EV_callN O (EV_local hv ⟨g, rfl, hk, h⟩ hf hx hd) he hplain

/-! ## built-ins -/
theorem EV_blt {x : Str} {id : String} {np pos : Pos} {e : Expr} {rest : List Expr} (O : c.Ok) (hg : nsIn c.K mainGlobals x = some none) (hb : bootBuiltins x = some (.builtin id))
    (h : EVl c A f pos (e :: rest) m H (fun vs H2 => ∀ us, VsR vs us → SM c A f.L m H2 (call (.builtin id) us) VR Q)) (hn : x ≠ "__name__" := by decide)
    (hf : f.sc.kind = .function := by with_unfolding_all rfl) (hx : f.env.kindOf x = some .globalImplicit := by with_unfolding_all rfl) (hd : (x == ("__debug__" : Str)) = false := by decide)
    (he : starEach (e :: rest) f.env = (false, eval e f.env) :: starEach rest f.env := by with_unfolding_all rfl) (hplain : (backTo pos (starEach rest f.env)).any (·.1) = false := by with_unfolding_all rfl) :
    EV c A f (.Call (.Name x np) (e :: rest) [] pos) m H Q := fun s S =>
  wpAny_Call_NameR (Name_function_global (env := f.env) hf hx (loadGlobal_builtin (env := f.env) (O.t.g.keeps S.keeps) (mg_none_of O.k O.t.g hg) (O.t.b.keeps S.keeps) ((O.t.builtins x hn).trans hb)
    (PyProof.Rows.callWith_builtin1 (SM.uses h S fun _ _ _ _ r2 S2 T2 q2 => (q2 _ r2).uses S2 fun _ _ _ _ r3 S3 T3 q3 => ⟨_, _, r3, S3, T2.trans T3, q3⟩) he hplain)) hd)
theorem EV_typ {x : Str} {id : String} {np pos : Pos} {e : Expr} {rest : List Expr} (O : c.Ok) (hg : nsIn c.K mainGlobals x = some none) (hb : bootBuiltins x = some (.type id))
    (h : EVl c A f pos (e :: rest) m H (fun vs H2 => ∀ us, VsR vs us → SM c A f.L m H2 (call (.type id) us) VR Q)) (hn : x ≠ "__name__" := by decide)
    (hf : f.sc.kind = .function := by with_unfolding_all rfl) (hx : f.env.kindOf x = some .globalImplicit := by with_unfolding_all rfl) (hd : (x == ("__debug__" : Str)) = false := by decide)
    (he : starEach (e :: rest) f.env = (false, eval e f.env) :: starEach rest f.env := by with_unfolding_all rfl) (hplain : (backTo pos (starEach rest f.env)).any (·.1) = false := by with_unfolding_all rfl) :
    EV c A f (.Call (.Name x np) (e :: rest) [] pos) m H Q := fun s S =>
  wpAny_Call_NameR (Name_function_global (env := f.env) hf hx (loadGlobal_builtin (env := f.env) (O.t.g.keeps S.keeps) (mg_none_of O.k O.t.g hg) (O.t.b.keeps S.keeps) ((O.t.builtins x hn).trans hb)
    (PyProof.Rows.callWith_type1 (SM.uses h S fun _ _ _ _ r2 S2 T2 q2 => (q2 _ r2).uses S2 fun _ _ _ _ r3 S3 T3 q3 => ⟨_, _, r3, S3, T2.trans T3, q3⟩) he hplain)) hd)

theorem HS.isList {s : Shared} (S : HS c H s) {a : Addr} {w : Bool} {xs : List V} (e : H a = some ⟨w, false, xs⟩) : ∃ us n, VsR xs us ∧ s.heap.get? a = some { cls := .type "list", data := .seq us.toArray n } := by
  obtain ⟨us, n, r, h⟩ := S.obj a _ e; exact ⟨us, n, r, h⟩
theorem HS.isTup {s : Shared} (S : HS c H s) {a : Addr} {w : Bool} {xs : List V} (e : H a = some ⟨w, true, xs⟩) : ∃ us n, VsR xs us ∧ s.heap.get? a = some { cls := .type "tuple", data := .seq us.toArray n } := by
  obtain ⟨us, n, r, h⟩ := S.obj a _ e; exact ⟨us, n, r, h⟩

theorem SM_len {L : Addr} {a : Addr} {w : Bool} {xs : List V} {us : List Value} (e : H a = some ⟨w, false, xs⟩) (hn : xs.length ≤ 4096) (q : Q (.int xs.length) H) (r : VsR [.ref a] us) : SM c A L m H (call (.builtin "len") us) VR Q := fun s S => by
  obtain ⟨us', n, r', h⟩ := S.isList e
  cases r with | cons r1 r2 =>
  cases r1; cases r2
  have hl : s.heap.IsList a us'.toArray := ⟨_, h, rfl, n, rfl⟩
  have hz : us'.toArray.size = xs.length := by rw [List.size_toArray]; exact r'.length
  refine call_len_list hl (by rw [hz]; walk_at "om") ?_
  rw [hz]
  exact ⟨_, _, .int, S.tok, .tok, q⟩
theorem SM_max {L : Addr} {i j : Int} {us : List Value} (hh : A.handled = none) (q : Q (.int (if j > i then j else i)) H) (r : VsR [.int i, .int j] us) : SM c A L m H (call (.builtin "max") us) VR Q := fun s S => by
  cases r with | cons r1 r2 => cases r2 with | cons r2 r3 =>
  cases r1; cases r2; cases r3
  refine max_two_ints hh fun h' tk hk => ⟨_, H, ?_, S.grow hk, .grow hk, q⟩
  split <;> exact .int
theorem SM_min {L : Addr} {i j : Int} {us : List Value} (hh : A.handled = none) (q : Q (.int (if j < i then j else i)) H) (r : VsR [.int i, .int j] us) : SM c A L m H (call (.builtin "min") us) VR Q := fun s S => by
  cases r with | cons r1 r2 => cases r2 with | cons r2 r3 =>
  cases r1; cases r2; cases r3
  refine min_two_ints hh fun h' tk hk => ⟨_, H, ?_, S.grow hk, .grow hk, q⟩
  split <;> exact .int
theorem SM_abs {L : Addr} {i : Int} {us : List Value} (q : Q (.int (if i < 0 then -i else i)) H) (r : VsR [.int i] us) : SM c A L m H (call (.builtin "abs") us) VR Q := fun s S => by
  cases r with | cons r1 r2 =>
  cases r1; cases r2
  exact call_abs_int fun u tk => ⟨_, H, .int, S.tok, .tok, q⟩
theorem SM_intT {L : Addr} {i : Int} {us : List Value} (q : Q (.int i) H) (r : VsR [.int i] us) : SM c A L m H (call (.type "int") us) VR Q := fun s S => by
  cases r with | cons r1 r2 =>
  cases r1; cases r2
  exact call_int_int ⟨_, H, .int, S, .refl, q⟩

/-! ## items -/
theorem EV_sub_ {value slice : Expr} {pos : Pos} (h : EV c A f value m H (fun a H1 => EV c A f slice m H1 (fun b H2 => ∀ x y, VR a x → VR b y → SM c A f.L m H2 (subscriptTail value slice x y) VR Q))) :
    EV c A f (.Subscript value slice pos) m H Q := fun _ S =>
  Subscript_ (h.uses S fun _ _ _ _ r1 S1 T1 q1 => q1.uses S1 fun _ _ _ _ r2 S2 T2 q2 => (q2 _ _ r1 r2).uses S2 fun _ _ _ _ r3 S3 T3 q3 => ⟨_, _, r3, S3, T1.trans (T2.trans T3), q3⟩)

theorem VsR.get {xs : List V} {us : List Value} (r : VsR xs us) : ∀ {i : Nat} {v : V}, xs[i]? = some v → ∃ u, us[i]? = some u ∧ VR v u := by
  induction r with
  | nil => intro i v e; simp at e
  | cons h _ ih =>
    intro i v e
    cases i with
    | zero => simp at e; subst e; exact ⟨_, rfl, h⟩
    | succ i => simp at e; obtain ⟨u, h1, h2⟩ := ih e; exact ⟨u, by simpa using h1, h2⟩

/-- an item of a list: at 0 or above -/
theorem SM_item {value slice : Expr} {a : Addr} {w : Bool} {xs : List V} {k : Int} {v : V} {x y : Value} (e : H a = some ⟨w, false, xs⟩) (h0 : 0 ≤ k) (hlt : k < 2 ^ 62) (hx : xs[k.toNat]? = some v) (q : Q v H)
    (r1 : VR (.ref a) x) (r2 : VR (.int k) y)
    (hs : ∀ t, subscripted slice false (.ref a) (.int k t) = operate [.ref a, .int k t] (getItem (.ref a) (.int k t)) := by intro _; with_unfolding_all rfl) : SM c A f.L m H (subscriptTail value slice x y) VR Q := fun s S => by
  obtain ⟨us, n, r, h⟩ := S.isList e
  cases r1; cases r2
  obtain ⟨u, hu, ru⟩ := r.get hx
  have hl : s.heap.IsList a us.toArray := ⟨_, h, rfl, n, rfl⟩
  exact tail_any hl.typeIs slot_list_getitem.lookup (wpAny_getItem_list hl h0 (by walk_at "om") (by simpa using hu) ⟨v, H, ru, S, .refl, q⟩) (hs _)
theorem SM_last {value slice : Expr} {a : Addr} {w : Bool} {xs : List V} {v : V} {x y : Value} (e : H a = some ⟨w, false, xs⟩) (hn : xs.length ≤ 4096) (h0 : 1 ≤ xs.length) (hx : xs[xs.length - 1]? = some v) (q : Q v H)
    (r1 : VR (.ref a) x) (r2 : VR (.int (-1)) y)
    (hs : ∀ t, subscripted slice false (.ref a) (.int (-1) t) = operate [.ref a, .int (-1) t] (getItem (.ref a) (.int (-1) t)) := by intro _; with_unfolding_all rfl) : SM c A f.L m H (subscriptTail value slice x y) VR Q := fun s S => by
  obtain ⟨us, n, r, h⟩ := S.isList e
  cases r1; cases r2
  obtain ⟨u, hu, ru⟩ := r.get hx
  have hl : s.heap.IsList a us.toArray := ⟨_, h, rfl, n, rfl⟩
  have hz : us.length = xs.length := r.length
  refine tail_any hl.typeIs slot_list_getitem.lookup (wpAny_getItem_list_neg hl (by walk_at "om") (by rw [List.size_toArray]; walk_at "om") (by walk_at "om") (x := u) ?_ ⟨v, H, ru, S, .refl, q⟩) (hs _)
  have : ((-1 : Int) + (us.toArray.size : Int)).toNat = xs.length - 1 := by rw [List.size_toArray]; walk_at "om"
  rw [this]; simpa using hu
theorem SM_titem {value slice : Expr} {a : Addr} {w : Bool} {xs : List V} {k : Nat} {v : V} {x y : Value} (e : H a = some ⟨w, true, xs⟩) (hk : k < 64) (hx : xs[k]? = some v) (q : Q v H)
    (r1 : VR (.ref a) x) (r2 : VR (.int k) y)
    (hs : ∀ t, subscripted slice false (.ref a) (.int k t) = operate [.ref a, .int k t] (getItem (.ref a) (.int k t)) := by intro _; with_unfolding_all rfl) : SM c A f.L m H (subscriptTail value slice x y) VR Q := fun s S => by
  obtain ⟨us, n, r, h⟩ := S.isTup e
  cases r1; cases r2
  obtain ⟨u, hu, ru⟩ := r.get hx
  have hl : k < us.length := by
    rcases Nat.lt_or_ge k us.length with h | h
    · exact h
    · rw [List.getElem?_eq_none h] at hu; cases hu
  refine item_tupleT (j := k) ⟨_, h, rfl, n, rfl⟩ (by walk_at "om") (by walk_at "om") ?_ hu ⟨v, H, ru, S, .refl, q⟩ (hs _)
  simp [seqIndex?]
  walk_at "om"
end
end Mine
namespace Mine
open PySem PySem.W PySem.Calls PyProof.Rows
local macro_rules | `(tactic| walk_at "om") => `(tactic| first
  | with_reducible assumption
  | decide
  | with_reducible exact Nat.le_refl _
  | exact Nat.lt_of_lt_of_le (by with_reducible assumption) (by decide)
  | lia
  | omega)

theorem FS.store {c : Cx} {L : Addr} {m : List (Str × V)} {H : Hp} {s : Shared} {mm : Str → Option Value} {h' : Heap} {x : Str} {u : Value} {v : V} {tk : Nat} (S : FS c L m H s)
    (hr : ∀ x, MR (lkp m x) (mm x)) (hn' : h'.Ns L (fun y => if y = x then some u else mm y)) (hs : Heap.SameBut L s.heap h') (r : VR v u) : FS c L (put m x v) H { s with heap := h', toks := tk } where
  obj := fun a o e => by
    obtain ⟨us, n, r1, h1⟩ := S.obj a o e
    exact ⟨us, n, r1, (hs.2 a (fun q => by rw [q, S.hL] at e; cases e)).trans h1⟩
  wr := S.wr
  keeps := fun b o e => (hs.2 b (fun q => by rw [q, S.hsL] at e; cases e)).trans (S.keeps b o e)
  ns := ⟨_, hn', fun y => by
    rw [lkp_put]
    by_cases h : y = x
    · simp only [if_pos h]; exact .some r
    · simp only [if_neg h]; exact hr y⟩
  hL := S.hL
  hsL := S.hsL
theorem SC.store {c : Cx} {L : Addr} {m : List (Str × V)} {H : Hp} {s : Shared} {mm : Str → Option Value} {h' : Heap} {tk : Nat} (hn' : h'.Ns L mm) (hs : Heap.SameBut L s.heap h') : SC (· = L) H s H { s with heap := h', toks := tk } where
  same := rfl
  keep := fun b o hb _ e => (hs.2 b hb).trans e
  alive := fun b o e => by
    by_cases h : b = L
    · subst h; obtain ⟨o', _, _, h1, _⟩ := hn'; exact ⟨o', h1⟩
    · exact ⟨o, (hs.2 b h).trans e⟩
  new := fun _ q e => .inr ⟨q, e, id⟩

section
variable {c : Cx} {A : Around} {f : Fm} {m : List (Str × V)} {H : Hp} {N : List (Str × V) → Hp → Prop} {R : V → Hp → Prop}

theorem EX.use {st : Sem Flow} (h : EX c A f st m H N R) {s : Shared} (S : FS c f.L m H s) {Q0 : Flow → Shared → Prop}
    (kn : ∀ m' H' s', FS c f.L m' H' s' → SC (· = f.L) H s H' s' → N m' H' → Q0 .next s')
    (kr : ∀ v v' m' H' s', VR v' v → FS c f.L m' H' s' → SC (· = f.L) H s H' s' → R v' H' → Q0 (.ret v) s') : wpAny (model c.prog c.w) A st Q0 (fun _ _ => False) s :=
  wpAny_mono (h s S) (fun fl s' hh => by
    cases fl with
    | next => obtain ⟨m', H', S', T, q⟩ := hh; exact kn _ _ _ S' T q
    | ret v => obtain ⟨v', m', H', r, S', T, q⟩ := hh; exact kr _ _ _ _ _ r S' T q
    | _ => exact hh.elim) fun _ _ x => x

/-- the same, where a flow ends as it did -/
theorem EX.then_ {H0 : Hp} {s0 s : Shared} {st : Sem Flow} (h : EX c A f st m H N R) (S : FS c f.L m H s) (T0 : SC (· = f.L) H0 s0 H s) :
    wpAny (model c.prog c.w) A st (fun fl s' => match fl with
    | .next => ∃ m' H', FS c f.L m' H' s' ∧ SC (· = f.L) H0 s0 H' s' ∧ N m' H'
    | .ret v => ∃ v' m' H', VR v' v ∧ FS c f.L m' H' s' ∧ SC (· = f.L) H0 s0 H' s' ∧ R v' H'
    | _ => False) (fun _ _ => False) s :=
  h.use S (fun m' H' _ S' T q => ⟨m', H', S', T0.trans T, q⟩) (fun _ v' m' H' _ r S' T q => ⟨v', m', H', r, S', T0.trans T, q⟩)

theorem EX.mono {st : Sem Flow} {N' : List (Str × V) → Hp → Prop} {R' : V → Hp → Prop} (h : EX c A f st m H N R) (hn : ∀ m H, N m H → N' m H) (hr : ∀ v H, R v H → R' v H) : EX c A f st m H N' R' := fun s S =>
  h.use S (fun m' H' _ S' T q => ⟨m', H', S', T, hn _ _ q⟩) (fun _ v' m' H' _ r S' T q => ⟨v', m', H', r, S', T, hr _ _ q⟩)

theorem EX_nil (q : N m H) : EX c A f (execs [] f.env) m H N R := fun _ S => wpAny_execs_nil ⟨m, H, S, .refl, q⟩
theorem EX_cons {st : Stmt} {rest : List Stmt} (h : EX c A f (exec st f.env) m H (fun m1 H1 => EX c A f (execs rest f.env) m1 H1 N R) R) : EX c A f (execs (st :: rest) f.env) m H N R := fun _ S =>
  wpAny_execs_cons (h.use S (fun m1 H1 s1 S1 T1 q1 => q1.then_ S1 T1) (fun _ v' m' H' _ r S' T q => ⟨v', m', H', r, S', T, q⟩))
/-- a sequence through a written mid assertion -/
theorem EX_cut (J : List (Str × V) → Hp → Prop) {st : Stmt} {rest : List Stmt} (h : EX c A f (exec st f.env) m H J R) (k : ∀ m1 H1, J m1 H1 → EX c A f (execs rest f.env) m1 H1 N R) : EX c A f (execs (st :: rest) f.env) m H N R :=
  EX_cons (h.mono k fun _ _ x => x)

theorem SN_store {x : Str} {v : V} {u : Value} (r : VR v u) {Q0 : Unit → Shared → Prop} {s : Shared} (S : FS c f.L m H s) (hx : f.env.kindOf x = some .local) (hk : f.sc.kind = .function)
    (q : ∀ s', FS c f.L (put m x v) H s' → SC (· = f.L) H s H s' → Q0 () s') : wpAny (model c.prog c.w) A (storeName f.env x u) Q0 (fun _ _ => False) s := by
  obtain ⟨mm, n, hr⟩ := S.ns
  refine wpAny_storeName_local (env := f.env) hx n (fun h' hn' hs => ?_) (by show (f.sc.kind == .class || (f.sc.kind == .module && f.L != mainGlobals)) = false; rw [hk]; rfl)
  exact q _ (S.store hr hn' hs r) (.store (c := c) (m := m) hn' hs)

theorem EX_assign {x : Str} {value : Expr} {pos' pos : Pos} (h : EV c A f value m H (fun v H1 => N (put m x v) H1))
    (hx : f.env.kindOf x = some .local := by with_unfolding_all rfl) (hk : f.sc.kind = .function := by with_unfolding_all rfl) (hs : swapsWith value (some (.Name x pos')) pos.line f.env = pure false := by with_unfolding_all rfl) :
    EX c A f (exec (.Assign [.Name x pos'] value pos) f.env) m H N R := fun _ S =>
  wpAny_Assign_Name (h.use S fun _ _ _ _ r1 S1 T1 q1 => SN_store r1 S1 hx hk fun _ S2 T2 => ⟨_, _, S2, T1.trans T2, q1⟩) hs

theorem EX_aug {x : Str} {op : Operator} {value : Expr} {pos' pos : Pos} {v0 : V} (hv : lkp m x = some v0)
    (h : EV c A f value m H (fun v H1 => ∀ a b, VR v0 a → VR v b → SM c A f.L m H1 (inplaceOp op a b) VR (fun r H2 => N (put m x r) H2)))
    (hx : f.env.kindOf x = some .local := by with_unfolding_all rfl) (hk : f.sc.kind = .function := by with_unfolding_all rfl) :
    EX c A f (exec (.AugAssign (.Name x pos') op value pos) f.env) m H N R := fun _ S =>
  wpAny_AugAssign_Name ((LD_local (Q := fun v H1 => v = v0 ∧ H1 = H) hv ⟨rfl, rfl⟩ hk hx).use S fun _ _ _ _ r0 S0 T0 q0 => by
    obtain ⟨e1, e2⟩ := q0
    subst e1; subst e2
    exact h.use S0 fun _ _ _ _ r1 S1 T1 q1 => (q1 _ _ r0 r1).use S1 fun _ _ _ _ r2 S2 T2 q2 => SN_store r2 S2 hx hk fun _ S3 T3 => ⟨_, _, S3, T0.trans (T1.trans (T2.trans T3)), q2⟩)

theorem EX_aug2 {x : Str} {op : Operator} {value : Expr} {pos' pos : Pos} {i : Int} {P : Int → Int → Prop} {g : Int → Int → Int}
    (hop : ∀ i j t u (s : Shared) (Q0 : Value → Shared → Prop), P i j → Q0 (.int (g i j) s.toks) { s with toks := s.toks + 1 } → wpAny (model c.prog c.w) A (inplaceOp op (.int i t) (.int j u)) Q0 (fun _ _ => False) s)
    (hv : lkp m x = some (.int i)) (h : EV c A f value m H (fun b H1 => ∃ j, b = .int j ∧ P i j ∧ N (put m x (.int (g i j))) H1))
    (hx : f.env.kindOf x = some .local := by with_unfolding_all rfl) (hk : f.sc.kind = .function := by with_unfolding_all rfl) : EX c A f (exec (.AugAssign (.Name x pos') op value pos) f.env) m H N R :=
  EX_aug hv (h.mono fun _ _ ⟨j, e, p, q⟩ => by
    subst e
    intro a b ra rb; cases ra; cases rb
    exact SM_tok (mk := Value.int (g i j)) (fun _ => .int) q fun s _ hq => hop _ _ _ _ _ _ p (hq _ _)) hx hk

section
variable {x : Str} {value : Expr} {pos' pos : Pos} {i : Int}
theorem EX_iadd (hv : lkp m x = some (.int i)) (h : EV c A f value m H (fun b H1 => ∃ j, b = .int j ∧ True ∧ N (put m x (.int (i + j))) H1)) (hx : f.env.kindOf x = some .local := by with_unfolding_all rfl) (hk : f.sc.kind = .function := by with_unfolding_all rfl) :
    EX c A f (exec (.AugAssign (.Name x pos') .Add value pos) f.env) m H N R := EX_aug2 (P := fun _ _ => True) (fun _ _ _ _ _ _ _ hq => PyProof.Rows.iadd_int hq) hv h hx hk
theorem EX_isub (hv : lkp m x = some (.int i)) (h : EV c A f value m H (fun b H1 => ∃ j, b = .int j ∧ True ∧ N (put m x (.int (i - j))) H1)) (hx : f.env.kindOf x = some .local := by with_unfolding_all rfl) (hk : f.sc.kind = .function := by with_unfolding_all rfl) :
    EX c A f (exec (.AugAssign (.Name x pos') .Sub value pos) f.env) m H N R := EX_aug2 (P := fun _ _ => True) (fun _ _ _ _ _ _ _ hq => PyProof.Rows.isub_int hq) hv h hx hk
theorem EX_ishr (hv : lkp m x = some (.int i)) (h : EV c A f value m H (fun b H1 => ∃ k : Nat, b = .int k ∧ True ∧ N (put m x (.int (i / 2 ^ k))) H1)) (hx : f.env.kindOf x = some .local := by with_unfolding_all rfl) (hk : f.sc.kind = .function := by with_unfolding_all rfl) :
    EX c A f (exec (.AugAssign (.Name x pos') .RShift value pos) f.env) m H N R := EX_aug2 (P := fun _ j => 0 ≤ j) (g := fun i j => i.fdiv (2 ^ j.toNat)) (fun _ _ _ _ _ _ p hq => PyProof.Rows.irshift_int p hq) hv (h.mono fun _ _ ⟨k, eb, _, q⟩ => ⟨k, eb, by walk_at "om", by
      rw [Int.fdiv_eq_ediv_of_nonneg _ (Int.le_of_lt (Int.pow_pos (by decide)))]; simpa using q⟩) hx hk
theorem EX_ior (hv : lkp m x = some (.int i)) (h : EV c A f value m H (fun b H1 => ∃ j, b = .int j ∧ True ∧ N (put m x (.int (Builtin.bitOr i j))) H1)) (hx : f.env.kindOf x = some .local := by with_unfolding_all rfl) (hk : f.sc.kind = .function := by with_unfolding_all rfl) :
    EX c A f (exec (.AugAssign (.Name x pos') .BitOr value pos) f.env) m H N R := EX_aug2 (P := fun _ _ => True) (fun _ _ _ _ _ _ p hq => PyProof.Rows.ior_int hq) hv h hx hk
theorem EX_imod (hv : lkp m x = some (.int i)) (h : EV c A f value m H (fun b H1 => ∃ j, b = .int j ∧ 0 < j ∧ N (put m x (.int (i % j))) H1)) (hx : f.env.kindOf x = some .local := by with_unfolding_all rfl) (hk : f.sc.kind = .function := by with_unfolding_all rfl) :
    EX c A f (exec (.AugAssign (.Name x pos') .Mod value pos) f.env) m H N R := EX_aug2 (P := fun _ j => 0 < j) (g := fun i j => i % j) (fun _ _ _ _ _ _ p hq => PyProof.Rows.imod_int (by walk_at "om") (by rw [Int.fmod_eq_emod_of_nonneg _ (by walk_at "om")]; exact hq)) hv h hx hk
end

theorem EX_return {e : Expr} {pos : Pos} (h : EV c A f e m H R) : EX c A f (exec (.Return (some e) pos) f.env) m H N R := fun _ S =>
  wpAny_Return_some (h.use S fun _ _ _ _ r1 S1 T1 q1 => ⟨_, _, _, r1, S1, T1, q1⟩)

theorem EX_if {test : Expr} {body orelse : List Stmt} {pos : Pos} (h : TV c A f test m H (fun b H1 => (b = true → EX c A f (execs body f.env) m H1 N R) ∧ (b = false → EX c A f (execs orelse f.env) m H1 N R))) :
    EX c A f (exec (.If test body orelse pos) f.env) m H N R := fun _ S =>
  wpAny_If (h.use S fun b v' _ _ r1 S1 T1 q1 => by
    subst r1
    cases v' with
    | true => exact (q1.1 rfl).then_ S1 T1
    | false => exact (q1.2 rfl).then_ S1 T1)

theorem EX_while {test : Expr} {body : List Stmt} {pos : Pos} (I : Nat → List (Str × V) → Hp → Prop) {n0 : Nat} (h0 : I n0 m H)
    (turn : ∀ n m H, I n m H → TV c A f test m H (fun b H1 => (b = true → EX c A f (execs body f.env) m H1 (fun m' H' => ∃ n', n' < n ∧ I n' m' H') R) ∧ (b = false → N m H1))) :
    EX c A f (exec (.While test body [] pos) f.env) m H N R := fun s S => by
  refine wpAny_While (codeAny_whileLoop (fun n s' => ∃ m' H', FS c f.L m' H' s' ∧ SC (· = f.L) H s H' s' ∧ I n m' H') ?_ n0 ⟨m, H, S, .refl, h0⟩)
  rintro n s' ⟨m', H', S', T, i⟩
  refine wpAny_mono (?_ : wpAny _ _ _ _ (fun _ _ => False) _) (fun _ _ x => x) (fun _ _ x => x.elim)
  refine (turn n m' H' i).use S' fun b v' H1 s1 r1 S1 T1 q1 => ?_
  subst r1
  cases v' with
  | true =>
    refine wpAny_mono ((q1.1 rfl).use S1 (Q0 := fun fl s₃ => match fl with
            | .next | .cont => ∃ k, k < n ∧ ∃ m' H', FS c f.L m' H' s₃ ∧ SC (· = f.L) H s H' s₃ ∧ I k m' H'
            | .brk => False
            | .ret v => ∃ v' m' H', VR v' v ∧ FS c f.L m' H' s₃ ∧ SC (· = f.L) H s H' s₃ ∧ R v' H') (fun m2 H2 s2 S2 T2 q2 => ?_) (fun v v' m2 H2 s2 r2 S2 T2 q2 => ⟨v', m2, H2, r2, S2, T.trans (T1.trans T2), q2⟩)) (fun fl s3 x => ?_) (fun _ _ x => x.elim)
    · obtain ⟨k, hk, ik⟩ := q2
      exact ⟨k, hk, m2, H2, S2, T.trans (T1.trans T2), ik⟩
    · cases fl <;> first | exact x | exact x.elim
  | false => exact wpAny_execs_nil ⟨m', H1, S1, T.trans T1, q1.2 rfl⟩

/-! ## loops over something -/
theorem FS.walked {L : Addr} {s' : Shared} {h' : Heap} {tk : Nat} {wr : List Addr} (S : FS c L m H s') (hL : L ∉ wr) (hw : ∀ b ∈ wr, H b = none ∧ c.hs.get? b = none) (hk : ∀ b o, b ∉ wr → s'.heap.get? b = some o → h'.get? b = some o) :
    FS c L m H { s' with heap := h', toks := tk } where
  obj := fun a o e => by
    obtain ⟨us, n, r1, h1⟩ := S.obj a o e
    exact ⟨us, n, r1, hk a _ (fun q => by rw [(hw a q).1] at e; cases e) h1⟩
  wr := S.wr
  keeps := fun b o e => hk b o (fun q => by rw [(hw b q).2] at e; cases e) (S.keeps b o e)
  ns := by
    obtain ⟨mm, ⟨o, es, ep, h, r⟩, q⟩ := S.ns
    exact ⟨mm, ⟨o, es, ep, hk L o hL h, r⟩, q⟩
  hL := S.hL
  hsL := S.hsL
theorem SC.walked {ex : Addr → Prop} {H0 H : Hp} {s0 s' : Shared} {h' : Heap} {tk : Nat} {wr : List Addr} (T : SC ex H0 s0 H s') (hw : ∀ b ∈ wr, s0.heap.get? b = none) (hk : ∀ b o, b ∉ wr → s'.heap.get? b = some o → h'.get? b = some o) :
    SC ex H0 s0 H { s' with heap := h', toks := tk } where
  same := by have := T.same; rw [this]
  keep := fun b o hb hq e => hk b o (fun x => by rw [hw b x] at e; cases e) (T.keep b o hb hq e)
  alive := fun b o e => by obtain ⟨o1, e1⟩ := T.alive b o e; exact ⟨o1, hk b o1 (fun x => by rw [hw b x] at e; cases e) e1⟩
  new := T.new

abbrev FlowTo (c : Cx) (f : Fm) (H0 : Hp) (s0 : Shared) (N : List (Str × V) → Hp → Prop) (R : V → Hp → Prop) (fl : Flow) (s' : Shared) : Prop := match fl with
    | .next => ∃ m' H', FS c f.L m' H' s' ∧ SC (· = f.L) H0 s0 H' s' ∧ N m' H'
    | .ret v => ∃ v' m' H', VR v' v ∧ FS c f.L m' H' s' ∧ SC (· = f.L) H0 s0 H' s' ∧ R v' H'
    | _ => False

theorem loop_run {H0 : Hp} {s0 s : Shared} {x : Str} {px : Pos} {body : List Stmt} {I : Addr} {fp wr : List Addr} {n : Nat} {P : Nat → Value → Prop} {St : Nat → Heap → Prop} {Er : Value → Shared → Prop}
    (S : FS c f.L m H s) (T : SC (· = f.L) H0 s0 H s) (W : Walks c.prog c.w A I fp wr n P St) (val : Nat → V) (hP : ∀ i v, i < n → P i v → VR (val i) v)
    (hst : ∀ i h, St i h → ∀ b ∈ fp, ∃ o, h.get? b = some o) (h0 : St 0 s.heap) (hL : f.L ∉ fp) (hnw : ∀ b ∈ fp, ∀ q, H b = some q → q.w = false)
    (hwr : ∀ b ∈ wr, H b = none ∧ c.hs.get? b = none ∧ s0.heap.get? b = none)
    (J : Nat → List (Str × V) → Hp → Prop) (j0 : J 0 m H)
    (turn : ∀ i m H, i < n → J i m H → EX c A f (execs body f.env) (put m x (val i)) H (fun m' H' => J (i + 1) m' H') R)
    (hN : ∀ m H, J n m H → N m H) (hx : f.env.kindOf x = some .local) (hk : f.sc.kind = .function) :
    codeAny (model c.prog c.w) A (.forLoop (.Name x px) (.ref I) body [] f.env) (fun r s' => match r with | .ok fl => FlowTo c f H0 s0 N R fl s' | .error e => Er e s') s := by
  have hLw : f.L ∉ wr := fun q => hL (W.sub _ q)
  refine codeAny_forLoop (fun k s' => ∃ i m' H', i ≤ n ∧ k = n - i ∧ FS c f.L m' H' s' ∧ SC (· = f.L) H0 s0 H' s' ∧ St i s'.heap ∧ (∀ b ∈ fp, ∀ q, H' b = some q → q.w = false) ∧ (∀ b ∈ wr, H' b = none) ∧ J i m' H') ?_ n
    ⟨0, m, H, Nat.zero_le _, by walk_at "om", S, T, h0, hnw, fun b hb => (hwr b hb).1, j0⟩
  rintro k s' ⟨i, m', H', hi, rfl, S', T', st, nw, w0, j⟩
  refine wpAny_mono (?_ : wpAny _ _ _ _ (fun _ _ => False) _) (fun _ _ x => x) (fun _ _ x => x.elim)
  by_cases hlt : i < n
  · refine W.item i s' _ _ hlt st fun v h1 tk hv st1 hk1 => ?_
    have S1 : FS c f.L m' H' { s' with heap := h1, toks := tk } := S'.walked hLw (fun b hb => ⟨w0 b hb, (hwr b hb).2.1⟩) hk1
    have T1 : SC (· = f.L) H0 s0 H' { s' with heap := h1, toks := tk } := T'.walked (fun b hb => (hwr b hb).2.2) hk1
    refine wpAny_mono (?_ : wpAny _ _ _ _ (fun _ _ => False) _) (fun _ _ x => x) (fun _ _ x => x.elim)
    refine wpAny_assign_Name (SN_store (hP i v hlt hv) S1 hx hk fun s2 S2 T2 => ?_)
    refine wpAny_mono ((turn i m' H' hlt j).use S2 (Q0 := fun fl s₃ => match fl with
            | .next | .cont => ∃ k, k < n - i ∧ ∃ i m' H', i ≤ n ∧ k = n - i ∧ FS c f.L m' H' s₃ ∧ SC (· = f.L) H0 s0 H' s₃ ∧ St i s₃.heap ∧ (∀ b ∈ fp, ∀ q, H' b = some q → q.w = false) ∧ (∀ b ∈ wr, H' b = none) ∧ J i m' H'
            | .brk => False
            | .ret v => ∃ v' m' H', VR v' v ∧ FS c f.L m' H' s₃ ∧ SC (· = f.L) H0 s0 H' s₃ ∧ R v' H') (fun m3 H3 s3 S3 T3 q3 => ?_) (fun v v' m3 H3 s3 r3 S3 T3 q3 => ⟨v', m3, H3, r3, S3, T1.trans (T2.trans T3), q3⟩)) (fun fl s4 x => ?_) (fun _ _ x => x.elim)
    · have keep2 : ∀ b ∈ fp, ∀ o, h1.get? b = some o → s2.heap.get? b = some o := fun b hb o e => T2.keep b o (fun q => hL (q ▸ hb)) (nw b hb) e
      have keep3 : ∀ b ∈ fp, ∀ o, s2.heap.get? b = some o → s3.heap.get? b = some o := fun b hb o e => T3.keep b o (fun q => hL (q ▸ hb)) (nw b hb) e
      have alive2 : ∀ b ∈ fp, ∃ o, s2.heap.get? b = some o := fun b hb => by
        obtain ⟨o, e⟩ := hst _ _ st1 b hb; exact ⟨o, keep2 b hb o e⟩
      refine ⟨n - (i + 1), by walk_at "om", i + 1, m3, H3, hlt, rfl, S3, T1.trans (T2.trans T3), W.frame _ _ _ st1 fun b hb o e => keep3 b hb o (keep2 b hb o e), fun b hb q e => ?_, fun b hb => ?_, q3⟩
      · rcases T3.new b q e with x | ⟨q0, e0, w⟩
        · obtain ⟨o, y⟩ := alive2 b hb; rw [x] at y; cases y
        · have := nw b hb q0 e0
          cases hw : q.w with
          | false => rfl
          | true => rw [w hw] at this; cases this
      · cases e : H3 b with
        | none => rfl
        | some q =>
          rcases T3.new b q e with x | ⟨q0, e0, w⟩
          · obtain ⟨o, y⟩ := alive2 b (W.sub _ hb); rw [x] at y; cases y
          · rw [w0 b hb] at e0; cases e0
    · cases fl <;> first | exact x | exact x.elim
  · have : i = n := by walk_at "om"
    subst this
    refine W.done s' _ _ st fun h1 tk hk1 => wpAny_execs_nil ?_
    exact ⟨m', H', S'.walked hLw (fun b hb => ⟨w0 b hb, (hwr b hb).2.1⟩) hk1, T'.walked (fun b hb => (hwr b hb).2.2) hk1, hN _ _ j⟩
end
end Mine
namespace Mine
open PySem PySem.W PySem.Calls PyProof.Rows
local macro_rules | `(tactic| walk_at "om") => `(tactic| first
  | with_reducible assumption
  | decide
  | with_reducible exact Nat.le_refl _
  | exact Nat.lt_of_lt_of_le (by with_reducible assumption) (by decide)
  | lia
  | omega)

section
variable {c : Cx} {A : Around} {f : Fm} {m : List (Str × V)} {H : Hp} {N : List (Str × V) → Hp → Prop} {R : V → Hp → Prop}

theorem raw_typ {x : Str} {id : String} {np pos : Pos} {e : Expr} {rest : List Expr} {G : List V → Hp → Prop} {Q0 : Value → Shared → Prop} {s : Shared} (O : c.Ok) (S : FS c f.L m H s)
    (hg : nsIn c.K mainGlobals x = some none) (hb : bootBuiltins x = some (.type id)) (h : EVl c A f pos (e :: rest) m H G)
    (k : ∀ us vs H' s', VsR vs us → FS c f.L m H' s' → SC (· = f.L) H s H' s' → G vs H' → wpAny (model c.prog c.w) A (call (.type id) us) Q0 (fun _ _ => False) s') (hn : x ≠ "__name__")
    (hf : f.sc.kind = .function) (hx : f.env.kindOf x = some .globalImplicit) (hd : (x == ("__debug__" : Str)) = false)
    (he : starEach (e :: rest) f.env = (false, eval e f.env) :: starEach rest f.env) (hplain : (backTo pos (starEach rest f.env)).any (·.1) = false) :
    wpAny (model c.prog c.w) A (eval (.Call (.Name x np) (e :: rest) [] pos) f.env) Q0 (fun _ _ => False) s :=
  wpAny_Call_NameR (Name_function_global (env := f.env) hf hx (loadGlobal_builtin (env := f.env) (O.t.g.keeps S.keeps) (mg_none_of O.k O.t.g hg) (O.t.b.keeps S.keeps) ((O.t.builtins x hn).trans hb)
    (PyProof.Rows.callWith_type1 (SM.use h S fun _ _ _ _ r2 S2 T2 q2 => k _ _ _ _ r2 S2 T2 q2) he hplain)) hd)

theorem boot_range : bootBuiltins "range" = some (.type "range") := by decide +kernel

/-- a loop over a walk whose iterator has just been laid at the heap's end -/
theorem range_go {x : Str} {px : Pos} {body : List Stmt} {H1 : Hp} {s s1 : Shared} {a d : Int} {n tk : Nat} (hh : A.handled = none)
    (S1 : FS c f.L m H1 s1) (T1 : SC (· = f.L) H s H1 s1) {h2 : Heap} (hk2 : ∀ b o, s1.heap.get? b = some o → h2.get? b = some o) {I : Addr} (hI : s1.heap.get? I = none) (hI2 : IsRangeIter h2 I (a + ((0 : Nat) : Int) * d) ((n : Int) - ((0 : Nat) : Int)) d)
    (J : Nat → List (Str × V) → Hp → Prop) (j0 : J 0 m H1)
    (turn : ∀ i m H, i < n → J i m H → EX c A f (execs body f.env) (put m x (.int (a + i * d))) H (fun m' H' => J (i + 1) m' H') R)
    (hN : ∀ m H, J n m H → N m H) (hx : f.env.kindOf x = some .local) (hk : f.sc.kind = .function) :
    codeAny (model c.prog c.w) A (.forLoop (.Name x px) (.ref I) body [] f.env) (fun r s' => match r with | .ok fl => FlowTo c f H s N R fl s' | .error e => cameBackBy (model c.prog c.w) A f.env (fun _ _ => False) e s') { s1 with heap := h2, toks := tk } := by
  refine loop_run (S1.grow hk2) (T1.trans (.grow hk2)) (Walks.range hh I a d n) (fun i => .int (a + i * d)) (fun i v _ ⟨t, e⟩ => by subst e; exact .int) (fun i h st b hb => ?_) hI2 (fun q => ?_) (fun b hb q e => ?_) (fun b hb => ?_) J j0 turn hN hx hk
  · simp at hb; subst hb; exact ⟨_, st⟩
  · simp at q
    obtain ⟨mm, ⟨o, es, ep, h, r⟩, _⟩ := S1.ns
    rw [q, hI] at h; cases h
  · simp at hb; subst hb; rw [S1.fresh hI] at e; cases e
  · simp at hb; subst hb
    refine ⟨S1.fresh hI, S1.freshS hI, ?_⟩
    cases e : s.heap.get? b with
    | none => rfl
    | some o => obtain ⟨o1, e1⟩ := T1.alive _ _ e; rw [hI] at e1; cases e1

theorem EX_range1 {x : Str} {px np rpos pos : Pos} {e : Expr} {body : List Stmt} (O : c.Ok) (hh : A.handled = none) (hg : nsIn c.K mainGlobals (Str.ofString "range") = some none)
    (h : EVl c A f rpos [e] m H (fun vs H1 => ∃ (n : Int) (J : Nat → List (Str × V) → Hp → Prop), vs = [.int n] ∧ -(2 ^ 62) ≤ n ∧ n < 2 ^ 62 ∧ J 0 m H1 ∧
      (∀ i m H, i < n.toNat → J i m H → EX c A f (execs body f.env) (put m x (.int i)) H (fun m' H' => J (i + 1) m' H') R) ∧ (∀ m H, J n.toNat m H → N m H)))
    (hx : f.env.kindOf x = some .local := by with_unfolding_all rfl) (hk : f.sc.kind = .function := by with_unfolding_all rfl) (hr : f.env.kindOf (Str.ofString "range") = some .globalImplicit := by with_unfolding_all rfl)
    (he : starEach [e] f.env = [(false, eval e f.env)] := by with_unfolding_all rfl) (hs : ∀ x, foldedSetIterable (.Call (.Name (Str.ofString "range") np) [e] [] rpos) f.env x = pure x := by intro _; with_unfolding_all rfl) :
    EX c A f (exec (.For (.Name x px) (.Call (.Name (Str.ofString "range") np) [e] [] rpos) body [] pos) f.env) m H N R := fun s S => by
  refine wpAny_For (raw_typ O S hg boot_range h (fun us vs H1 s1 r1 S1 T1 q1 => ?_) (by decide) hk hr (by decide) he rfl) hs
  obtain ⟨n, J, e, lo, hi, j0, turn, hN⟩ := q1
  subst e
  cases r1 with | cons r1 r2 =>
  cases r1; cases r2
  refine call_range_1 (wpAny_pyIter_range (IsRange.new ..) (small_one (by decide) (by decide) lo hi) ?_)
  have hk2 : ∀ (p1 p2 : Obj) b o, s1.heap.get? b = some o → ((s1.heap.push p1).push p2).get? b = some o := fun _ _ b o e => Heap.get?_push_of_some _ (Heap.get?_push_of_some _ e)
  refine range_go (a := 0) (d := 1) (n := n.toNat) hh S1 T1 (hk2 _ _) ?_ ?_ J j0 (fun i m H hi j => ?_) hN hx hk
  · show s1.heap.get? (s1.heap.push _).objs.size = none
    cases e : s1.heap.get? (s1.heap.push _).objs.size with
    | none => rfl
    | some o => have := Heap.lt_size e; rw [Heap.size_push] at this; exact absurd (Nat.lt_of_succ_lt this) (Nat.lt_irrefl _)
  · have e1 : (0 + ((0 : Nat) : Int) * 1) = 0 := by simp
    have e2 : ((n.toNat : Int) - ((0 : Nat) : Int)) = Builtin.Range.rangeSize 0 n 1 := by rw [rangeSize_one]; split <;> walk_at "om"
    rw [e1, e2]
    exact Heap.get?_push_size _ rfl
  · have := turn i m H hi j
    simpa using this

theorem EX_range2 {x : Str} {px np rpos pos : Pos} {e1 e2 : Expr} {body : List Stmt} (O : c.Ok) (hh : A.handled = none) (hg : nsIn c.K mainGlobals (Str.ofString "range") = some none)
    (h : EVl c A f rpos [e1, e2] m H (fun vs H1 => ∃ (a b : Int) (J : Nat → List (Str × V) → Hp → Prop), vs = [.int a, .int b] ∧ (-(2 ^ 62) ≤ a ∧ a < 2 ^ 62 ∧ -(2 ^ 62) ≤ b ∧ b < 2 ^ 62) ∧ J 0 m H1 ∧
      (∀ i m H, i < (b - a).toNat → J i m H → EX c A f (execs body f.env) (put m x (.int (a + i))) H (fun m' H' => J (i + 1) m' H') R) ∧ (∀ m H, J (b - a).toNat m H → N m H)))
    (hx : f.env.kindOf x = some .local := by with_unfolding_all rfl) (hk : f.sc.kind = .function := by with_unfolding_all rfl) (hr : f.env.kindOf (Str.ofString "range") = some .globalImplicit := by with_unfolding_all rfl)
    (he : starEach [e1, e2] f.env = [(false, eval e1 f.env), (false, eval e2 f.env)] := by with_unfolding_all rfl) (hs : ∀ x, foldedSetIterable (.Call (.Name (Str.ofString "range") np) [e1, e2] [] rpos) f.env x = pure x := by intro _; with_unfolding_all rfl) 
    (hp : (backTo rpos (starEach [e2] f.env)).any (·.1) = false := by with_unfolding_all rfl) (he2 : starEach [e1, e2] f.env = (false, eval e1 f.env) :: starEach [e2] f.env := by with_unfolding_all rfl) :
    EX c A f (exec (.For (.Name x px) (.Call (.Name (Str.ofString "range") np) [e1, e2] [] rpos) body [] pos) f.env) m H N R := fun s S => by
  refine wpAny_For (raw_typ O S hg boot_range h (fun us vs H1 s1 r1 S1 T1 q1 => ?_) (by decide) hk hr (by decide) he2 hp) hs
  obtain ⟨a, b, J, e, ⟨lo, hi, lo2, hi2⟩, j0, turn, hN⟩ := q1
  subst e
  cases r1 with | cons r1 r2 => cases r2 with | cons r2 r3 =>
  cases r1; cases r2; cases r3
  refine call_range_2 (wpAny_pyIter_range (IsRange.new ..) (small_one lo hi lo2 hi2) ?_)
  have hk2 : ∀ (p1 p2 : Obj) b o, s1.heap.get? b = some o → ((s1.heap.push p1).push p2).get? b = some o := fun _ _ b o e => Heap.get?_push_of_some _ (Heap.get?_push_of_some _ e)
  refine range_go (a := a) (d := 1) (n := (b - a).toNat) hh S1 T1 (hk2 _ _) ?_ ?_ J j0 (fun i m H hi j => ?_) hN hx hk
  · show s1.heap.get? (s1.heap.push _).objs.size = none
    cases e : s1.heap.get? (s1.heap.push _).objs.size with
    | none => rfl
    | some o => have := Heap.lt_size e; rw [Heap.size_push] at this; exact absurd (Nat.lt_of_succ_lt this) (Nat.lt_irrefl _)
  · have e1 : (a + ((0 : Nat) : Int) * 1) = a := by simp
    have e2 : (((b - a).toNat : Int) - ((0 : Nat) : Int)) = Builtin.Range.rangeSize a b 1 := by rw [rangeSize_one]; split <;> walk_at "om"
    rw [e1, e2]
    exact Heap.get?_push_size _ rfl
  · have := turn i m H hi j
    simpa using this

theorem EX_range3 {x : Str} {px np rpos pos : Pos} {e1 e2 e3 : Expr} {body : List Stmt} (O : c.Ok) (hh : A.handled = none) (hg : nsIn c.K mainGlobals (Str.ofString "range") = some none)
    (h : EVl c A f rpos [e1, e2, e3] m H (fun vs H1 => ∃ (a b : Int) (J : Nat → List (Str × V) → Hp → Prop), vs = [.int a, .int b, .int (-1)] ∧ (-(2 ^ 62) ≤ a ∧ a < 2 ^ 62 ∧ -(2 ^ 62) ≤ b ∧ b < 2 ^ 62) ∧ J 0 m H1 ∧
      (∀ i m H, i < (a - b).toNat → J i m H → EX c A f (execs body f.env) (put m x (.int (a - i))) H (fun m' H' => J (i + 1) m' H') R) ∧ (∀ m H, J (a - b).toNat m H → N m H)))
    (hx : f.env.kindOf x = some .local := by with_unfolding_all rfl) (hk : f.sc.kind = .function := by with_unfolding_all rfl) (hr : f.env.kindOf (Str.ofString "range") = some .globalImplicit := by with_unfolding_all rfl)
    (hs : ∀ x, foldedSetIterable (.Call (.Name (Str.ofString "range") np) [e1, e2, e3] [] rpos) f.env x = pure x := by intro _; with_unfolding_all rfl) 
    (hp : (backTo rpos (starEach [e2, e3] f.env)).any (·.1) = false := by with_unfolding_all rfl) (he2 : starEach [e1, e2, e3] f.env = (false, eval e1 f.env) :: starEach [e2, e3] f.env := by with_unfolding_all rfl) :
    EX c A f (exec (.For (.Name x px) (.Call (.Name (Str.ofString "range") np) [e1, e2, e3] [] rpos) body [] pos) f.env) m H N R := fun s S => by
  refine wpAny_For (raw_typ O S hg boot_range h (fun us vs H1 s1 r1 S1 T1 q1 => ?_) (by decide) hk hr (by decide) he2 hp) hs
  obtain ⟨a, b, J, e, ⟨lo, hi, lo2, hi2⟩, j0, turn, hN⟩ := q1
  subst e
  cases r1 with | cons r1 r2 => cases r2 with | cons r2 r3 => cases r3 with | cons r3 r4 =>
  cases r1; cases r2; cases r3; cases r4
  refine call_range_3 (by decide) (wpAny_pyIter_range (IsRange.new ..) (small_down lo hi lo2 hi2) ?_) (.inl (PyProof.noPylong_small (by decide)))
  have hk2 : ∀ (p1 p2 : Obj) b o, s1.heap.get? b = some o → ((s1.heap.push p1).push p2).get? b = some o := fun _ _ b o e => Heap.get?_push_of_some _ (Heap.get?_push_of_some _ e)
  refine range_go (a := a) (d := -1) (n := (a - b).toNat) hh S1 T1 (hk2 _ _) ?_ ?_ J j0 (fun i m H hi j => ?_) hN hx hk
  · show s1.heap.get? (s1.heap.push _).objs.size = none
    cases e : s1.heap.get? (s1.heap.push _).objs.size with
    | none => rfl
    | some o => have := Heap.lt_size e; rw [Heap.size_push] at this; exact absurd (Nat.lt_of_succ_lt this) (Nat.lt_irrefl _)
  · have e1 : (a + ((0 : Nat) : Int) * -1) = a := by simp
    have e2 : (((a - b).toNat : Int) - ((0 : Nat) : Int)) = Builtin.Range.rangeSize a b (-1) := by rw [rangeSize_downNat]; walk_at "om"
    rw [e1, e2]
    exact Heap.get?_push_size _ rfl
  · have := turn i m H hi j
    have e : a + (i : Int) * -1 = a - i := by walk_at "om"
    rw [e]; exact this

/-- over a list that the loop does not turn -/
theorem EX_forlist {x : Str} {px pos : Pos} {iter : Expr} {body : List Stmt} (hh : A.handled = none)
    (h : EV c A f iter m H (fun v H1 => ∃ (a : Addr) (xs : List V) (J : Nat → List (Str × V) → Hp → Prop), v = .ref a ∧ H1 a = some ⟨false, false, xs⟩ ∧ J 0 m H1 ∧
      (∀ i m H v, xs[i]? = some v → J i m H → EX c A f (execs body f.env) (put m x v) H (fun m' H' => J (i + 1) m' H') R) ∧ (∀ m H, J xs.length m H → N m H)))
    (hx : f.env.kindOf x = some .local := by with_unfolding_all rfl) (hk : f.sc.kind = .function := by with_unfolding_all rfl) (hs : ∀ x, foldedSetIterable iter f.env x = pure x := by intro _; with_unfolding_all rfl) :
    EX c A f (exec (.For (.Name x px) iter body [] pos) f.env) m H N R := fun s S => by
  refine wpAny_For (h.use S fun _ _ H1 s1 r1 S1 T1 q1 => ?_) hs
  obtain ⟨a, xs, J, e, ha, j0, turn, hN⟩ := q1
  subst e; cases r1
  obtain ⟨us, k, r, hl⟩ := S1.isList ha
  have hL : s1.heap.IsList a us.toArray := ⟨_, hl, rfl, k, rfl⟩
  refine wpAny_pyIter_list hL ?_
  have hk2 : ∀ b o, s1.heap.get? b = some o → (s1.heap.push { cls := .type "list_iterator", data := .fields #[.ref a, .int 0 0] }).get? b = some o := fun b o e => Heap.get?_push_of_some _ e
  have hne : a ≠ s1.heap.objs.size := Nat.ne_of_lt (Heap.lt_size hl)
  have hz : us.toArray.size = xs.length := by rw [List.size_toArray]; exact r.length
  refine loop_run (S1.grow (tk := s1.toks) hk2) (T1.trans (.grow (tk := s1.toks) hk2)) (Walks.list hh s1.heap.objs.size a hne us.toArray) (fun i => xs.getD i .none) (fun i v hi e => ?_) (fun i h st b hb => ?_) ?_ (fun q => ?_) (fun b hb q e => ?_) (fun b hb => ?_) J j0 (fun i m H hi j => ?_) (by rw [hz]; exact hN) hx hk
  · have hi' : i < xs.length := by walk_at "om"
    obtain ⟨u, h1, h2⟩ := r.get (List.getElem?_eq_getElem hi')
    have : us[i]? = some v := by simpa using e
    rw [this] at h1; cases h1
    rw [List.getD_eq_getElem?_getD, List.getElem?_eq_getElem hi']; exact h2
  · simp at hb
    rcases hb with rfl | rfl
    · obtain ⟨⟨o, e, _⟩, _⟩ := st; exact ⟨o, e⟩
    · obtain ⟨_, ⟨o, e, _⟩⟩ := st; exact ⟨o, e⟩
  · exact ⟨⟨_, Heap.get?_push_size _ rfl, rfl, rfl⟩, hL.push _⟩
  · simp at q
    obtain ⟨mm, ⟨o, es, ep, h, r⟩, _⟩ := S1.ns
    rcases q with q | q
    · rw [q, size_fresh] at h; cases h
    · rw [← q, S1.hL] at ha; cases ha
  · simp at hb
    rcases hb with rfl | rfl
    · rw [S1.fresh (size_fresh _)] at e; cases e
    · rw [ha] at e; cases e; rfl
  · simp at hb; subst hb
    refine ⟨S1.fresh (size_fresh _), S1.freshS (size_fresh _), ?_⟩
    cases e : s.heap.get? s1.heap.objs.size with
    | none => rfl
    | some o => obtain ⟨o1, e1⟩ := T1.alive _ _ e; rw [size_fresh] at e1; cases e1
  · have hi' : i < xs.length := by walk_at "om"
    have := turn i m H _ (List.getElem?_eq_getElem hi') j
    rw [List.getD_eq_getElem?_getD, List.getElem?_eq_getElem hi']; exact this
end
end Mine
namespace Mine
open PySem PySem.W PySem.Calls PyProof.Rows
local macro_rules | `(tactic| walk_at "om") => `(tactic| first
  | with_reducible assumption
  | decide
  | with_reducible exact Nat.le_refl _
  | exact Nat.lt_of_lt_of_le (by with_reducible assumption) (by decide)
  | lia
  | omega)

/-! ## entering a def -/
theorem lookup_rev {α : Type} : ∀ (l : List (Str × α)) (x : Str), (l.map (·.1)).Nodup → l.reverse.lookup x = l.lookup x
  | [], _, _ => rfl
  | (y, v) :: r, x, h => by
    have hn := List.nodup_cons.mp h
    have ih := lookup_rev r x hn.2
    rw [List.reverse_cons, List.lookup_append, ih, List.lookup_cons, List.lookup_cons]
    by_cases e : x == y
    · have : x = y := beq_iff_eq.mp e
      subst this
      have : r.lookup x = none := by
        rw [List.lookup_eq_none_iff]
        intro p hp
        cases q : x == p.1 with
        | false => simp [bne, q]
        | true => exact absurd (List.mem_map.mpr ⟨p, hp, (beq_iff_eq.mp q).symm⟩) hn.1
      simp [this]
    · simp only [e]
      cases r.lookup x <;> rfl

theorem MR_zip : ∀ {names : List Str} {vs : List V} {us : List Value}, VsR vs us → ∀ x, MR (lkp (names.zip vs) x) ((names.zip us).lookup x)
  | [], _, _, _, x => by simp [lkp]; exact .none
  | n :: ns, _, _, .nil, x => by simp [lkp]; exact .none
  | n :: ns, _, _, .cons r rs, x => by
    simp only [List.zip_cons_cons, lkp, List.lookup_cons]
    by_cases e : x = n
    · subst e; simp; exact .some r
    · have : (x == n) = false := by simpa using e
      simp only [if_neg e, this]
      exact MR_zip rs x

theorem CALL_enter {c : Cx} {A : Around} {g : Addr} {vs : List V} {H : Hp} {Q : V → Hp → Prop} {nm qual : Str} {params : Arguments} {body : List Stmt} {sc : Scope} {dV kV doc pm cdv ct oc : Value} {an od : Option Addr} {osl : Array (Option Value)} (names : List Str)
    (O : c.Ok) (hroom : A.depth < recursionLimit)
    (ho : c.K.lookup g = some ⟨oc, od, .func (fnOf nm qual params body sc dV kV doc pm an cdv ct), osl⟩) (hcd : codeIn c.K cdv qual = true)
    (hb : ∀ us : List Value, us.length = names.length → bindArgs (fnOf nm qual params body sc dV kV doc pm an cdv ct) ⟨us, []⟩ = pure (names.zip us))
    (hlen : vs.length = names.length) (hloc : (names.all fun y => sc.names.lookup y == some .local) = true) (hnd : names.Nodup)
    (hcell : (sc.names.all fun x => x.2 != .cell) = true)
    (h : ∀ L, EX c (A.deeper (envOf qual sc L g cdv)) (Fm.of qual sc L g cdv) (execs body (Fm.of qual sc L g cdv).env) (names.zip vs) H (fun _ H' => Q .none H') Q)
    (hco : sc.isCoroutine = false := by with_unfolding_all rfl) (hgen : sc.isGenerator = false := by with_unfolding_all rfl) (hk : sc.kind = .function := by with_unfolding_all rfl) : CALL c A g vs H Q := fun s args S r => by
  have ul : args.length = names.length := r.length.trans hlen
  have hmap : ((names.zip args).map (·.1)) = names := by
    rw [List.map_fst_zip]; walk_at "om"
  refine codeAny_call_def (fd := fnOf nm qual params body sc dV kV doc pm an cdv ct) (body := body) (binds := names.zip args) hroom (S.keeps _ _ (O.k _ _ ho)) rfl (O.t.nolimit.keeps S.keeps) ((codeRec_of O.k hcd).keeps S.keeps) rfl
    (BindsTo.of_eq (hb args ul)) (fun x hx => ?_) (fun y hy => ?_) (fun h₀ hns hk₀ => ?_) hco hgen hk
  · have := List.all_eq_true.mp hcell x hx
    simpa using this
  · have h1 := (List.of_mem_zip (a := y.1) (b := y.2) hy).1
    have := List.all_eq_true.mp hloc y.1 h1
    simpa using this
  have S0 : FS c s.heap.objs.size (names.zip vs) H { s with heap := h₀, toks := s.toks + (names.zip args).length } := by
    refine { toHS := S.grow hk₀, ns := ⟨_, hns, fun x => ?_⟩, hL := S.fresh (size_fresh _), hsL := S.freshS (size_fresh _) }
    rw [lookup_rev _ _ (by rw [hmap]; exact hnd)]
    exact MR_zip r x
  have done : ∀ {m' H' s' v v'}, VR v' v → FS c s.heap.objs.size m' H' s' → SC (· = s.heap.objs.size) H { s with heap := h₀, toks := s.toks + (names.zip args).length } H' s' → Q v' H' →
      ∃ w w' H', (Except.ok (Flow.ret v) : Result) = .ok (.ret w) ∧ VR w' w ∧ HS c H' s' ∧ SC (fun _ => False) H s H' s' ∧ Q w' H' := by
    intro m' H' s' v v' rv S' T q
    refine ⟨v, v', H', rfl, rv, S'.toHS, ⟨?_, fun b o _ hq e => ?_, fun b o e => T.alive b o (hk₀ b o e), fun b q e => ?_⟩, q⟩
    · have := T.same; rw [this]
    · exact T.keep b o (Nat.ne_of_lt (Heap.lt_size e)) hq (hk₀ b o e)
    · rcases T.new b q e with x | x
      · left
        cases e2 : s.heap.get? b with
        | none => rfl
        | some o =>
          have x' : h₀.get? b = none := x
          rw [hk₀ b o e2] at x'; cases x'
      · exact .inr x
  refine wpAny_mono (?_ : wpAny _ _ _ _ (fun _ _ => False) _) (fun _ _ x => x) (fun _ _ x => x.elim)
  exact (h s.heap.objs.size).use S0 (fun m' H' s' S' T q => done .none S' T q) (fun v v' m' H' s' rv S' T q => done rv S' T q)

section
variable {c : Cx} {A : Around} {f : Fm} {m : List (Str × V)} {H : Hp} {N : List (Str × V) → Hp → Prop} {R : V → Hp → Prop} {Q : V → Hp → Prop}

/-! ## writing into a list -/
theorem FS.write {L D : Addr} {s : Shared} {w : Bool} {xs xs' : List V} {us : List Value} {n tk : Nat} {h' : Heap} (S : FS c L m H s) (e : H D = some ⟨true, false, xs⟩) (r : VsR xs' us)
    (hs : Heap.SameBut D s.heap h') (hd : h'.get? D = some { cls := .type "list", data := .seq us.toArray n }) : FS c L m (H.set D ⟨true, false, xs'⟩) { s with heap := h', toks := tk } where
  obj := fun a o ea => by
    unfold Hp.set at ea
    by_cases q : a = D
    · subst q; rw [if_pos rfl] at ea; cases ea; exact ⟨us, n, r, hd⟩
    · rw [if_neg q] at ea
      obtain ⟨us', n', r', h1⟩ := S.obj a o ea
      exact ⟨us', n', r', (hs.2 a q).trans h1⟩
  wr := fun a o ea hw => by
    unfold Hp.set at ea
    by_cases q : a = D
    · subst q; exact S.wr _ _ e rfl
    · rw [if_neg q] at ea; exact S.wr a o ea hw
  keeps := fun b o eb => (hs.2 b (fun q => by rw [q, S.wr _ _ e rfl] at eb; cases eb)).trans (S.keeps b o eb)
  ns := by
    obtain ⟨mm, ⟨o, es, ep, h, r⟩, q⟩ := S.ns
    exact ⟨mm, ⟨o, es, ep, (hs.2 L (fun q => by have := S.hL; rw [q, e] at this; cases this)).trans h, r⟩, q⟩
  hL := by
    unfold Hp.set
    by_cases q : L = D
    · have := S.hL; rw [q, e] at this; cases this
    · rw [if_neg q]; exact S.hL
  hsL := S.hsL
theorem SC.write {ex : Addr → Prop} {D : Addr} {s : Shared} {xs xs' : List V} {tk : Nat} {h' : Heap} {ob : Obj} (e : H D = some ⟨true, false, xs⟩)
    (hs : Heap.SameBut D s.heap h') (hd : h'.get? D = some ob) : SC ex H s (H.set D ⟨true, false, xs'⟩) { s with heap := h', toks := tk } where
  same := rfl
  keep := fun b o _ hq eb => (hs.2 b (fun q => by subst q; have := hq _ e; cases this)).trans eb
  alive := fun b o eb => by
    by_cases q : b = D
    · subst q; exact ⟨_, hd⟩
    · exact ⟨o, (hs.2 b q).trans eb⟩
  new := fun b q eb => by
    unfold Hp.set at eb
    by_cases z : b = D
    · subst z; exact .inr ⟨_, e, fun _ => rfl⟩
    · rw [if_neg z] at eb; exact .inr ⟨q, eb, id⟩

theorem VsR.append {xs ys : List V} {us ws : List Value} (r : VsR xs us) (t : VsR ys ws) : VsR (xs ++ ys) (us ++ ws) := by
  induction r with
  | nil => exact t
  | cons h _ ih => exact .cons h ih
theorem VsR.set {xs : List V} {us : List Value} (r : VsR xs us) {v : V} {u : Value} (t : VR v u) : ∀ i, VsR (xs.set i v) (us.set i u) := by
  induction r with
  | nil => intro i; exact .nil
  | cons h hr ih =>
    intro i
    cases i with
    | zero => exact .cons t hr
    | succ i => exact .cons h (ih i)
theorem VsR.take {xs : List V} {us : List Value} (r : VsR xs us) : ∀ i, VsR (xs.take i) (us.take i) := by
  induction r with
  | nil => intro i; simp; exact .nil
  | cons h hr ih =>
    intro i
    cases i with
    | zero => exact .nil
    | succ i => exact .cons h (ih i)
theorem VsR.drop {xs : List V} {us : List Value} (r : VsR xs us) : ∀ i, VsR (xs.drop i) (us.drop i) := by
  induction r with
  | nil => intro i; simp; exact .nil
  | cons h hr ih =>
    intro i
    cases i with
    | zero => exact .cons h hr
    | succ i => exact ih i
theorem VsR.reverse {xs : List V} {us : List Value} (r : VsR xs us) : VsR xs.reverse us.reverse := by
  induction r with
  | nil => exact .nil
  | cons h hr ih => rw [List.reverse_cons, List.reverse_cons]; exact ih.append (.cons h .nil)

theorem EX_append {x : Str} {np apos pos p : Pos} {elt : Expr} {D : Addr} {w : Bool} {ys : List V} (hv : lkp m x = some (.ref D)) (hD : H D = some ⟨w, false, ys⟩)
    (h : EV c A f elt m H (fun v H1 => ∃ xs, H1 D = some ⟨true, false, xs⟩ ∧ xs.length ≤ 4096 ∧ N m (H1.set D ⟨true, false, xs ++ [v]⟩)))
    (hbase : attributeBase (.Name x np) "append" f.env (eval (.Name x np) f.env) = eval (.Name x np) f.env := by with_unfolding_all rfl)
    (hfew : ((backTo pos (starEach [elt] f.env)).all (fun x => !x.1) && (backToKw pos (keywordEach [] f.env)).all (fun x => x.1.isSome)
      && decide (([elt] : List Expr).length + ([] : List Keyword).length + (if ([] : List Keyword).isEmpty then 0 else 1) < 30)) = true := by with_unfolding_all rfl)
    (hline : (apos.endLine == pos.line) = true := by with_unfolding_all rfl) (htrees : backTo pos (starEach [elt] f.env) = [(false, eval elt f.env)] := by with_unfolding_all rfl)
    (hx : f.env.kindOf x = some .local := by with_unfolding_all rfl) (hk : f.sc.kind = .function := by with_unfolding_all rfl) (hd : (x == ("__debug__" : Str)) = false := by decide)
    (hi : interactive f.env = false := by with_unfolding_all rfl) (hs : swapsWith (.Call (.Attribute (.Name x np) "append" apos) [elt] [] pos) none p.line f.env = pure false := by with_unfolding_all rfl) :
    EX c A f (exec (.Expr (.Call (.Attribute (.Name x np) "append" apos) [elt] [] pos) p) f.env) m H N R := fun s S => by
  refine wpAny_Expr (wpAny_Call_append hbase hfew hline htrees ((EV_local (Q := fun v H1 => v = .ref D ∧ H1 = H) hv ⟨rfl, rfl⟩ hk hx hd).use S fun _ _ _ s1 r1 S1 T1 q1 => ?_)) hi hs
  obtain ⟨e1, e2⟩ := q1
  subst e1; subst e2; cases r1
  obtain ⟨us, n, ru, hl⟩ := S1.isList hD
  refine ⟨D, us.toArray, rfl, ⟨_, n, hl, rfl, rfl, rfl⟩, h.use S1 fun _ _ _ s2 r2 S2 T2 q2 => ?_⟩
  obtain ⟨xs, e, hn, q⟩ := q2
  obtain ⟨us2, n2, ru2, hl2⟩ := S2.isList e
  refine append_at hl2 (fun h' hsb hd' => ?_) (by rw [List.size_toArray, ru2.length]; exact Nat.le_trans hn (by decide))
  have e3 : ∀ z, us2.toArray.push z = (us2 ++ [z]).toArray := by intro z; simp
  rw [e3] at hd'
  exact ⟨m, _, S2.write (w := true) (tk := s2.toks) e (ru2.append (.cons r2 .nil)) hsb hd', T1.trans (T2.trans (.write (tk := s2.toks) e hsb hd')), q⟩

theorem EX_setitem {o i value : Expr} {pos' pos : Pos}
    (h : EV c A f value m H (fun v H1 => EV c A f o m H1 (fun ov H2 => EV c A f i m H2 (fun iv H3 => PkSet H3 (fun D xs k => N m (H3.set D ⟨true, false, xs.set k.toNat v⟩)) ov iv))))
    (hs : swapsWith value (some (.Subscript o i pos')) pos.line f.env = pure false := by with_unfolding_all rfl) :
    EX c A f (exec (.Assign [.Subscript o i pos'] value pos) f.env) m H N R := fun s S => by
  refine wpAny_Assign_Subscript (h.use S fun v1 _ _ s1 r1 S1 T1 q1 => q1.use S1 fun _ _ _ s2 r2 S2 T2 q2 => q2.use S2 fun _ _ _ s3 r3 S3 T3 q3 => ?_) hs
  obtain ⟨D, xs, k, e1, e2, e, ⟨h0, hk, hf⟩, q⟩ := q3
  subst e1; subst e2; cases r2; cases r3
  obtain ⟨us, n, ru, hl⟩ := S3.isList e
  have hz : us.toArray.size = xs.length := by rw [List.size_toArray]; exact ru.length
  refine ki_setAt hl h0 (by walk_at "om") (by rw [hz]; exact hk) ?_
  have hd' : (s3.heap.update D (Obj.mapSeq (·.setIfInBounds k.toNat v1))).get? D = some { cls := .type "list", data := .seq (us.set k.toNat v1).toArray n } := by
    rw [Heap.get?_update_self _ hl (by simp [Obj.mapSeq, Obj.isFreed])]
    simp [Obj.mapSeq]
  exact ⟨m, _, S3.write (w := true) (tk := s3.toks) e (ru.set r1 _) (Heap.SameBut.update ..) hd', T1.trans (T2.trans (T3.trans (.write (tk := s3.toks) e (Heap.SameBut.update ..) hd'))), q⟩
end
end Mine
namespace Mine
open PySem PySem.W PySem.Calls PyProof.Rows
local macro_rules | `(tactic| walk_at "om") => `(tactic| first
  | with_reducible assumption
  | decide
  | with_reducible exact Nat.le_refl _
  | exact Nat.lt_of_lt_of_le (by with_reducible assumption) (by decide)
  | lia
  | omega)

section
variable {c : Cx} {A : Around} {f : Fm} {m : List (Str × V)} {H : Hp} {N : List (Str × V) → Hp → Prop} {R : V → Hp → Prop} {Q : V → Hp → Prop}

/-! ## slices -/
theorem slice_fin {s : Shared} {L l : Addr} {xs : List V} {vl vu : Value} {H0 : Hp} {s0 : Shared} {us : List Value} (S : FS c L m H s) (T : SC (fun _ => False) H0 s0 H s) (r : VsR xs us)
    (q : ∀ a, H a = none → Q (.ref a) (H.set a ⟨false, false, xs⟩)) :
    ∃ v' H', VR v' (.ref (s.heap.objs.size + 1)) ∧ FS c L m H' { s with heap := (s.heap.push { cls := .type "slice", data := .fields #[vl, vu, .none] }).push { cls := .type "list", data := .seq us.toArray } } ∧
      SC (fun _ => False) H0 s0 H' { s with heap := (s.heap.push { cls := .type "slice", data := .fields #[vl, vu, .none] }).push { cls := .type "list", data := .seq us.toArray } } ∧ Q v' H' := by
  have hk : ∀ b o, s.heap.get? b = some o → (s.heap.push { cls := .type "slice", data := .fields #[vl, vu, .none] }).get? b = some o := fun b o e => Heap.get?_push_of_some _ e
  have S1 := S.grow (tk := s.toks) hk
  have S2 := S1.alloc (o := ⟨false, false, xs⟩) (n := 0) (tk := s.toks) r
  have hz : (s.heap.push { cls := .type "slice", data := .fields #[vl, vu, .none] }).objs.size = s.heap.objs.size + 1 := Heap.size_push ..
  have hf : H (s.heap.objs.size + 1) = none := by
    have := S1.fresh (size_fresh _)
    rwa [hz] at this
  refine ⟨.ref (s.heap.objs.size + 1), H.set (s.heap.objs.size + 1) ⟨false, false, xs⟩, .ref, ?_, ?_, q _ hf⟩
  · rw [← hz]; exact S2
  · have T2 := (T.trans (.grow (tk := s.toks) hk)).trans (SC.alloc (o := ⟨false, false, xs⟩) (tk := s.toks) (ob := { cls := .type "list", data := .seq us.toArray }))
    rw [← hz]; exact T2

theorem EV_upto {value hi : Expr} {p pos : Pos} (h : EV c A f value m H (fun v H1 => EV c A f hi m H1 (fun b H2 => ∃ l w xs k, v = .ref l ∧ b = .int k ∧ H2 l = some ⟨w, false, xs⟩ ∧ (0 ≤ k ∧ k ≤ xs.length ∧ xs.length ≤ 4096) ∧ ∀ a, H2 a = none → Q (.ref a) (H2.set a ⟨false, false, xs.take k.toNat⟩))))
    (ht : ∀ o r, letTemporaryGo value o r = pure () := by intro _ _; with_unfolding_all rfl) : EV c A f (.Subscript value (.Slice none (some hi) none p) pos) m H Q := fun s S => by
  refine wpAny_Subscript_list_slice (h.uses S fun _ _ _ s1 r1 S1 T1 q1 => wpAny_evalPart_none (wpAny_evalPart_some (q1.uses S1 fun _ _ _ s2 r2 S2 T2 q2 => ?_))) ht
  obtain ⟨l, w, xs, k, e1, e2, e, ⟨h0, hk, hn⟩, q⟩ := q2
  subst e1; subst e2; cases r1; cases r2
  obtain ⟨us, n, ru, hl⟩ := S2.isList e
  have hz := ru.length
  refine ⟨l, us.toArray, none, some k, rfl, ⟨_, hl, rfl, n, rfl⟩, by rw [List.size_toArray, hz]; exact Nat.le_trans hn (by decide), .none, .int _ _, ?_⟩
  obtain ⟨j, rfl⟩ := Int.eq_ofNat_of_zero_le h0
  rw [slicePick_upto us.toArray j (by rw [List.size_toArray]; walk_at "om")]
  exact slice_fin (l := l) S2 (T1.trans T2) (ru.take j) q

theorem EV_range_ {value lo hi : Expr} {p pos : Pos} (h : EV c A f value m H (fun v H1 => EV c A f lo m H1 (fun a H2 => EV c A f hi m H2 (fun b H3 => ∃ l w xs i k, v = .ref l ∧ a = .int i ∧ b = .int k ∧ H3 l = some ⟨w, false, xs⟩ ∧ (0 ≤ i ∧ i ≤ k ∧ k ≤ xs.length ∧ xs.length ≤ 4096) ∧ ∀ a, H3 a = none → Q (.ref a) (H3.set a ⟨false, false, (xs.drop i.toNat).take (k.toNat - i.toNat)⟩)))))
    (ht : ∀ o r, letTemporaryGo value o r = pure () := by intro _ _; with_unfolding_all rfl) : EV c A f (.Subscript value (.Slice (some lo) (some hi) none p) pos) m H Q := fun s S => by
  refine wpAny_Subscript_list_slice (h.uses S fun _ _ _ s1 r1 S1 T1 q1 => wpAny_evalPart_some (q1.uses S1 fun _ _ _ s2 r2 S2 T2 q2 => wpAny_evalPart_some (q2.uses S2 fun _ _ _ s3 r3 S3 T3 q3 => ?_))) ht
  obtain ⟨l, w, xs, i, k, e1, e2, e3, e, ⟨h0, hik, hk, hn⟩, q⟩ := q3
  subst e1; subst e2; subst e3; cases r1; cases r2; cases r3
  obtain ⟨us, n, ru, hl⟩ := S3.isList e
  have hz := ru.length
  refine ⟨l, us.toArray, some i, some k, rfl, ⟨_, hl, rfl, n, rfl⟩, by rw [List.size_toArray, hz]; exact Nat.le_trans hn (by decide), .int _ _, .int _ _, ?_⟩
  obtain ⟨j, rfl⟩ := Int.eq_ofNat_of_zero_le h0
  obtain ⟨j2, rfl⟩ := Int.eq_ofNat_of_zero_le (Int.le_trans h0 hik)
  rw [slicePick_run us.toArray j j2 (by rw [List.size_toArray]; walk_at "om") (by walk_at "om")]
  exact slice_fin (l := l) S3 (T1.trans (T2.trans T3)) ((ru.drop j).take (j2 - j)) q

theorem EV_whole {value : Expr} {p pos : Pos} (h : EV c A f value m H (fun v H1 => ∃ l w xs, v = .ref l ∧ H1 l = some ⟨w, false, xs⟩ ∧ xs.length ≤ 4096 ∧ ∀ a, H1 a = none → Q (.ref a) (H1.set a ⟨false, false, xs⟩)))
    (ht : ∀ o r, letTemporaryGo value o r = pure () := by intro _ _; with_unfolding_all rfl) : EV c A f (.Subscript value (.Slice none none none p) pos) m H Q := fun s S => by
  refine wpAny_Subscript_list_slice (h.uses S fun _ _ _ s1 r1 S1 T1 q1 => wpAny_evalPart_none (wpAny_evalPart_none ?_)) ht
  obtain ⟨l, w, xs, e1, e, hn, q⟩ := q1
  subst e1; cases r1
  obtain ⟨us, n, ru, hl⟩ := S1.isList e
  refine ⟨l, us.toArray, none, none, rfl, ⟨_, hl, rfl, n, rfl⟩, by rw [List.size_toArray, ru.length]; exact Nat.le_trans hn (by decide), .none, .none, ?_⟩
  rw [slicePick_all]
  exact slice_fin (l := l) S1 T1 ru q

/-- backwards: row[::-1], the step given by any expression -/
theorem EV_back {value st : Expr} {p pos : Pos} (h : EV c A f value m H (fun v H1 => EV c A f st m H1 (fun b H2 => ∃ l w xs, v = .ref l ∧ b = .int (-1) ∧ H2 l = some ⟨w, false, xs⟩ ∧ xs.length ≤ 4096 ∧ ∀ a, H2 a = none → Q (.ref a) (H2.set a ⟨false, false, xs.reverse⟩))))
    (ht : ∀ o r, letTemporaryGo value o r = pure () := by intro _ _; with_unfolding_all rfl) : EV c A f (.Subscript value (.Slice none none (some st) p) pos) m H Q := fun s S => by
  refine wpAny_Subscript_Slice_step list_getitem_lookup (h.uses S fun _ _ _ s1 r1 S1 T1 q1 => wpAny_Slice (wpAny_evalPart_none (wpAny_evalPart_none (wpAny_evalPart_some (q1.uses S1 fun _ _ _ s2 r2 S2 T2 q2 => ?_))))) ht
  obtain ⟨l, w, xs, e1, e2, e, hn, q⟩ := q2
  subst e1; subst e2; cases r1; cases r2
  obtain ⟨us, n, ru, hl⟩ := S2.isList e
  have hk : ∀ (ob : Obj) b o, s2.heap.get? b = some o → (s2.heap.push ob).get? b = some o := fun _ b o e => Heap.get?_push_of_some _ e
  have hL : ∀ ob, (s2.heap.push ob).IsList l us.toArray := fun ob => ⟨_, hk ob _ _ hl, rfl, n, rfl⟩
  refine ⟨Heap.IsList.typeIs (s := { s2 with heap := s2.heap.push _ }) (hL _), wpAny_getItem_list_slice (s := { s2 with heap := s2.heap.push _ }) (hL _) (Heap.IsSliceOf.new ..) .none .none (.int _ _) (by simp) ?_ (by rw [List.size_toArray, ru.length]; exact Nat.le_trans hn (by decide))⟩
  rw [krv_pick]
  have hz : ∀ ob, (s2.heap.push ob).objs.size = s2.heap.objs.size + 1 := fun ob => Heap.size_push ..
  have S3 := fun ob => (S2.grow (tk := s2.toks) (hk ob)).alloc (o := ⟨false, false, xs.reverse⟩) (n := 0) (tk := s2.toks) ru.reverse
  have hf : ∀ ob, H (s2.heap.push ob).objs.size = H (s2.heap.objs.size + 1) := fun ob => by rw [hz]
  refine ⟨.ref (s2.heap.push _).objs.size, _, .ref, S3 _, (T1.trans T2).trans ((SC.grow (tk := s2.toks) (hk _)).trans (SC.alloc (o := ⟨false, false, xs.reverse⟩) (tk := s2.toks))), q _ ((S2.grow (tk := s2.toks) (hk _)).fresh (size_fresh _))⟩

/-! ## lists: times, plus -/
theorem VsR.replicate {v : V} {u : Value} (r : VR v u) : ∀ n, VsR (List.replicate n v) (List.replicate n u)
  | 0 => .nil
  | n + 1 => .cons r (VsR.replicate r n)

theorem foldl_app (u : Value) : ∀ (k : Nat) (acc : Array Value), List.foldl (fun x1 x2 => x1 ++ x2) acc (List.replicate k #[u]) = acc ++ (List.replicate k u).toArray := by
  intro k
  induction k with
  | zero => intro acc; simp
  | succ k ih =>
    intro acc
    rw [List.replicate_succ, List.foldl_cons, ih, List.replicate_succ]
    apply Array.toList_inj.mp
    simp

/-- [v] * k -/
theorem EV_times {l r : Expr} {pos : Pos} (h : EV c A f l m H (fun a H1 => EV c A f r m H1 (fun b H2 => ∃ d v k, a = .ref d ∧ b = .int k ∧ H2 d = some ⟨true, false, [v]⟩ ∧ (0 ≤ k ∧ k ≤ 4096) ∧ ∀ x, H2 x = none → Q (.ref x) (H2.set x ⟨true, false, List.replicate k.toNat v⟩)))) :
    EV c A f (.BinOp l .Mult r pos) m H Q :=
  EV_BinOp (h.mono fun _ _ q1 => q1.mono fun _ H2 ⟨d, v, k, ea, eb, e, ⟨k0, k1⟩, q⟩ => by
    subst ea; subst eb
    intro x y hx hy; cases hx
    cases hy
    rename_i tk
    intro s S
    obtain ⟨us, n, ru, hl⟩ := S.isList e
    obtain ⟨u0, rfl, ru1⟩ : ∃ u0, us = [u0] ∧ VR v u0 := by
      cases ru with | cons ru1 ru2 => cases ru2; exact ⟨_, rfl, ru1⟩
    refine wpAny_binaryOp_repeat_ref (T := "list") (U := "int") (by decide) ⟨_, hl, rfl⟩ (fun s' => typeIs_int s' k tk) noFill_list_mul F.fills_int_mul F.slot_int_rmul repeat_list F.slot_int_index.lookup
      (call_meets F.slot_int_rmul (typeIs_int s k tk) F.entry_int_rmul (F.args_int_rmul_2 _ _) (int___rmul___int_list k tk d _ n)
        ⟨hl, rfl, ⟨_, hl, rfl⟩, call_meets F.slot_list_mul ⟨_, hl, rfl⟩ F.entry_list_mul (F.args_list_mul_2 _ _)
          (lm_list_mul_any d _ n none #[] k tk (by simp [Builtin.List.listFitsIndex]; walk_at "om") (by simp; walk_at "om") (by simp [Builtin.List.listTooLong, sizeLine]; walk_at "om"))
          ⟨hl, ?_⟩⟩)
    have e2 : List.foldl (fun x1 x2 => x1 ++ x2) #[] (List.replicate (if ([u0] : List Value).toArray.isEmpty = true then 0 else k.toNat) ([u0] : List Value).toArray) = (List.replicate k.toNat u0).toArray := by
      have := foldl_app u0 k.toNat #[]
      simpa using this
    rw [e2]
    exact ⟨.ref s.heap.objs.size, _, .ref, S.alloc (o := ⟨true, false, _⟩) (n := 0) (tk := s.toks) (.replicate ru1 _), .alloc (o := ⟨true, false, _⟩) (tk := s.toks), q _ (S.fresh (size_fresh _))⟩)

/-- two lists in a row -/
theorem EV_cat {l r : Expr} {pos : Pos} (h : EV c A f l m H (fun a H1 => EV c A f r m H1 (fun b H2 => ∃ d e w1 w2 xs ys, a = .ref d ∧ b = .ref e ∧ H2 d = some ⟨w1, false, xs⟩ ∧ H2 e = some ⟨w2, false, ys⟩ ∧ xs.length + ys.length ≤ 4096 ∧ ∀ x, H2 x = none → Q (.ref x) (H2.set x ⟨true, false, xs ++ ys⟩)))) :
    EV c A f (.BinOp l .Add r pos) m H Q :=
  EV_BinOp (h.mono fun _ _ q1 => q1.mono fun _ H2 ⟨d, e, w1, w2, xs, ys, ea, eb, e1, e2, hn, q⟩ => by
    subst ea; subst eb
    intro x y hx hy; cases hx; cases hy
    intro s S
    obtain ⟨us, n, ru, hl⟩ := S.isList e1
    obtain ⟨ws, n2, rw_, hl2⟩ := S.isList e2
    refine P.add_list hl hl2 ?_ (by rw [List.size_toArray, List.size_toArray, ru.length, rw_.length]; exact Nat.le_trans hn (by decide))
    have e3 : us.toArray ++ ws.toArray = (us ++ ws).toArray := by simp
    rw [e3]
    exact ⟨.ref s.heap.objs.size, _, .ref, S.alloc (o := ⟨true, false, _⟩) (n := 0) (tk := s.toks) (ru.append rw_), .alloc (o := ⟨true, false, _⟩) (tk := s.toks), q _ (S.fresh (size_fresh _))⟩)

/-! ## a bit length -/
theorem EV_bitlen {o : Expr} {apos pos : Pos} (h : EV c A f o m H (fun v H1 => ∃ i, v = .int i ∧ Q (.int (Builtin.Int.intBits i)) H1))
    (hbase : attributeBase o "bit_length" f.env (eval o f.env) = eval o f.env := by with_unfolding_all rfl) (hline : (apos.endLine == pos.line) = true := by with_unfolding_all rfl) :
    EV c A f (.Call (.Attribute o "bit_length" apos) [] [] pos) m H Q := fun s S => by
  refine wpAny_Call_method0_late hbase hline (h.uses S fun _ _ _ s1 r1 S1 T1 q1 => ?_)
  obtain ⟨i, e, q⟩ := q1
  subst e; cases r1
  rename_i tk
  refine ⟨"int", "int.bit_length", F.plainAttrs_int, F.slot_int_bit_length, F.type_int_bit_length, typeIs_int s1 i tk, (by intro _ x; cases x), ?_⟩
  refine callWith_builtin rfl (evalArgs_nil3 ?_)
  exact call_int_bit_length ⟨_, _, .int, S1.tok, T1.trans .tok, q⟩

/-! ## several names at once -/
theorem aio_cons {M : Model} {E : Value → Shared → Prop} {s : Shared} {t : Value → Sem Unit} {ts : List (Value → Sem Unit)} {u : Value} {us : List Value} {Q0 : Unit → Shared → Prop} (h : wpAny M A (t u) (fun _ s1 => wpAny M A (assignInOrder ts us) Q0 E s1) E s) :
    wpAny M A (assignInOrder (t :: ts) (u :: us)) Q0 E s := wpAny_bind (wpAny_holding h)
theorem aio_nil {M : Model} {E : Value → Shared → Prop} {s : Shared} {Q0 : Unit → Shared → Prop} (h : Q0 () s) : wpAny M A (assignInOrder [] []) Q0 E s := wpAny_pure h

theorem FS.ext {L : Addr} {s : Shared} {h' : Heap} (S : FS c L m H s) (he : Heap.ExtBut s.heap.objs.size s.heap h') : FS c L m H { s with heap := h' } :=
  S.grow (tk := s.toks) fun b o e => he b o (Nat.ne_of_lt (Heap.lt_size e)) e
theorem SC.ext {ex : Addr → Prop} {s : Shared} {h' : Heap} (he : Heap.ExtBut s.heap.objs.size s.heap h') : SC ex H s H { s with heap := h' } :=
  .grow (tk := s.toks) fun b o e => he b o (Nat.ne_of_lt (Heap.lt_size e)) e

theorem EX_unpack2 {x y : Str} {px py tpos pos : Pos} {k : Nat} {value : Expr} (hh : A.handled = none)
    (h : EV c A f value m H (fun v H1 => ∃ t w a b, v = .ref t ∧ H1 t = some ⟨w, true, [a, b]⟩ ∧ N (put (put m x a) y b) H1))
    (hx : f.env.kindOf x = some .local := by with_unfolding_all rfl) (hy : f.env.kindOf y = some .local := by with_unfolding_all rfl) (hk : f.sc.kind = .function := by with_unfolding_all rfl)
    (hs : swapsWithSole [.Tuple [.Name x px, .Name y py] k tpos] value pos.line f.env = pure false := by with_unfolding_all rfl) (hw : swappedStores [.Tuple [.Name x px, .Name y py] k tpos] value f.env = pure none := by with_unfolding_all rfl) :
    EX c A f (exec (.Assign [.Tuple [.Name x px, .Name y py] k tpos] value pos) f.env) m H N R := fun s S => by
  refine Assign_Tuple (h.use S fun _ _ _ s1 r1 S1 T1 q1 => ?_) hs hw
  obtain ⟨t, w, a, b, e1, e, q⟩ := q1
  subst e1; cases r1
  obtain ⟨us, n, ru, hl⟩ := S1.isTup e
  cases ru with | cons ra ru => cases ru with | cons rb ru =>
  cases ru
  refine wpAny_assign_Tuple hh ⟨_, hl, rfl, n, rfl⟩ rfl rfl fun h' he => ?_
  refine aio_cons (assign_Name (SN_store ra (S1.ext he) hx hk fun s2 S2 T2 => aio_cons (assign_Name (SN_store rb S2 hy hk fun s3 S3 T3 => aio_nil ?_))))
  exact ⟨_, _, S3, T1.trans ((SC.ext he).trans (T2.trans T3)), q⟩

theorem EX_unpack3 {x y z : Str} {px py pz tpos pos : Pos} {k : Nat} {value : Expr} (hh : A.handled = none)
    (h : EV c A f value m H (fun v H1 => ∃ t w a b d, v = .ref t ∧ H1 t = some ⟨w, true, [a, b, d]⟩ ∧ N (put (put (put m x a) y b) z d) H1))
    (hx : f.env.kindOf x = some .local := by with_unfolding_all rfl) (hy : f.env.kindOf y = some .local := by with_unfolding_all rfl) (hz : f.env.kindOf z = some .local := by with_unfolding_all rfl) (hk : f.sc.kind = .function := by with_unfolding_all rfl)
    (hs : swapsWithSole [.Tuple [.Name x px, .Name y py, .Name z pz] k tpos] value pos.line f.env = pure false := by with_unfolding_all rfl) (hw : swappedStores [.Tuple [.Name x px, .Name y py, .Name z pz] k tpos] value f.env = pure none := by with_unfolding_all rfl) :
    EX c A f (exec (.Assign [.Tuple [.Name x px, .Name y py, .Name z pz] k tpos] value pos) f.env) m H N R := fun s S => by
  refine Assign_Tuple (h.use S fun _ _ _ s1 r1 S1 T1 q1 => ?_) hs hw
  obtain ⟨t, w, a, b, d, e1, e, q⟩ := q1
  subst e1; cases r1
  obtain ⟨us, n, ru, hl⟩ := S1.isTup e
  cases ru with | cons ra ru => cases ru with | cons rb ru => cases ru with | cons rd ru =>
  cases ru
  refine wpAny_assign_Tuple hh ⟨_, hl, rfl, n, rfl⟩ rfl rfl fun h' he => ?_
  refine aio_cons (assign_Name (SN_store ra (S1.ext he) hx hk fun s2 S2 T2 => aio_cons (assign_Name (SN_store rb S2 hy hk fun s3 S3 T3 => aio_cons (assign_Name (SN_store rd S3 hz hk fun s4 S4 T4 => aio_nil ?_))))))
  exact ⟨_, _, S4, T1.trans ((SC.ext he).trans (T2.trans (T3.trans T4))), q⟩

theorem EX_unpack4 {x y z v : Str} {px py pz pv tpos pos : Pos} {k : Nat} {value : Expr} (hh : A.handled = none)
    (h : EV c A f value m H (fun u H1 => ∃ t w a b d g, u = .ref t ∧ H1 t = some ⟨w, true, [a, b, d, g]⟩ ∧ N (put (put (put (put m x a) y b) z d) v g) H1))
    (hx : f.env.kindOf x = some .local := by with_unfolding_all rfl) (hy : f.env.kindOf y = some .local := by with_unfolding_all rfl) (hz : f.env.kindOf z = some .local := by with_unfolding_all rfl) (hv : f.env.kindOf v = some .local := by with_unfolding_all rfl) (hk : f.sc.kind = .function := by with_unfolding_all rfl)
    (hs : swapsWithSole [.Tuple [.Name x px, .Name y py, .Name z pz, .Name v pv] k tpos] value pos.line f.env = pure false := by with_unfolding_all rfl) (hw : swappedStores [.Tuple [.Name x px, .Name y py, .Name z pz, .Name v pv] k tpos] value f.env = pure none := by with_unfolding_all rfl) :
    EX c A f (exec (.Assign [.Tuple [.Name x px, .Name y py, .Name z pz, .Name v pv] k tpos] value pos) f.env) m H N R := fun s S => by
  refine Assign_Tuple (h.use S fun _ _ _ s1 r1 S1 T1 q1 => ?_) hs hw
  obtain ⟨t, w, a, b, d, g, e1, e, q⟩ := q1
  subst e1; cases r1
  obtain ⟨us, n, ru, hl⟩ := S1.isTup e
  cases ru with | cons ra ru => cases ru with | cons rb ru => cases ru with | cons rd ru => cases ru with | cons rg ru =>
  cases ru
  refine wpAny_assign_Tuple hh ⟨_, hl, rfl, n, rfl⟩ rfl rfl fun h' he => ?_
  refine aio_cons (assign_Name (SN_store ra (S1.ext he) hx hk fun s2 S2 T2 => aio_cons (assign_Name (SN_store rb S2 hy hk fun s3 S3 T3 => aio_cons (assign_Name (SN_store rd S3 hz hk fun s4 S4 T4 => aio_cons (assign_Name (SN_store rg S4 hv hk fun s5 S5 T5 => aio_nil ?_))))))))
  exact ⟨_, _, S5, T1.trans ((SC.ext he).trans (T2.trans (T3.trans (T4.trans T5)))), q⟩

/-- two names, two values written side by side (stored from behind) -/
theorem EX_swap2 {x y : Str} {e1 e2 : Expr} {px py tpos vpos pos : Pos} {k k2 : Nat} (hh : A.handled = none)
    (h : EVl c A f vpos [e1, e2] m H (fun vs H1 => PkTwo (fun a b => N (put (put m y b) x a) H1) vs))
    (hx : f.env.kindOf x = some .local := by with_unfolding_all rfl) (hy : f.env.kindOf y = some .local := by with_unfolding_all rfl) (hk : f.sc.kind = .function := by with_unfolding_all rfl)
    (hs : swapsWithSole [.Tuple [.Name x px, .Name y py] k tpos] (.Tuple [e1, e2] k2 vpos) pos.line f.env = pure false := by with_unfolding_all rfl) (hw : swappedStores [.Tuple [.Name x px, .Name y py] k tpos] (.Tuple [e1, e2] k2 vpos) f.env = pure (some [x, y]) := by with_unfolding_all rfl) :
    EX c A f (exec (.Assign [.Tuple [.Name x px, .Name y py] k tpos] (.Tuple [e1, e2] k2 vpos) pos) f.env) m H N R := fun s S => by
  refine Assign_Tuple_swapped (names := [x, y]) (wpAny_Tuple (SM.use h S fun us vs _ s1 r1 S1 T1 q1 => ?_)) hs hw
  obtain ⟨a, b, e, q⟩ := q1
  subst e
  cases r1 with | cons ra ru => cases ru with | cons rb ru =>
  cases ru
  refine ⟨by show 2 ≤ sizeLine; decide, ?_⟩
  have hkp : ∀ (ob : Obj) b o, s1.heap.get? b = some o → (s1.heap.push ob).get? b = some o := fun _ b o e => Heap.get?_push_of_some _ e
  refine unpackItems_tuple (items := #[_, _]) hh ⟨_, Heap.get?_push_size _ rfl, rfl, 0, rfl⟩ fun h' he => ?_
  refine aio_cons (bindName_ (SN_store rb ((S1.grow (tk := s1.toks) (hkp _)).ext he) hy hk fun s2 S2 T2 => aio_cons (bindName_ (SN_store ra S2 hx hk fun s3 S3 T3 => aio_nil ?_))))
  exact ⟨_, _, S3, T1.trans ((SC.grow (tk := s1.toks) (hkp _)).trans ((SC.ext he).trans (T2.trans T3))), q⟩

theorem EX_swap3 {x y z : Str} {e1 e2 e3 : Expr} {px py pz tpos vpos pos : Pos} {k k2 : Nat} (hh : A.handled = none)
    (h : EVl c A f vpos [e1, e2, e3] m H (fun vs H1 => ∃ a b d, vs = [a, b, d] ∧ N (put (put (put m z d) y b) x a) H1))
    (hx : f.env.kindOf x = some .local := by with_unfolding_all rfl) (hy : f.env.kindOf y = some .local := by with_unfolding_all rfl) (hz : f.env.kindOf z = some .local := by with_unfolding_all rfl) (hk : f.sc.kind = .function := by with_unfolding_all rfl)
    (hs : swapsWithSole [.Tuple [.Name x px, .Name y py, .Name z pz] k tpos] (.Tuple [e1, e2, e3] k2 vpos) pos.line f.env = pure false := by with_unfolding_all rfl) (hw : swappedStores [.Tuple [.Name x px, .Name y py, .Name z pz] k tpos] (.Tuple [e1, e2, e3] k2 vpos) f.env = pure (some [x, y, z]) := by with_unfolding_all rfl) :
    EX c A f (exec (.Assign [.Tuple [.Name x px, .Name y py, .Name z pz] k tpos] (.Tuple [e1, e2, e3] k2 vpos) pos) f.env) m H N R := fun s S => by
  refine Assign_Tuple_swapped (names := [x, y, z]) (wpAny_Tuple (SM.use h S fun us vs _ s1 r1 S1 T1 q1 => ?_)) hs hw
  obtain ⟨a, b, d, e, q⟩ := q1
  subst e
  cases r1 with | cons ra ru => cases ru with | cons rb ru => cases ru with | cons rd ru =>
  cases ru
  refine ⟨by show 3 ≤ sizeLine; decide, ?_⟩
  have hkp : ∀ (ob : Obj) b o, s1.heap.get? b = some o → (s1.heap.push ob).get? b = some o := fun _ b o e => Heap.get?_push_of_some _ e
  refine unpackItems_tuple (items := #[_, _, _]) hh ⟨_, Heap.get?_push_size _ rfl, rfl, 0, rfl⟩ fun h' he => ?_
  refine aio_cons (bindName_ (SN_store rd ((S1.grow (tk := s1.toks) (hkp _)).ext he) hz hk fun s2 S2 T2 => aio_cons (bindName_ (SN_store rb S2 hy hk fun s3 S3 T3 => aio_cons (bindName_ (SN_store ra S3 hx hk fun s4 S4 T4 => aio_nil ?_))))))
  exact ⟨_, _, S4, T1.trans ((SC.grow (tk := s1.toks) (hkp _)).trans ((SC.ext he).trans (T2.trans (T3.trans T4)))), q⟩

/-- a call whose answer is dropped (it answers None) -/
theorem EX_expr {e : Expr} {p : Pos} (h : EV c A f e m H (fun v H1 => v = .none ∧ N m H1)) (hi : interactive f.env = false := by with_unfolding_all rfl) (hs : swapsWith e none p.line f.env = pure false := by with_unfolding_all rfl) :
    EX c A f (exec (.Expr e p) f.env) m H N R := fun s S => by
  refine wpAny_Expr (h.use S fun _ _ _ s1 r1 S1 T1 q1 => ?_) hi hs
  obtain ⟨e, q⟩ := q1
  subst e; cases r1
  exact ⟨m, _, S1, T1, q⟩
end
end Mine
namespace Mine
open PySem PySem.W PySem.Calls PyProof.Rows
local macro_rules | `(tactic| walk_at "om") => `(tactic| first
  | with_reducible assumption
  | decide
  | with_reducible exact Nat.le_refl _
  | exact Nat.lt_of_lt_of_le (by with_reducible assumption) (by decide)
  | lia
  | omega)

section
variable {c : Cx} {A : Around} {f : Fm} {m : List (Str × V)} {H : Hp} {N : List (Str × V) → Hp → Prop} {R : V → Hp → Prop} {Q : V → Hp → Prop}

theorem boot_enumerate : bootBuiltins "enumerate" = some (.type "enumerate") := by decide +kernel

/-- for i, x in enumerate(a) -/
theorem EX_forenum {xi xv : Str} {pi pv pt np rpos pos : Pos} {k : Nat} {e : Expr} {body : List Stmt} (O : c.Ok) (hh : A.handled = none) (hg : nsIn c.K mainGlobals (Str.ofString "enumerate") = some none)
    (h : EVl c A f rpos [e] m H (fun vs H1 => ∃ (a : Addr) (xs : List V) (J : Nat → List (Str × V) → Hp → Prop), vs = [.ref a] ∧ H1 a = some ⟨false, false, xs⟩ ∧ J 0 m H1 ∧
      (∀ i m H v, xs[i]? = some v → J i m H → EX c A f (execs body f.env) (put (put m xi (.int i)) xv v) H (fun m' H' => J (i + 1) m' H') R) ∧ (∀ m H, J xs.length m H → N m H)))
    (hxi : f.env.kindOf xi = some .local := by with_unfolding_all rfl) (hxv : f.env.kindOf xv = some .local := by with_unfolding_all rfl) (hk : f.sc.kind = .function := by with_unfolding_all rfl) (hr : f.env.kindOf (Str.ofString "enumerate") = some .globalImplicit := by with_unfolding_all rfl)
    (he : starEach [e] f.env = [(false, eval e f.env)] := by with_unfolding_all rfl) (hs : ∀ x, foldedSetIterable (.Call (.Name (Str.ofString "enumerate") np) [e] [] rpos) f.env x = pure x := by intro _; with_unfolding_all rfl) :
    EX c A f (exec (.For (.Tuple [.Name xi pi, .Name xv pv] k pt) (.Call (.Name (Str.ofString "enumerate") np) [e] [] rpos) body [] pos) f.env) m H N R := fun s S => by
  refine wpAny_For (raw_typ O S hg boot_enumerate h (fun us vs H1 s1 r1 S1 T1 q1 => ?_) (by decide) hk hr (by decide) he rfl) hs
  obtain ⟨a, xs, J, e, ha, j0, turn, hN⟩ := q1
  subst e
  cases r1 with | cons r1 r2 =>
  cases r1; cases r2
  obtain ⟨us, n, ru, hl⟩ := S1.isList ha
  refine call_enumerate_1 hl fun h2 hen hit hsz hk2 => ?_
  refine wpAny_pyIter_enum (i := 0) (old := .none) (it := s1.heap.objs.size) hen ?_
  have hlt : a < s1.heap.objs.size := Heap.lt_size hl
  have hz : us.toArray.size = xs.length := by rw [List.size_toArray]; exact ru.length
  have W := WalksT.enumerate (prog := c.prog) (w := c.w) hh (s1.heap.objs.size + 1) s1.heap.objs.size a (Nat.succ_ne_self _) (Nat.ne_of_lt (Nat.lt_succ_of_lt hlt)) (Nat.ne_of_lt hlt) us.toArray
  have hL : f.L < s1.heap.objs.size := by
    obtain ⟨mm, ⟨o, es, ep, h, r⟩, _⟩ := S1.ns
    exact Heap.lt_size h
  have hLw : f.L ∉ [s1.heap.objs.size + 1, s1.heap.objs.size] := by
    simp
    exact ⟨Nat.ne_of_lt (Nat.lt_succ_of_lt hL), Nat.ne_of_lt hL⟩
  have hLa : f.L ≠ a := fun q => by have := S1.hL; rw [q, ha] at this; cases this
  have none1 : ∀ b, b = s1.heap.objs.size + 1 ∨ b = s1.heap.objs.size → s1.heap.get? b = none := fun b hb => by
    cases e : s1.heap.get? b with
    | none => rfl
    | some o =>
      have := Heap.lt_size e
      rcases hb with rfl | rfl
      · exact absurd (Nat.lt_of_succ_lt this) (Nat.lt_irrefl _)
      · exact absurd this (Nat.lt_irrefl _)
  have none0 : ∀ b, b = s1.heap.objs.size + 1 ∨ b = s1.heap.objs.size → s.heap.get? b = none := fun b hb => by
    cases e : s.heap.get? b with
    | none => rfl
    | some o => obtain ⟨o1, e1⟩ := T1.alive _ _ e; rw [none1 b hb] at e1; cases e1
  refine codeAny_forLoop_any (fun k s' => ∃ i m' H', i ≤ xs.length ∧ k = xs.length - i ∧ FS c f.L m' H' s' ∧ SC (· = f.L) H s H' s' ∧ ((∃ old, IsEnum s'.heap (s1.heap.objs.size + 1) s1.heap.objs.size i old) ∧ s'.heap.IsListIter s1.heap.objs.size a i ∧ s'.heap.IsList a us.toArray) ∧
      (∀ q, H' a = some q → q.w = false) ∧ (H' (s1.heap.objs.size + 1) = none ∧ H' s1.heap.objs.size = none) ∧ J i m' H') ?_ xs.length
    ⟨0, m, H1, Nat.zero_le _, by walk_at "om", S1.grow (tk := s1.toks) hk2, T1.trans (.grow (tk := s1.toks) hk2), ⟨⟨_, hen⟩, hit, ⟨_, hk2 _ _ hl, rfl, n, rfl⟩⟩, (fun q e => by rw [ha] at e; cases e; rfl), ⟨S1.fresh (none1 _ (.inl rfl)), S1.fresh (none1 _ (.inr rfl))⟩, j0⟩
  rintro k s' ⟨i, m', H', hi, rfl, S', T', st, nw, ⟨w1, w2⟩, j⟩
  have hw' : ∀ b ∈ [s1.heap.objs.size + 1, s1.heap.objs.size], H' b = none ∧ c.hs.get? b = none := fun b hb => by
    simp at hb
    rcases hb with rfl | rfl
    · exact ⟨w1, S1.freshS (none1 _ (.inl rfl))⟩
    · exact ⟨w2, S1.freshS (none1 _ (.inr rfl))⟩
  have hw0 : ∀ b ∈ [s1.heap.objs.size + 1, s1.heap.objs.size], s.heap.get? b = none := fun b hb => none0 b (by simpa using hb)
  refine wpAny_mono (?_ : wpAny _ _ _ _ (fun _ _ => False) _) (fun _ _ x => x) (fun _ _ x => x.elim)
  by_cases hlt2 : i < xs.length
  · refine W.item i s' _ _ (by walk_at "om") st fun T vals h1 tk hv hT hTup mid hk1 => ?_
    obtain ⟨t, x, hx, rfl⟩ := hv
    have S2 : FS c f.L m' H' { s' with heap := h1, toks := tk } := S'.walked hLw hw' hk1
    have T2 : SC (· = f.L) H s H' { s' with heap := h1, toks := tk } := T'.walked hw0 hk1
    refine wpAny_mono (?_ : wpAny _ _ _ _ (fun _ _ => False) _) (fun _ _ x => x) (fun _ _ x => x.elim)
    refine W.go _ _ _ i T { s' with heap := h1, toks := tk } _ _ mid fun h3 st3 hk3 => ?_
    have S3 : FS c f.L m' H' { s' with heap := h3, toks := tk } := S2.walked (tk := tk) hLw hw' hk3
    have T3 : SC (· = f.L) H s H' { s' with heap := h3, toks := tk } := T2.walked (tk := tk) hw0 hk3
    have hTup3 : h3.IsTuple T #[.int i t, x] := by
      obtain ⟨o, e, r⟩ := hTup
      exact ⟨o, hk3 T o (W.apart i T h1 mid) e, r⟩
    refine wpAny_mono (?_ : wpAny _ _ _ _ (fun _ _ => False) _) (fun _ _ x => x) (fun _ _ x => x.elim)
    obtain ⟨v, hvx, rv⟩ : ∃ v, xs[i]? = some v ∧ VR v x := by
      obtain ⟨u, h1, h2⟩ := ru.get (List.getElem?_eq_getElem hlt2)
      have : us[i]? = some x := by simpa using hx
      rw [this] at h1; cases h1
      exact ⟨_, List.getElem?_eq_getElem hlt2, h2⟩
    refine wpAny_assign_Tuple hh hTup3 rfl rfl fun h4 he4 => ?_
    have S4 : FS c f.L m' H' { s' with heap := h4, toks := tk } := S3.ext he4
    have T4 : SC (· = f.L) H s H' { s' with heap := h4, toks := tk } := T3.trans (SC.ext (s := { s' with heap := h3, toks := tk }) he4)
    have st4 := W.frame _ _ _ st3 (fun b _ o e => he4 b o (Nat.ne_of_lt (Heap.lt_size e)) e)
    refine aio_cons (assign_Name (SN_store (v := .int i) .int S4 hxi hk fun s5 S5 T5 => aio_cons (assign_Name (SN_store rv S5 hxv hk fun s6 S6 T6 => aio_nil ?_))))
    have fp : ∀ b ∈ [s1.heap.objs.size + 1, s1.heap.objs.size, a], b ≠ f.L ∧ ∀ q, H' b = some q → q.w = false := fun b hb => by
      simp at hb
      rcases hb with rfl | rfl | rfl
      · exact ⟨fun q => hLw (by simp [q]), fun q e => by rw [w1] at e; cases e⟩
      · exact ⟨fun q => hLw (by simp [q]), fun q e => by rw [w2] at e; cases e⟩
      · exact ⟨fun q => hLa q.symm, nw⟩
    have st6 := W.frame _ _ _ st4 (fun b hb o e => T6.keep b o (fp b hb).1 (fp b hb).2 (T5.keep b o (fp b hb).1 (fp b hb).2 e))
    refine wpAny_mono ((turn i m' H' v hvx j).use S6 (Q0 := fun fl s₃ => match fl with
            | .next | .cont => ∃ k, k < xs.length - i ∧ ∃ i m' H', i ≤ xs.length ∧ k = xs.length - i ∧ FS c f.L m' H' s₃ ∧ SC (· = f.L) H s H' s₃ ∧ ((∃ old, IsEnum s₃.heap (s1.heap.objs.size + 1) s1.heap.objs.size i old) ∧ s₃.heap.IsListIter s1.heap.objs.size a i ∧ s₃.heap.IsList a us.toArray) ∧
      (∀ q, H' a = some q → q.w = false) ∧ (H' (s1.heap.objs.size + 1) = none ∧ H' s1.heap.objs.size = none) ∧ J i m' H'
            | .brk => False
            | .ret v => ∃ v' m' H', VR v' v ∧ FS c f.L m' H' s₃ ∧ SC (· = f.L) H s H' s₃ ∧ R v' H') (fun m3 H3 s3 S7 T7 q3 => ?_) (fun v v' m3 H3 s3 r3 S7 T7 q3 => ⟨v', m3, H3, r3, S7, T4.trans (T5.trans (T6.trans T7)), q3⟩)) (fun fl s4 x => ?_) (fun _ _ x => x.elim)
    · have st7 := W.frame _ _ _ st6 (fun b hb o e => T7.keep b o (fp b hb).1 (fp b hb).2 e)
      have alive6 : ∀ b ∈ [s1.heap.objs.size + 1, s1.heap.objs.size, a], ∃ o, s6.heap.get? b = some o := fun b hb => by
        simp at hb
        rcases hb with rfl | rfl | rfl
        · obtain ⟨⟨old, e⟩, _⟩ := st6; exact ⟨_, e⟩
        · obtain ⟨_, ⟨o, e, _⟩, _⟩ := st6; exact ⟨o, e⟩
        · obtain ⟨_, _, ⟨o, e, _⟩⟩ := st6; exact ⟨o, e⟩
      have none7 : ∀ b ∈ [s1.heap.objs.size + 1, s1.heap.objs.size, a], H' b = none → H3 b = none := fun b hb hn => by
        cases e : H3 b with
        | none => rfl
        | some q =>
          rcases T7.new b q e with x | ⟨q0, e0, _⟩
          · obtain ⟨o, y⟩ := alive6 b hb; rw [x] at y; cases y
          · rw [hn] at e0; cases e0
      refine ⟨xs.length - (i + 1), Nat.sub_lt_sub_left hlt2 (Nat.lt_succ_self i), i + 1, m3, H3, hlt2, rfl, S7, T4.trans (T5.trans (T6.trans T7)), by simpa using st7, fun q e => ?_, ⟨none7 _ (by simp) w1, none7 _ (by simp) w2⟩, q3⟩
      rcases T7.new a q e with x | ⟨q0, e0, w⟩
      · obtain ⟨o, y⟩ := alive6 a (by simp); rw [x] at y; cases y
      · have := nw q0 e0
        cases hw : q.w with
        | false => rfl
        | true => rw [w hw] at this; cases this
    · cases fl <;> first | exact x | exact x.elim
  · have : i = xs.length := by walk_at "om"
    subst this
    refine W.done s' _ _ (by rw [hz]; exact st) fun h1 tk hk1 => wpAny_execs_nil ?_
    exact ⟨m', H', S'.walked hLw hw' hk1, T'.walked hw0 hk1, hN _ _ j⟩
end

/-! ## frozen heaps -/
def At (H : Hp) (r : Addr) (t : Bool) (xs : List V) : Prop := ∃ w, H r = some ⟨w, t, xs⟩
def Sub (H H' : Hp) : Prop := ∀ a o, H a = some o → H' a = some o
theorem Sub.refl {H : Hp} : Sub H H := fun _ _ e => e
theorem Sub.trans {H H1 H2 : Hp} (x : Sub H H1) (y : Sub H1 H2) : Sub H H2 := fun a o e => y a o (x a o e)
theorem At.sub {H H' : Hp} {r : Addr} {t : Bool} {xs : List V} (h : At H r t xs) (s : Sub H H') : At H' r t xs := let ⟨w, e⟩ := h; ⟨w, s _ _ e⟩
theorem Sub.set {H : Hp} {a : Addr} {o : HO} (e : H a = none) : Sub H (H.set a o) := fun b q eb => by
  unfold Hp.set
  by_cases h : b = a
  · subst h; rw [e] at eb; cases eb
  · rw [if_neg h]; exact eb
theorem At.set {H : Hp} {a : Addr} {o : HO} : At (H.set a o) a o.tup o.xs := ⟨o.w, by simp [Hp.set]⟩
theorem Hp.set_same {H : Hp} {a : Addr} {o : HO} : H.set a o a = some o := by simp [Hp.set]
theorem Hp.set_ne {H : Hp} {a b : Addr} {o : HO} (h : b ≠ a) : H.set a o b = H b := by simp [Hp.set, h]
theorem Hp.set_set {H : Hp} {a : Addr} {o o' : HO} : (H.set a o).set a o' = H.set a o' := by
  funext b; unfold Hp.set; split <;> rfl

/-- all but W is frozen -/
def frz (W : Addr → Prop) [DecidablePred W] (H : Hp) : Hp := fun a => if W a then H a else (H a).map fun o => { o with w := false }
/-- what stood stands as it did (but W) -/
def rst (W : Addr → Prop) [DecidablePred W] (H H' : Hp) : Hp := fun a => if W a then H' a else match H a with | some o => some o | none => H' a

theorem CALL_frz {c : Cx} {A : Around} {g : Addr} {vs : List V} {H : Hp} {Q : V → Hp → Prop} (W : Addr → Prop) [DecidablePred W] (h : CALL c A g vs (frz W H) (fun v H' => Q v (rst W H H'))) : CALL c A g vs H Q := fun s args S r => by
  have S0 : HS c (frz W H) s := by
    refine ⟨fun a o e => ?_, fun a o e hw => ?_, S.keeps⟩
    · unfold frz at e
      split at e
      · exact S.obj a o e
      · cases q : H a with
        | none => rw [q] at e; cases e
        | some o1 => rw [q] at e; cases e; exact S.obj a o1 q
    · unfold frz at e
      split at e
      · exact S.wr a o e hw
      · cases q : H a with
        | none => rw [q] at e; cases e
        | some o1 => rw [q] at e; cases e; cases hw
  refine codeAny_mono (h s args S0 r) fun rs s' ⟨v, v', H', e, rv, S', T, q⟩ => ⟨v, v', rst W H H', e, rv, ⟨fun a o e => ?_, fun a o e hw => ?_, S'.keeps⟩, ⟨T.same, fun b o hb hq e => T.keep b o hb (fun p hp => ?_) e, T.alive, fun b q e => ?_⟩, q⟩
  · unfold rst at e
    split at e
    · exact S'.obj a o e
    · rename_i hW
      cases q : H a with
      | none => rw [q] at e; exact S'.obj a o e
      | some o1 =>
        rw [q] at e; cases e
        obtain ⟨us, n, ru, hl⟩ := S.obj a _ q
        exact ⟨us, n, ru, T.keep a _ id (fun p hp => by unfold frz at hp; rw [if_neg hW, q] at hp; cases hp; rfl) hl⟩
  · unfold rst at e
    split at e
    · exact S'.wr a o e hw
    · cases q : H a with
      | none => rw [q] at e; exact S'.wr a o e hw
      | some o1 => rw [q] at e; cases e; exact S.wr a _ q hw
  · unfold frz at hp
    split at hp
    · exact hq p hp
    · cases q : H b with
      | none => rw [q] at hp; cases hp
      | some o1 => rw [q] at hp; cases hp; rfl
  · unfold rst at e
    split at e
    · rename_i hW
      rcases T.new b q e with x | ⟨q0, e0, w⟩
      · exact .inl x
      · unfold frz at e0; rw [if_pos hW] at e0; exact .inr ⟨q0, e0, w⟩
    · rename_i hW
      cases z : H b with
      | none =>
        rw [z] at e
        rcases T.new b q e with x | ⟨q0, e0, w⟩
        · exact .inl x
        · unfold frz at e0; rw [if_neg hW, z] at e0; cases e0
      | some o1 => rw [z] at e; cases e; exact .inr ⟨_, rfl, id⟩

/-- a pure call: what stood stands, and P of the answer -/
def PURE (c : Cx) (A : Around) (g : Addr) (vs : List V) (H : Hp) (P : V → Hp → Prop) : Prop := ∀ Q : V → Hp → Prop, (∀ v H', Sub H H' → P v H' → Q v H') → CALL c A g vs H Q

abbrev fr (H : Hp) : Hp := frz (fun _ => False) H
theorem fr_at {H : Hp} {r : Addr} {t : Bool} {xs : List V} (h : At H r t xs) : fr H r = some ⟨false, t, xs⟩ := by
  obtain ⟨w, e⟩ := h; simp [fr, frz, e]
def Up (P : V → Hp → Prop) : Prop := ∀ v H1 H2, (∀ r t xs, At H1 r t xs → At H2 r t xs) → P v H1 → P v H2

theorem PURE_of {c : Cx} {A : Around} {g : Addr} {vs : List V} {H : Hp} {P : V → Hp → Prop} (hP : Up P) (h : CALL c A g vs (fr H) (fun v H' => Sub (fr H) H' ∧ P v H')) : PURE c A g vs H P := fun Q hQ => by
  refine CALL_frz (fun _ => False) fun s args S r => codeAny_mono (h s args S r) fun rs s' ⟨v, v', H', e, rv, S', T, sb, p⟩ => ⟨v, v', H', e, rv, S', T, hQ _ _ (fun a o e => ?_) (hP _ _ _ (fun r t xs ha => ?_) p)⟩
  · simp [rst, e]
  · obtain ⟨w, e⟩ := ha
    cases q : H r with
    | none => exact ⟨w, by simp [rst, q, e]⟩
    | some o =>
      have := sb r ⟨false, o.tup, o.xs⟩ (by simp [fr, frz, q])
      rw [e] at this; cases this
      exact ⟨o.w, by simp [rst, q]⟩
end Mine
namespace Mine
open PySem PySem.W PySem.Calls PyProof.Rows
local macro_rules | `(tactic| walk_at "om") => `(tactic| first
  | with_reducible assumption
  | decide
  | with_reducible exact Nat.le_refl _
  | exact Nat.lt_of_lt_of_le (by with_reducible assumption) (by decide)
  | lia
  | omega)

def iv (xs : List Int) : List V := xs.map V.int
theorem iv_len (xs : List Int) : (iv xs).length = xs.length := by simp [iv]
theorem iv_get {xs : List Int} {i : Nat} {x : Int} (h : xs[i]? = some x) : (iv xs)[i]? = some (.int x) := by simp [iv, h]
theorem iv_get_inv {xs : List Int} {i : Nat} {v : V} (h : (iv xs)[i]? = some v) : ∃ x, xs[i]? = some x ∧ v = .int x := by
  unfold iv at h
  rw [List.getElem?_map] at h
  cases e : xs[i]? with
  | none => rw [e] at h; cases h
  | some x => rw [e] at h; cases h; exact ⟨x, rfl, rfl⟩
theorem iv_app (xs ys : List Int) : iv xs ++ iv ys = iv (xs ++ ys) := by simp [iv]
theorem iv_snoc (xs : List Int) (y : Int) : iv xs ++ [.int y] = iv (xs ++ [y]) := by simp [iv]
theorem iv_take (xs : List Int) (k : Nat) : (iv xs).take k = iv (xs.take k) := by simp [iv, List.map_take]
theorem iv_drop (xs : List Int) (k : Nat) : (iv xs).drop k = iv (xs.drop k) := by simp [iv, List.map_drop]
theorem iv_set (xs : List Int) (k : Nat) (y : Int) : (iv xs).set k (.int y) = iv (xs.set k y) := by simp [iv, List.map_set]
theorem iv_rep (k : Nat) (y : Int) : List.replicate k (V.int y) = iv (List.replicate k y) := by simp [iv]
theorem iv_rev (xs : List Int) : (iv xs).reverse = iv xs.reverse := by simp [iv]
theorem iv_nil : ([] : List V) = iv [] := rfl

inductive PkItem (H : Hp) (Q : Int → Prop) (a b : V) : Prop
  | mk (r : Addr) (w : Bool) (xs : List Int) (k x : Int) (ea : a = .ref r) (eb : b = .int k) (h : H r = some ⟨w, false, iv xs⟩) (p : 0 ≤ k ∧ k < 2 ^ 62) (g : xs[k.toNat]? = some x) (q : Q x) : PkItem H Q a b

section
variable {c : Cx} {A : Around} {f : Fm} {m : List (Str × V)} {H : Hp} {N : List (Str × V) → Hp → Prop} {R : V → Hp → Prop} {Q : V → Hp → Prop}

theorem EV_len {np pos : Pos} {e : Expr} (O : c.Ok) (hg : nsIn c.K mainGlobals (Str.ofString "len") = some none) (hb : bootBuiltins (Str.ofString "len") = some (.builtin "len"))
    (h : EV c A f e m H (fun v H1 => PkLen H1 (fun n => Q (.int n) H1) v))
    (hf : f.sc.kind = .function := by with_unfolding_all rfl) (hx : f.env.kindOf (Str.ofString "len") = some .globalImplicit := by with_unfolding_all rfl)
    (he : starEach [e] f.env = [(false, eval e f.env)] := by with_unfolding_all rfl) : EV c A f (.Call (.Name (Str.ofString "len") np) [e] [] pos) m H Q :=
  EV_blt O hg hb (EVl_cons (h.mono fun _ _ ⟨r, w, xs, e1, e2, hn, q⟩ => EVl_nil fun us ru => by subst e1; exact SM_len e2 hn q ru) he) (by decide) hf hx (by decide) he rfl

theorem EV_item {value slice : Expr} {pos : Pos} (h : EV c A f value m H (fun a H1 => EV c A f slice m H1 (fun b H2 => PkItem H2 (fun x => Q (.int x) H2) a b)))
    (hs : ∀ a k t, subscripted slice false (.ref a) (.int k t) = operate [.ref a, .int k t] (getItem (.ref a) (.int k t)) := by intro _ _ _; with_unfolding_all rfl) : EV c A f (.Subscript value slice pos) m H Q :=
  EV_sub_ (h.mono fun _ _ q1 => q1.mono fun _ _ ⟨r, w, xs, k, x, e1, e2, e, hk, hx, q⟩ => by
    subst e1; subst e2
    exact fun _ _ r1 r2 => SM_item e hk.1 hk.2 (iv_get hx) q r1 r2 (hs _ _))
theorem EV_last {value slice : Expr} {pos : Pos} (h : EV c A f value m H (fun a H1 => EV c A f slice m H1 (fun b H2 => ∃ r w xs x, a = .ref r ∧ b = .int (-1) ∧ H2 r = some ⟨w, false, iv xs⟩ ∧ (1 ≤ xs.length ∧ xs.length ≤ 4096) ∧ xs[xs.length - 1]? = some x ∧ Q (.int x) H2)))
    (hs : ∀ a k t, subscripted slice false (.ref a) (.int k t) = operate [.ref a, .int k t] (getItem (.ref a) (.int k t)) := by intro _ _ _; with_unfolding_all rfl) : EV c A f (.Subscript value slice pos) m H Q :=
  EV_sub_ (h.mono fun _ _ q1 => q1.mono fun _ _ ⟨r, w, xs, x, e1, e2, e, hk, hx, q⟩ => by
    subst e1; subst e2
    exact fun _ _ r1 r2 => SM_last e (by rw [iv_len]; exact hk.2) (by rw [iv_len]; exact hk.1) (by rw [iv_len]; exact iv_get hx) q r1 r2 (hs _ _))
theorem EV_titem {value slice : Expr} {pos : Pos} (h : EV c A f value m H (fun a H1 => EV c A f slice m H1 (fun b H2 => ∃ r w xs, ∃ (k : Nat), ∃ v, a = .ref r ∧ b = .int k ∧ H2 r = some ⟨w, true, xs⟩ ∧ k < 64 ∧ xs[k]? = some v ∧ Q v H2)))
    (hs : ∀ a k t, subscripted slice false (.ref a) (.int k t) = operate [.ref a, .int k t] (getItem (.ref a) (.int k t)) := by intro _ _ _; with_unfolding_all rfl) : EV c A f (.Subscript value slice pos) m H Q :=
  EV_sub_ (h.mono fun _ _ q1 => q1.mono fun _ _ ⟨r, w, xs, k, v, e1, e2, e, hk, hx, q⟩ => by
    subst e1; subst e2
    exact fun _ _ r1 r2 => SM_titem e hk hx q r1 r2 (hs _ _))

section
variable {np pos : Pos} {e1 e2 : Expr}
theorem EV_min (O : c.Ok) (hh : A.handled = none) (hg : nsIn c.K mainGlobals (Str.ofString "min") = some none) (hb : bootBuiltins (Str.ofString "min") = some (.builtin "min"))
    (h : EV c A f e1 m H (fun a H1 => EV c A f e2 m H1 (fun b H2 => Two (fun i j => True) (fun i j => Q (.int (if j < i then j else i)) H2) a b)))
    (hf : f.sc.kind = .function := by with_unfolding_all rfl) (hx : f.env.kindOf (Str.ofString "min") = some .globalImplicit := by with_unfolding_all rfl)
    (he : starEach [e1, e2] f.env = (false, eval e1 f.env) :: starEach [e2] f.env := by with_unfolding_all rfl) (he2 : starEach [e2] f.env = (false, eval e2 f.env) :: starEach [] f.env := by with_unfolding_all rfl)
    (hp : (backTo pos (starEach [e2] f.env)).any (·.1) = false := by with_unfolding_all rfl) : EV c A f (.Call (.Name (Str.ofString "min") np) [e1, e2] [] pos) m H Q :=
  EV_blt O hg hb (EVl_cons (h.mono fun _ _ q1 => EVl_cons (q1.mono fun _ _ ⟨i, j, ea, eb, _, q⟩ => EVl_nil fun us ru => by subst ea; subst eb; exact SM_min hh q ru) he2) he) (by decide) hf hx (by decide) he hp
theorem EV_max (O : c.Ok) (hh : A.handled = none) (hg : nsIn c.K mainGlobals (Str.ofString "max") = some none) (hb : bootBuiltins (Str.ofString "max") = some (.builtin "max"))
    (h : EV c A f e1 m H (fun a H1 => EV c A f e2 m H1 (fun b H2 => Two (fun i j => True) (fun i j => Q (.int (if j > i then j else i)) H2) a b)))
    (hf : f.sc.kind = .function := by with_unfolding_all rfl) (hx : f.env.kindOf (Str.ofString "max") = some .globalImplicit := by with_unfolding_all rfl)
    (he : starEach [e1, e2] f.env = (false, eval e1 f.env) :: starEach [e2] f.env := by with_unfolding_all rfl) (he2 : starEach [e2] f.env = (false, eval e2 f.env) :: starEach [] f.env := by with_unfolding_all rfl)
    (hp : (backTo pos (starEach [e2] f.env)).any (·.1) = false := by with_unfolding_all rfl) : EV c A f (.Call (.Name (Str.ofString "max") np) [e1, e2] [] pos) m H Q :=
  EV_blt O hg hb (EVl_cons (h.mono fun _ _ q1 => EVl_cons (q1.mono fun _ _ ⟨i, j, ea, eb, _, q⟩ => EVl_nil fun us ru => by subst ea; subst eb; exact SM_max hh q ru) he2) he) (by decide) hf hx (by decide) he hp
theorem EV_abs (O : c.Ok) (hg : nsIn c.K mainGlobals (Str.ofString "abs") = some none) (hb : bootBuiltins (Str.ofString "abs") = some (.builtin "abs"))
    (h : EV c A f e1 m H (fun a H1 => ∃ i, a = .int i ∧ Q (.int (if i < 0 then -i else i)) H1))
    (hf : f.sc.kind = .function := by with_unfolding_all rfl) (hx : f.env.kindOf (Str.ofString "abs") = some .globalImplicit := by with_unfolding_all rfl)
    (he : starEach [e1] f.env = [(false, eval e1 f.env)] := by with_unfolding_all rfl) : EV c A f (.Call (.Name (Str.ofString "abs") np) [e1] [] pos) m H Q :=
  EV_blt O hg hb (EVl_cons (h.mono fun _ _ ⟨i, ea, q⟩ => EVl_nil fun us ru => by subst ea; exact SM_abs q ru) he) (by decide) hf hx (by decide) he rfl
end

theorem EX_while2 {test : Expr} {body : List Stmt} {pos : Pos} (I : Nat → List (Str × V) → Hp → Prop) (G : Nat → List (Str × V) → Hp → Bool → Prop) {n0 : Nat} (h0 : I n0 m H)
    (ht : ∀ n m H, I n m H → TV c A f test m H (fun b H1 => G n m H1 b))
    (hb : ∀ n m H, G n m H true → EX c A f (execs body f.env) m H (fun m' H' => ∃ n', n' < n ∧ I n' m' H') R) (ho : ∀ n m H, G n m H false → N m H) :
    EX c A f (exec (.While test body [] pos) f.env) m H N R :=
  EX_while I h0 fun n m H i => (ht n m H i).mono fun b H1 g => ⟨fun e => by subst e; exact hb _ _ _ g, fun e => by subst e; exact ho _ _ _ g⟩
theorem EX_if2 {test : Expr} {body orelse : List Stmt} {pos : Pos} (G : Bool → Hp → Prop) (h : TV c A f test m H (fun b H1 => G b H1))
    (ht : ∀ H1, G true H1 → EX c A f (execs body f.env) m H1 N R) (hf : ∀ H1, G false H1 → EX c A f (execs orelse f.env) m H1 N R) :
    EX c A f (exec (.If test body orelse pos) f.env) m H N R :=
  EX_if (h.mono fun b H1 g => ⟨fun e => by subst e; exact ht _ g, fun e => by subst e; exact hf _ g⟩)
theorem EV_neg {x : Expr} {pos : Pos} (h : EV c A f x m H (fun v H1 => ∃ i, v = .int i ∧ True ∧ Q (.int (-i)) H1)) : EV c A f (.UnaryOp .USub x pos) m H Q := fun s S =>
  wpAny_UnaryOp (h.uses S fun _ _ _ s1 r1 S1 T1 q1 => by
    obtain ⟨i, e, _, q⟩ := q1
    subst e; cases r1
    exact PyProof.Rows.neg_int ⟨_, _, .int, S1.tok, T1.trans .tok, q⟩)

/-! ## forgetting names -/
def Le (b m : List (Str × V)) : Prop := ∀ x v, lkp b x = some v → lkp m x = some v
def LeR : List (Str × V) → List (Str × V) → Prop
  | [], _ => True
  | (x, v) :: r, m => lkp m x = some v ∧ LeR r m
theorem Le.refl {m : List (Str × V)} : Le m m := fun _ _ h => h
theorem Le.of : ∀ {b m : List (Str × V)}, LeR b m → Le b m
  | [], _, _ => fun _ _ h => by cases h
  | (y, u) :: r, m, ⟨h, hr⟩ => fun x v e => by
    unfold lkp at e
    split at e
    · rename_i q; cases e; rw [q]; exact h
    · exact Le.of hr x v e
theorem Le.put {b m : List (Str × V)} (h : Le b m) (x : Str) (v : V) : Le (put b x v) (put m x v) := fun y u e => by
  rw [lkp_put] at e ⊢
  split at e
  · rename_i q; rw [if_pos q]; exact e
  · rename_i q; rw [if_neg q]; exact h y u e
theorem Le.trans {a b m : List (Str × V)} (h : Le a b) (k : Le b m) : Le a m := fun x v e => k x v (h x v e)
theorem Le.trans' {a b m : List (Str × V)} (k : Le b m) (h : LeR a b) : Le a m := (Le.of h).trans k
theorem FS.forget {L : Addr} {b : List (Str × V)} {s : Shared} (S : FS c L m H s) (h : Le b m) : FS c L b H s where
  toHS := S.toHS
  ns := by
    obtain ⟨mm, n, r⟩ := S.ns
    refine ⟨mm, n, fun x => ?_⟩
    cases e : lkp b x with
    | none => exact .none
    | some v => have := r x; rw [h x v e] at this; exact this
  hL := S.hL
  hsL := S.hsL
theorem EX_weak {st : Sem Flow} {b : List (Str × V)} (h : EX c A f st b H N R) (hl : Le b m) : EX c A f st m H N R := fun s S => h s (S.forget hl)
end
end Mine
namespace Mine
open PySem PySem.W
local macro_rules | `(tactic| walk_at "om") => `(tactic| first
  | with_reducible assumption
  | decide
  | with_reducible exact Nat.le_refl _
  | exact Nat.lt_of_lt_of_le (by with_reducible assumption) (by decide)
  | lia
  | omega)

/-! ## limbs -/
def lim (w n : Nat) : List Int := if h : n = 0 ∨ w = 0 then [] else ((n % 2 ^ w : Nat) : Int) :: lim w (n / 2 ^ w)
termination_by n
decreasing_by
  have h1 : 1 < 2 ^ w := Nat.one_lt_two_pow (by walk_at "om")
  exact Nat.div_lt_self (by walk_at "om") h1

def val (B : Int) : List Int → Int
  | [] => 0
  | x :: r => x + B * val B r
def Dg (B : Int) (xs : List Int) : Prop := ∀ x ∈ xs, 0 ≤ x ∧ x < B

theorem Dg.nil {B : Int} : Dg B [] := fun _ h => nomatch h
theorem Dg.cons {B x : Int} {r : List Int} (h : 0 ≤ x ∧ x < B) (hr : Dg B r) : Dg B (x :: r) := fun y hy => by
  rcases List.mem_cons.mp hy with e | e
  · rw [e]; exact h
  · exact hr y e
theorem Dg.head {B x : Int} {r : List Int} (h : Dg B (x :: r)) : 0 ≤ x ∧ x < B := h x List.mem_cons_self
theorem Dg.tail {B x : Int} {r : List Int} (h : Dg B (x :: r)) : Dg B r := fun y hy => h y (List.mem_cons_of_mem _ hy)
theorem Dg.append {B : Int} {xs ys : List Int} (h : Dg B xs) (k : Dg B ys) : Dg B (xs ++ ys) := fun y hy => by
  rcases List.mem_append.mp hy with e | e
  · exact h y e
  · exact k y e
theorem Dg.snoc {B x : Int} {r : List Int} (hr : Dg B r) (h : 0 ≤ x ∧ x < B) : Dg B (r ++ [x]) := hr.append (.cons h .nil)
theorem Dg.take {B : Int} {xs : List Int} (h : Dg B xs) (k : Nat) : Dg B (xs.take k) := fun y hy => h y (List.mem_of_mem_take hy)
theorem Dg.drop {B : Int} {xs : List Int} (h : Dg B xs) (k : Nat) : Dg B (xs.drop k) := fun y hy => h y (List.mem_of_mem_drop hy)
theorem Dg.set {B : Int} {xs : List Int} (h : Dg B xs) {k : Nat} {x : Int} (hx : 0 ≤ x ∧ x < B) : Dg B (xs.set k x) := fun y hy => by
  rcases List.mem_or_eq_of_mem_set hy with e | e
  · exact h y e
  · rw [e]; exact hx
theorem Dg.get {B : Int} {xs : List Int} (h : Dg B xs) {k : Nat} {x : Int} (e : xs[k]? = some x) : 0 ≤ x ∧ x < B := h x (List.mem_of_getElem? e)
theorem Dg.rep {B : Int} (hB : 0 < B) (k : Nat) : Dg B (List.replicate k 0) := fun y hy => by
  have := (List.mem_replicate.mp hy).2; subst this; walk_at "om"

theorem val_nil {B : Int} : val B [] = 0 := rfl
theorem val_cons {B x : Int} {r : List Int} : val B (x :: r) = x + B * val B r := rfl
theorem val_app {B : Int} (xs ys : List Int) : val B (xs ++ ys) = val B xs + B ^ xs.length * val B ys := by
  induction xs with
  | nil => simp [val]
  | cons x r ih =>
    rw [List.cons_append, val_cons, ih, val_cons, List.length_cons, Int.pow_succ]
    grind
theorem val_snoc {B : Int} (xs : List Int) (y : Int) : val B (xs ++ [y]) = val B xs + B ^ xs.length * y := by
  rw [val_app]; simp [val]
theorem val_rep {B : Int} (k : Nat) : val B (List.replicate k 0) = 0 := by
  induction k with
  | zero => rfl
  | succ k ih => rw [List.replicate_succ, val_cons, ih]; simp
theorem val_nonneg {B : Int} (hB : 0 < B) : ∀ {xs : List Int}, Dg B xs → 0 ≤ val B xs
  | [], _ => Int.le_refl _
  | x :: r, h => by
    have := val_nonneg hB h.tail
    have h1 := h.head.1
    have := Int.mul_nonneg (Int.le_of_lt hB) this
    rw [val_cons]; walk_at "om"
theorem val_lt {B : Int} (hB : 0 < B) : ∀ {xs : List Int}, Dg B xs → val B xs < B ^ xs.length
  | [], _ => by simp [val]
  | x :: r, h => by
    have ih := val_lt hB h.tail
    have h1 := h.head.2
    rw [val_cons, List.length_cons, Int.pow_succ]
    have : B * (val B r + 1) ≤ B * B ^ r.length := Int.mul_le_mul_of_nonneg_left ih (Int.le_of_lt hB)
    have e : B ^ r.length * B = B * B ^ r.length := Int.mul_comm _ _
    rw [e]
    have : B * (val B r + 1) = B * val B r + B := by rw [Int.mul_add, Int.mul_one]
    walk_at "om"
theorem val_take_drop {B : Int} (xs : List Int) (k : Nat) (h : k ≤ xs.length) : val B xs = val B (xs.take k) + B ^ k * val B (xs.drop k) := by
  have := val_app (B := B) (xs.take k) (xs.drop k)
  rw [List.take_append_drop, List.length_take, Nat.min_eq_left h] at this
  exact this
theorem val_take_succ {B : Int} (xs : List Int) (k : Nat) {x : Int} (h : xs[k]? = some x) : val B (xs.take (k + 1)) = val B (xs.take k) + B ^ k * x := by
  have hk : k < xs.length := by
    rcases Nat.lt_or_ge k xs.length with h1 | h1
    · exact h1
    · rw [List.getElem?_eq_none h1] at h; cases h
  have hx : xs[k] = x := by rw [List.getElem?_eq_getElem hk] at h; exact Option.some.inj h
  rw [List.take_succ_eq_append_getElem hk, val_snoc, List.length_take, Nat.min_eq_left (Nat.le_of_lt hk), hx]
theorem val_drop_pred {B : Int} (xs : List Int) (k : Nat) {x : Int} (h : xs[k]? = some x) : val B (xs.drop k) = x + B * val B (xs.drop (k + 1)) := by
  have hk : k < xs.length := by
    rcases Nat.lt_or_ge k xs.length with h1 | h1
    · exact h1
    · rw [List.getElem?_eq_none h1] at h; cases h
  have hx : xs[k] = x := by rw [List.getElem?_eq_getElem hk] at h; exact Option.some.inj h
  rw [List.drop_eq_getElem_cons hk, val_cons, hx]

theorem lim_zero {w : Nat} : lim w 0 = [] := by unfold lim; simp
theorem lim_pos {w n : Nat} (hw : 0 < w) (hn : 0 < n) : lim w n = ((n % 2 ^ w : Nat) : Int) :: lim w (n / 2 ^ w) := by
  rw [lim]; rw [dif_neg (by walk_at "om")]

theorem pow_cast (w : Nat) : (2 : Int) ^ w = ((2 ^ w : Nat) : Int) := by simp
theorem B_pos (w : Nat) : (0 : Int) < 2 ^ w := by rw [pow_cast]; exact Int.ofNat_lt.mpr (Nat.two_pow_pos w)

theorem lim_dg {w : Nat} (hw : 0 < w) (n : Nat) : Dg (2 ^ w) (lim w n) := by
  induction n using Nat.strongRecOn with
  | ind n ih =>
    by_cases hn : n = 0
    · subst hn; rw [lim_zero]; exact .nil
    · rw [lim_pos hw (by walk_at "om")]
      refine .cons ⟨Int.natCast_nonneg _, ?_⟩ (ih _ (Nat.div_lt_self (by walk_at "om") (Nat.one_lt_two_pow (by walk_at "om"))))
      rw [pow_cast]
      exact Int.ofNat_lt.mpr (Nat.mod_lt _ (Nat.two_pow_pos w))
theorem lim_val {w : Nat} (hw : 0 < w) (n : Nat) : val (2 ^ w) (lim w n) = n := by
  induction n using Nat.strongRecOn with
  | ind n ih =>
    by_cases hn : n = 0
    · subst hn; rw [lim_zero]; rfl
    · rw [lim_pos hw (by walk_at "om"), val_cons, ih _ (Nat.div_lt_self (by walk_at "om") (Nat.one_lt_two_pow (by walk_at "om"))), pow_cast]
      have := Nat.mod_add_div n (2 ^ w)
      rw [← Int.natCast_mul, ← Int.natCast_add, this]
/-- a row of limbs whose value is large enough for its length is the row of its value -/
theorem lim_of {w : Nat} (hw : 0 < w) : ∀ {xs : List Int}, Dg (2 ^ w) xs → (xs = [] ∨ (2 ^ w : Int) ^ (xs.length - 1) ≤ val (2 ^ w) xs) → xs = lim w (val (2 ^ w) xs).toNat
  | [], _, _ => by simp [val, lim_zero]
  | x :: r, h, hv => by
    have hx := h.head
    have hr := val_nonneg (B_pos w) h.tail
    have hB := B_pos w
    have hv' : (2 ^ w : Int) ^ r.length ≤ val (2 ^ w) (x :: r) := by
      rcases hv with e | e
      · cases e
      · simpa using e
    have hp : (0 : Int) < (2 ^ w : Int) ^ r.length := Int.pow_pos hB
    have hpos : 0 < (val (2 ^ w) (x :: r)).toNat := by walk_at "om"
    obtain ⟨k, hk⟩ := Int.eq_ofNat_of_zero_le hr
    obtain ⟨y, hy⟩ := Int.eq_ofNat_of_zero_le hx.1
    have hyB : y < 2 ^ w := by
      have := hx.2; rw [hy, pow_cast] at this; exact Int.ofNat_lt.mp this
    have hn : (val (2 ^ w) (x :: r)).toNat = y + 2 ^ w * k := by
      rw [val_cons, hk, hy, pow_cast]
      have : ((y : Int) + ((2 ^ w : Nat) : Int) * (k : Int)) = ((y + 2 ^ w * k : Nat) : Int) := by simp
      show ((y : Int) + ((2 ^ w : Nat) : Int) * (k : Int)).toNat = _
      rw [this]; exact Int.toNat_natCast _
    have e1 : (y + 2 ^ w * k) % 2 ^ w = y := by rw [Nat.add_mul_mod_self_left]; exact Nat.mod_eq_of_lt hyB
    have e2 : (y + 2 ^ w * k) / 2 ^ w = k := by
      rw [Nat.add_mul_div_left _ _ (Nat.two_pow_pos w), Nat.div_eq_of_lt hyB]; simp
    rw [lim_pos hw hpos, hn, e1, e2]
    have ih := lim_of hw (xs := r) h.tail (by
      cases r with
      | nil => exact .inl rfl
      | cons z r' =>
        right
        have : (2 ^ w : Int) ^ (r'.length + 1) ≤ val (2 ^ w) (x :: z :: r') := hv'
        rw [val_cons, Int.pow_succ] at this
        have hx2 := hx.2
        simp only [List.length_cons, Nat.add_sub_cancel]
        generalize val (2 ^ w) (z :: r') = v at *
        generalize (2 ^ w : Int) ^ r'.length = p at *
        generalize (2 : Int) ^ w = B at *
        have h3 : p * B < B * (v + 1) := by rw [Int.mul_add, Int.mul_one]; walk_at "om"
        have h4 : B * p < B * (v + 1) := by rw [Int.mul_comm B p]; exact h3
        have := Int.lt_of_mul_lt_mul_left h4 (Int.le_of_lt hB)
        omega)
    rw [hk] at ih
    rw [ih, hy]
    simp
theorem lim_big {w : Nat} (hw : 0 < w) {n : Nat} (hn : 0 < n) : (2 ^ w : Int) ^ ((lim w n).length - 1) ≤ n := by
  induction n using Nat.strongRecOn with
  | ind n ih =>
    rw [lim_pos hw hn]
    simp only [List.length_cons, Nat.add_sub_cancel]
    by_cases hq : n / 2 ^ w = 0
    · rw [hq, lim_zero]; simp; walk_at "om"
    · have := ih (n / 2 ^ w) (Nat.div_lt_self (by walk_at "om") (Nat.one_lt_two_pow (by walk_at "om"))) (Nat.pos_of_ne_zero hq)
      have hl : 0 < (lim w (n / 2 ^ w)).length := by rw [lim_pos hw (Nat.pos_of_ne_zero hq)]; simp
      have e : (lim w (n / 2 ^ w)).length = (lim w (n / 2 ^ w)).length - 1 + 1 := by walk_at "om"
      rw [e, Int.pow_succ]
      have h1 := Int.mul_le_mul_of_nonneg_right this (Int.le_of_lt (B_pos w))
      have h2 : (((n / 2 ^ w : Nat) : Int) * 2 ^ w) ≤ n := by
        rw [pow_cast, ← Int.natCast_mul]
        exact Int.ofNat_le.mpr (Nat.div_mul_le_self n (2 ^ w))
      walk_at "om"
theorem lim_nil_iff {w n : Nat} (hw : 0 < w) : lim w n = [] ↔ n = 0 := by
  constructor
  · intro h
    have := lim_val hw n
    rw [h] at this
    simp [val] at this; walk_at "om"
  · intro h; subst h; exact lim_zero
theorem lim_lt {w : Nat} (hw : 0 < w) (n : Nat) : (n : Int) < (2 ^ w : Int) ^ (lim w n).length := by
  have := val_lt (B_pos w) (lim_dg hw n)
  rw [lim_val hw] at this; exact this
/-- the length of a number below 2^k -/
theorem lim_len_le {w : Nat} (hw : 0 < w) {n k : Nat} (h : n < 2 ^ (w * k)) : (lim w n).length ≤ k := by
  by_cases hn : n = 0
  · subst hn; rw [lim_zero]; simp
  · have h1 := lim_big hw (n := n) (by walk_at "om")
    rcases Nat.lt_or_ge k (lim w n).length with hlt | hge
    · have h2 : (2 ^ w : Int) ^ k ≤ (2 ^ w : Int) ^ ((lim w n).length - 1) := by
        rw [pow_cast, ← Int.natCast_pow, ← Int.natCast_pow]
        exact Int.ofNat_le.mpr (Nat.pow_le_pow_right (Nat.two_pow_pos w) (by walk_at "om"))
      have h3 : ((2 ^ (w * k) : Nat) : Int) = (2 ^ w : Int) ^ k := by rw [pow_cast, ← Int.natCast_pow, Nat.pow_mul]
      have h4 : (n : Int) < ((2 ^ (w * k) : Nat) : Int) := Int.ofNat_lt.mpr h
      walk_at "om"
    · exact hge
end Mine
namespace Mine
open PySem PySem.W PyProof.Rows
local macro_rules | `(tactic| walk_at "om") => `(tactic| first
  | with_reducible assumption
  | decide
  | with_reducible exact Nat.le_refl _
  | exact Nat.lt_of_lt_of_le (by with_reducible assumption) (by decide)
  | lia
  | omega)

theorem snoc_ind {P : List Int → Prop} (h0 : P []) (h : ∀ xs x, P xs → P (xs ++ [x])) (xs : List Int) : P xs := by
  rw [← List.reverse_reverse xs]
  induction xs.reverse with
  | nil => exact h0
  | cons x r ih => rw [List.reverse_cons]; exact h _ _ ih

/-! ## without noughts at the end -/
def trim (xs : List Int) : List Int := (xs.reverse.dropWhile (· == 0)).reverse

theorem trim_snoc (xs : List Int) (x : Int) : trim (xs ++ [x]) = if x = 0 then trim xs else xs ++ [x] := by
  unfold trim
  rw [List.reverse_append]
  simp only [List.reverse_cons, List.reverse_nil, List.nil_append, List.singleton_append, List.dropWhile_cons]
  by_cases h : x = 0
  · simp [h]
  · simp [h]
theorem trim_nil : trim [] = [] := rfl
/-- what the loop of normal finds -/
theorem trim_eq (xs : List Int) : ∀ k : Nat, k ≤ xs.length → (∀ i, k ≤ i → i < xs.length → xs[i]? = some 0) → (k = 0 ∨ ∃ x, xs[k - 1]? = some x ∧ x ≠ 0) → trim xs = xs.take k := by
  induction xs using snoc_ind with
  | h0 => intro k h1 _ _; simp at h1; subst h1; rfl
  | h xs x ih =>
    intro k h1 h2 h3
    rw [trim_snoc]
    simp only [List.length_append, List.length_singleton] at h1 h2
    by_cases hk : k = xs.length + 1
    · subst hk
      rcases h3 with h | ⟨y, h, hy⟩
      · walk_at "om"
      · simp at h; subst h
        rw [if_neg hy, List.take_of_length_le (by simp)]
    · have hx : x = 0 := by
        have := h2 xs.length (by walk_at "om") (by walk_at "om")
        simpa using this
      subst hx
      rw [if_pos rfl]
      have hkl : k ≤ xs.length := by walk_at "om"
      rw [List.take_append_of_le_length hkl]
      refine ih k hkl (fun i h4 h5 => ?_) ?_
      · have := h2 i h4 (by walk_at "om")
        rwa [List.getElem?_append_left h5] at this
      · rcases h3 with h | ⟨y, h, hy⟩
        · exact .inl h
        · by_cases k0 : k = 0
          · exact .inl k0
          · right
            rw [List.getElem?_append_left (by walk_at "om")] at h; exact ⟨y, h, hy⟩
theorem trim_spec {B : Int} (hB : 1 < B) (xs : List Int) (h : Dg B xs) : Dg B (trim xs) ∧ val B (trim xs) = val B xs ∧ (trim xs = [] ∨ B ^ ((trim xs).length - 1) ≤ val B (trim xs)) := by
  induction xs using snoc_ind with
  | h0 => exact ⟨.nil, rfl, .inl rfl⟩
  | h xs x ih =>
    have hx : Dg B xs := fun y hy => h y (List.mem_append_left _ hy)
    have hxx := h x (by simp)
    rw [trim_snoc]
    by_cases e : x = 0
    · subst e
      rw [if_pos rfl, val_snoc]
      obtain ⟨a, b, c⟩ := ih hx
      exact ⟨a, by rw [b]; simp, c⟩
    · rw [if_neg e]
      refine ⟨h, rfl, .inr ?_⟩
      rw [val_snoc]
      simp only [List.length_append, List.length_singleton, Nat.add_sub_cancel]
      have h1 := val_nonneg (by walk_at "om") hx
      have h2 : B ^ xs.length * 1 ≤ B ^ xs.length * x := Int.mul_le_mul_of_nonneg_left (by walk_at "om") (Int.le_of_lt (Int.pow_pos (by walk_at "om")))
      walk_at "om"
theorem trim_lim {w : Nat} (hw : 0 < w) {xs : List Int} (h : Dg (2 ^ w) xs) : trim xs = lim w (val (2 ^ w) xs).toNat := by
  have hB : (1 : Int) < 2 ^ w := by
    rw [pow_cast]; have := Nat.one_lt_two_pow (n := w) (by walk_at "om"); walk_at "om"
  obtain ⟨a, b, c⟩ := trim_spec hB xs h
  rw [← b]; exact lim_of hw a c

/-! ## bits -/
theorem mask_and {w : Nat} {x : Int} (h : 0 ≤ x) : Builtin.bitAnd x ((2 : Int) ^ w - 1) = x % 2 ^ w := by
  obtain ⟨n, rfl⟩ := Int.eq_ofNat_of_zero_le h
  have e : ((2 : Int) ^ w - 1) = ((2 ^ w - 1 : Nat) : Int) := by
    rw [pow_cast]; have := Nat.two_pow_pos w; walk_at "om"
  rw [e, bitAnd_pp (Int.natCast_nonneg _) (Int.natCast_nonneg _)]
  simp only [Int.toNat_natCast, Nat.and_two_pow_sub_one_eq_mod]
  rw [pow_cast, ← Int.natCast_emod]
theorem shift_or {k : Nat} {x y : Int} (hx : 0 ≤ x) (hy : 0 ≤ y) (hlt : y < 2 ^ k) : Builtin.bitOr (x * 2 ^ k) y = x * 2 ^ k + y := by
  obtain ⟨n, rfl⟩ := Int.eq_ofNat_of_zero_le hx
  obtain ⟨m, rfl⟩ := Int.eq_ofNat_of_zero_le hy
  have hm : m < 2 ^ k := by rw [pow_cast] at hlt; exact Int.ofNat_lt.mp hlt
  rw [bitOr_and, pow_cast, ← Int.natCast_mul, bitAnd_pp (Int.natCast_nonneg _) (Int.natCast_nonneg _)]
  simp only [Int.toNat_natCast]
  have : (n * 2 ^ k) &&& m = 0 := by
    apply Nat.eq_of_testBit_eq
    intro i
    rw [Nat.testBit_and, Nat.testBit_mul_two_pow, Nat.zero_testBit]
    by_cases hi : k ≤ i
    · rw [Nat.testBit_lt_two_pow (Nat.lt_of_lt_of_le hm (Nat.pow_le_pow_right (by decide) hi))]
      simp
    · simp [hi]
  rw [this]; simp
end Mine
namespace Mine
open PySem PySem.W
local macro_rules | `(tactic| walk_at "om") => `(tactic| first
  | with_reducible assumption
  | decide
  | with_reducible exact Nat.le_refl _
  | exact Nat.lt_of_lt_of_le (by with_reducible assumption) (by decide)
  | lia
  | omega)

theorem len1 {α : Type} {us : List α} (h : us.length = 1) : ∃ a, us = [a] := by
  match us, h with
  | [a], _ => exact ⟨a, rfl⟩
theorem len2 {α : Type} {us : List α} (h : us.length = 2) : ∃ a b, us = [a, b] := by
  match us, h with
  | [a, b], _ => exact ⟨a, b, rfl⟩
theorem len3 {α : Type} {us : List α} (h : us.length = 3) : ∃ a b c, us = [a, b, c] := by
  match us, h with
  | [a, b, c], _ => exact ⟨a, b, c, rfl⟩
theorem len4 {α : Type} {us : List α} (h : us.length = 4) : ∃ a b c d, us = [a, b, c, d] := by
  match us, h with
  | [a, b, c, d], _ => exact ⟨a, b, c, d, rfl⟩
theorem len5 {α : Type} {us : List α} (h : us.length = 5) : ∃ a b c d e, us = [a, b, c, d, e] := by
  match us, h with
  | [a, b, c, d, e], _ => exact ⟨a, b, c, d, e, rfl⟩
theorem len6 {α : Type} {us : List α} (h : us.length = 6) : ∃ a b c d e f, us = [a, b, c, d, e, f] := by
  match us, h with
  | [a, b, c, d, e, f], _ => exact ⟨a, b, c, d, e, f, rfl⟩
theorem len7 {α : Type} {us : List α} (h : us.length = 7) : ∃ a b c d e f g, us = [a, b, c, d, e, f, g] := by
  match us, h with
  | [a, b, c, d, e, f, g], _ => exact ⟨a, b, c, d, e, f, g, rfl⟩
theorem ne_fresh {H : Hp} {d r : Addr} {o : HO} (h : H d = none) (k : H r = some o) : r ≠ d := fun q => by rw [q, h] at k; cases k
theorem set_old {H : Hp} {d r : Addr} {o o' : HO} (h : H d = none) (k : H r = some o) : H.set d o' r = some o := by
  rw [Hp.set_ne (ne_fresh h k)]; exact k
theorem At.old {H : Hp} {d r : Addr} {t : Bool} {xs : List V} {o' : HO} (h : H d = none) (k : At H r t xs) : At (H.set d o') r t xs := let ⟨w, e⟩ := k; ⟨w, set_old h e⟩

/-- the number n, in limbs of w bits -/
inductive Num (w : Nat) (H : Hp) (v : V) (n : Nat) : Prop
  | mk (r : Addr) (e : v = .ref r) (a : At H r false (iv (lim w n))) : Num w H v n
theorem Num.up {w : Nat} {H1 H2 : Hp} {v : V} {n : Nat} (h : Num w H1 v n) (ha : ∀ r t xs, At H1 r t xs → At H2 r t xs) : Num w H2 v n := let ⟨r, e, a⟩ := h; ⟨r, e, ha _ _ _ a⟩
theorem Num.sub {w : Nat} {H1 H2 : Hp} {v : V} {n : Nat} (h : Num w H1 v n) (s : Sub H1 H2) : Num w H2 v n := h.up fun _ _ _ a => a.sub s

theorem dig_step {B P c : Int} : P * (c % B) + (P * B) * (c / B) = P * c := by
  rw [Int.mul_assoc, ← Int.mul_add, Int.emod_add_mul_ediv]
theorem len64 {w n : Nat} (hw : 0 < w) (h : n < 2 ^ 64) : (lim w n).length ≤ 64 := by
  refine lim_len_le hw (Nat.lt_of_lt_of_le h (Nat.pow_le_pow_right (by decide) ?_))
  have := Nat.mul_le_mul_right 64 hw
  walk_at "om"
theorem B_gt1 {w : Nat} (hw : 0 < w) : (1 : Int) < 2 ^ w := by
  rw [pow_cast]; have := Nat.one_lt_two_pow (n := w) (by walk_at "om"); walk_at "om"
theorem mod_dg {B c : Int} (hB : 0 < B) : 0 ≤ c % B ∧ c % B < B := ⟨Int.emod_nonneg _ (by walk_at "om"), Int.emod_lt_of_pos _ hB⟩
theorem div_nn {B c : Int} (hB : 0 < B) (h : 0 ≤ c) : 0 ≤ c / B := Int.ediv_nonneg h (Int.le_of_lt hB)
theorem div_le_of {B c k : Int} (hB : 0 < B) (h : c < (k + 1) * B) : c / B ≤ k := by
  have : c / B < k + 1 := Int.ediv_lt_of_lt_mul hB h
  walk_at "om"
theorem val_lt' {w : Nat} {xs : List Int} (h : Dg (2 ^ w) xs) : val (2 ^ w) xs < (2 ^ w : Int) ^ xs.length := val_lt (B_pos w) h
theorem pow_mono_int {w a b : Nat} (h : a ≤ b) : (2 ^ w : Int) ^ a ≤ (2 ^ w : Int) ^ b := by
  rw [pow_cast, ← Int.natCast_pow, ← Int.natCast_pow]
  exact Int.ofNat_le.mpr (Nat.pow_le_pow_right (Nat.two_pow_pos w) h)
theorem take_all {xs : List Int} {k : Nat} (h : xs.length ≤ k) : xs.take k = xs := List.take_of_length_le h

theorem getD_get {xs : List Int} {i : Nat} (h : i < xs.length) : xs[i]? = some (xs.getD i 0) := by
  rw [List.getD_eq_getElem?_getD, List.getElem?_eq_getElem h]; rfl
theorem getD_out {xs : List Int} {i : Nat} (h : xs.length ≤ i) : xs.getD i 0 = 0 := by
  rw [List.getD_eq_getElem?_getD, List.getElem?_eq_none h]; rfl
theorem getD_dg {B : Int} (hB : 0 < B) {xs : List Int} (h : Dg B xs) (i : Nat) : 0 ≤ xs.getD i 0 ∧ xs.getD i 0 < B := by
  rcases Nat.lt_or_ge i xs.length with h1 | h1
  · exact h.get (getD_get h1)
  · rw [getD_out h1]; walk_at "om"
theorem val_take_getD {B : Int} (xs : List Int) (i : Nat) : val B (xs.take (i + 1)) = val B (xs.take i) + B ^ i * xs.getD i 0 := by
  rcases Nat.lt_or_ge i xs.length with h1 | h1
  · exact val_take_succ xs i (getD_get h1)
  · rw [getD_out h1, take_all h1, take_all (by walk_at "om")]; simp
theorem lim_len_mono {w a b : Nat} (hw : 0 < w) (h : a ≤ b) : (lim w a).length ≤ (lim w b).length := by
  rcases Nat.lt_or_ge (lim w b).length (lim w a).length with h1 | h1
  · by_cases hb : a = 0
    · subst hb; rw [lim_zero] at h1; simp at h1
    · have h2 := lim_lt hw b
      have h3 := lim_big hw (n := a) (by walk_at "om")
      have h4 := pow_mono_int (w := w) (a := (lim w b).length) (b := (lim w a).length - 1) (by walk_at "om")
      walk_at "om"
  · exact h1

section
open PySem.Calls PyProof.Rows
variable {c : Cx} {A : Around} {f : Fm} {m : List (Str × V)} {H : Hp} {N : List (Str × V) → Hp → Prop} {R : V → Hp → Prop} {Q : V → Hp → Prop} {l r : Expr} {pos : Pos}
theorem EX_mid (J : List (Str × V) → Hp → Prop) {st : Sem Flow} (h : EX c A f st m H J R) (k : ∀ m1 H1, J m1 H1 → N m1 H1) : EX c A f st m H N R := h.mono k fun _ _ x => x
theorem EV_post {e : Expr} (P : V → Hp → Prop) (h : EV c A f e m H P) (k : ∀ v H', P v H' → Q v H') : EV c A f e m H Q := h.mono k
theorem EV_mask (h : EV c A f l m H (fun a H1 => EV c A f r m H1 (fun b H2 => ∃ i, ∃ (k : Nat), a = .int i ∧ b = .int (2 ^ k - 1) ∧ 0 ≤ i ∧ Q (.int (i % 2 ^ k)) H2))) : EV c A f (.BinOp l .BitAnd r pos) m H Q :=
  EV_and (h.mono fun _ _ q => q.mono fun _ _ ⟨i, k, ea, eb, p, q⟩ => ⟨i, _, ea, eb, trivial, by rw [mask_and p]; exact q⟩)
theorem EV_bor (h : EV c A f l m H (fun a H1 => EV c A f r m H1 (fun b H2 => ∃ i j s, a = .int i ∧ b = .int j ∧ Builtin.bitOr i j = s ∧ Q (.int s) H2))) : EV c A f (.BinOp l .BitOr r pos) m H Q :=
  EV_or (h.mono fun _ _ q => q.mono fun _ _ ⟨i, j, s, ea, eb, p, q⟩ => ⟨i, j, ea, eb, trivial, by rw [p]; exact q⟩)
theorem EX_ibor {x : Str} {value : Expr} {pos' pos : Pos} {i : Int} (hv : lkp m x = some (.int i)) (h : EV c A f value m H (fun b H1 => ∃ j s, b = .int j ∧ Builtin.bitOr i j = s ∧ N (put m x (.int s)) H1)) (hx : f.env.kindOf x = some .local := by with_unfolding_all rfl) (hk : f.sc.kind = .function := by with_unfolding_all rfl) :
    EX c A f (exec (.AugAssign (.Name x pos') .BitOr value pos) f.env) m H N R := EX_ior hv (h.mono fun _ _ ⟨j, s, e, p, q⟩ => ⟨j, e, trivial, by rw [p]; exact q⟩) hx hk
end
end Mine
namespace Mine
open PySem PySem.W PySem.Calls PyProof.Rows
local macro_rules | `(tactic| walk_at "om") => `(tactic| first
  | with_reducible assumption
  | decide
  | with_reducible exact Nat.le_refl _
  | exact Nat.lt_of_lt_of_le (by with_reducible assumption) (by decide)
  | lia
  | omega)

structure Ev where
  prog : Program
  w : World
  p : Program
  loose : List Str
  mg : Str → Option Value
  mb : Str → Option Value
  hs : Heap
noncomputable abbrev Ev.c (e : Ev) : Cx := ⟨e.prog, e.w, Kf e.w.params, e.p, e.loose, e.mg, e.mb, e.hs⟩

theorem boot_len : bootBuiltins "len" = some (.builtin "len") := by decide +kernel
theorem boot_min : bootBuiltins "min" = some (.builtin "min") := by decide +kernel
theorem boot_max : bootBuiltins "max" = some (.builtin "max") := by decide +kernel
theorem boot_abs : bootBuiltins "abs" = some (.builtin "abs") := by decide +kernel
theorem boot_int : bootBuiltins "int" = some (.type "int") := by decide +kernel

theorem Rm.deeper {A : Around} {n : Nat} {env : Env} (h : Rm A (n + 1)) : Rm (A.deeper env) n := ⟨h.h, by have := h.d; show A.depth + 1 + n < recursionLimit; walk_at "om"⟩
theorem Rm.hd {A : Around} {n : Nat} {env : Env} (h : Rm A n) : (A.deeper env).handled = none := h.h
theorem Rm.room {A : Around} {n : Nat} (h : Rm A n) : A.depth < recursionLimit := by have := h.d; walk_at "om"
theorem Rm.le {A : Around} {n k : Nat} (h : Rm A n) (hk : k ≤ n) : Rm A k := ⟨h.h, by have := h.d; walk_at "om"⟩

theorem g_len (P : Params) : nsIn (Kf P) mainGlobals (Str.ofString "len") = some none := by rfl
theorem g_range (P : Params) : nsIn (Kf P) mainGlobals (Str.ofString "range") = some none := by rfl
theorem g_enumerate (P : Params) : nsIn (Kf P) mainGlobals (Str.ofString "enumerate") = some none := by rfl
theorem g_min (P : Params) : nsIn (Kf P) mainGlobals (Str.ofString "min") = some none := by rfl
theorem g_max (P : Params) : nsIn (Kf P) mainGlobals (Str.ofString "max") = some none := by rfl
theorem g_abs (P : Params) : nsIn (Kf P) mainGlobals (Str.ofString "abs") = some none := by rfl

theorem g_normal (P : Params) : nsIn (Kf P) mainGlobals (Str.ofString "normal") = some (some (.ref 58)) := by rfl
theorem k_normal (P : Params) : keepIn (Kf P) (.ref 58) = true := by rfl
theorem g_compare (P : Params) : nsIn (Kf P) mainGlobals (Str.ofString "compare") = some (some (.ref 65)) := by rfl
theorem k_compare (P : Params) : keepIn (Kf P) (.ref 65) = true := by rfl
theorem g_add (P : Params) : nsIn (Kf P) mainGlobals (Str.ofString "add") = some (some (.ref 72)) := by rfl
theorem k_add (P : Params) : keepIn (Kf P) (.ref 72) = true := by rfl
theorem g_sub (P : Params) : nsIn (Kf P) mainGlobals (Str.ofString "sub") = some (some (.ref 79)) := by rfl
theorem k_sub (P : Params) : keepIn (Kf P) (.ref 79) = true := by rfl
theorem g_divrem_limb (P : Params) : nsIn (Kf P) mainGlobals (Str.ofString "divrem_limb") = some (some (.ref 86)) := by rfl
theorem k_divrem_limb (P : Params) : keepIn (Kf P) (.ref 86) = true := by rfl
theorem g_shift_left (P : Params) : nsIn (Kf P) mainGlobals (Str.ofString "shift_left") = some (some (.ref 93)) := by rfl
theorem k_shift_left (P : Params) : keepIn (Kf P) (.ref 93) = true := by rfl
theorem g_shift_right (P : Params) : nsIn (Kf P) mainGlobals (Str.ofString "shift_right") = some (some (.ref 100)) := by rfl
theorem k_shift_right (P : Params) : keepIn (Kf P) (.ref 100) = true := by rfl
theorem g_bits (P : Params) : nsIn (Kf P) mainGlobals (Str.ofString "bits") = some (some (.ref 107)) := by rfl
theorem k_bits (P : Params) : keepIn (Kf P) (.ref 107) = true := by rfl
theorem g_low (P : Params) : nsIn (Kf P) mainGlobals (Str.ofString "low") = some (some (.ref 114)) := by rfl
theorem k_low (P : Params) : keepIn (Kf P) (.ref 114) = true := by rfl
theorem g_matrix_mul (P : Params) : nsIn (Kf P) mainGlobals (Str.ofString "matrix_mul") = some (some (.ref 126)) := by rfl
theorem k_matrix_mul (P : Params) : keepIn (Kf P) (.ref 126) = true := by rfl
theorem g_led_back (P : Params) : nsIn (Kf P) mainGlobals (Str.ofString "led_back") = some (some (.ref 133)) := by rfl
theorem k_led_back (P : Params) : keepIn (Kf P) (.ref 133) = true := by rfl
theorem g_great_step (P : Params) : nsIn (Kf P) mainGlobals (Str.ofString "great_step") = some (some (.ref 140)) := by rfl
theorem k_great_step (P : Params) : keepIn (Kf P) (.ref 140) = true := by rfl
theorem g_one_step (P : Params) : nsIn (Kf P) mainGlobals (Str.ofString "one_step") = some (some (.ref 147)) := by rfl
theorem k_one_step (P : Params) : keepIn (Kf P) (.ref 147) = true := by rfl
theorem g_difference_bits (P : Params) : nsIn (Kf P) mainGlobals (Str.ofString "difference_bits") = some (some (.ref 154)) := by rfl
theorem k_difference_bits (P : Params) : keepIn (Kf P) (.ref 154) = true := by rfl
theorem g_least_bits (P : Params) : nsIn (Kf P) mainGlobals (Str.ofString "least_bits") = some (some (.ref 161)) := by rfl
theorem k_least_bits (P : Params) : keepIn (Kf P) (.ref 161) = true := by rfl
theorem g_most_bits (P : Params) : nsIn (Kf P) mainGlobals (Str.ofString "most_bits") = some (some (.ref 168)) := by rfl
theorem k_most_bits (P : Params) : keepIn (Kf P) (.ref 168) = true := by rfl
theorem g_by_high (P : Params) : nsIn (Kf P) mainGlobals (Str.ofString "by_high") = some (some (.ref 175)) := by rfl
theorem k_by_high (P : Params) : keepIn (Kf P) (.ref 175) = true := by rfl
theorem g_half_gcd (P : Params) : nsIn (Kf P) mainGlobals (Str.ofString "half_gcd") = some (some (.ref 182)) := by rfl
theorem k_half_gcd (P : Params) : keepIn (Kf P) (.ref 182) = true := by rfl
theorem g_mul_school (P : Params) : nsIn (Kf P) mainGlobals (Str.ofString "mul_school") = some (some (.ref 189)) := by rfl
theorem k_mul_school (P : Params) : keepIn (Kf P) (.ref 189) = true := by rfl
theorem g_divrem_small (P : Params) : nsIn (Kf P) mainGlobals (Str.ofString "divrem_small") = some (some (.ref 196)) := by rfl
theorem k_divrem_small (P : Params) : keepIn (Kf P) (.ref 196) = true := by rfl
theorem g_guessed_limb (P : Params) : nsIn (Kf P) mainGlobals (Str.ofString "guessed_limb") = some (some (.ref 203)) := by rfl
theorem k_guessed_limb (P : Params) : keepIn (Kf P) (.ref 203) = true := by rfl
theorem g_take_away (P : Params) : nsIn (Kf P) mainGlobals (Str.ofString "take_away") = some (some (.ref 210)) := by rfl
theorem k_take_away (P : Params) : keepIn (Kf P) (.ref 210) = true := by rfl
theorem g_put_back (P : Params) : nsIn (Kf P) mainGlobals (Str.ofString "put_back") = some (some (.ref 217)) := by rfl
theorem k_put_back (P : Params) : keepIn (Kf P) (.ref 217) = true := by rfl
theorem g_divide_rows (P : Params) : nsIn (Kf P) mainGlobals (Str.ofString "divide_rows") = some (some (.ref 224)) := by rfl
theorem k_divide_rows (P : Params) : keepIn (Kf P) (.ref 224) = true := by rfl
theorem g_divrem_school (P : Params) : nsIn (Kf P) mainGlobals (Str.ofString "divrem_school") = some (some (.ref 231)) := by rfl
theorem k_divrem_school (P : Params) : keepIn (Kf P) (.ref 231) = true := by rfl
theorem g_law_cut (P : Params) : nsIn (Kf P) mainGlobals (Str.ofString "_law_cut") = some (some (.ref 238)) := by rfl
theorem k_law_cut (P : Params) : keepIn (Kf P) (.ref 238) = true := by rfl
theorem g_law_limbs (P : Params) : nsIn (Kf P) mainGlobals (Str.ofString "_law_limbs") = some (some (.ref 245)) := by rfl
theorem k_law_limbs (P : Params) : keepIn (Kf P) (.ref 245) = true := by rfl
theorem g_law_whole (P : Params) : nsIn (Kf P) mainGlobals (Str.ofString "_law_whole") = some (some (.ref 252)) := by rfl
theorem k_law_whole (P : Params) : keepIn (Kf P) (.ref 252) = true := by rfl
theorem g_law_shared (P : Params) : nsIn (Kf P) mainGlobals (Str.ofString "_law_shared") = some (some (.ref 259)) := by rfl
theorem k_law_shared (P : Params) : keepIn (Kf P) (.ref 259) = true := by rfl
theorem g_law_leads_back (P : Params) : nsIn (Kf P) mainGlobals (Str.ofString "_law_leads_back") = some (some (.ref 264)) := by rfl
theorem k_law_leads_back (P : Params) : keepIn (Kf P) (.ref 264) = true := by rfl

section
variable {e : Ev} {A : Around} {f : Fm} {m : List (Str × V)} {H : Hp} {Q : V → Hp → Prop} {np pos : Pos} {x x2 : Expr} {rest : List Expr}
theorem d_normal (O : e.c.Ok) (h : EVl e.c A f pos (x :: rest) m H (fun vs H2 => CALL e.c A 58 vs H2 Q)) (hf : f.sc.kind = .function := by with_unfolding_all rfl) (hx : f.env.kindOf (Str.ofString "normal") = some .globalImplicit := by with_unfolding_all rfl)
    (he : starEach (x :: rest) f.env = (false, eval x f.env) :: starEach rest f.env := by with_unfolding_all rfl) (hplain : (backTo pos (starEach rest f.env)).any (·.1) = false := by with_unfolding_all rfl) :
    EV e.c A f (.Call (.Name (Str.ofString "normal") np) (x :: rest) [] pos) m H Q := EV_def O (g_normal _) (k_normal _) h hf hx (by decide) he hplain
theorem d_compare (O : e.c.Ok) (h : EVl e.c A f pos (x :: rest) m H (fun vs H2 => CALL e.c A 65 vs H2 Q)) (hf : f.sc.kind = .function := by with_unfolding_all rfl) (hx : f.env.kindOf (Str.ofString "compare") = some .globalImplicit := by with_unfolding_all rfl)
    (he : starEach (x :: rest) f.env = (false, eval x f.env) :: starEach rest f.env := by with_unfolding_all rfl) (hplain : (backTo pos (starEach rest f.env)).any (·.1) = false := by with_unfolding_all rfl) :
    EV e.c A f (.Call (.Name (Str.ofString "compare") np) (x :: rest) [] pos) m H Q := EV_def O (g_compare _) (k_compare _) h hf hx (by decide) he hplain
theorem d_add (O : e.c.Ok) (h : EVl e.c A f pos (x :: rest) m H (fun vs H2 => CALL e.c A 72 vs H2 Q)) (hf : f.sc.kind = .function := by with_unfolding_all rfl) (hx : f.env.kindOf (Str.ofString "add") = some .globalImplicit := by with_unfolding_all rfl)
    (he : starEach (x :: rest) f.env = (false, eval x f.env) :: starEach rest f.env := by with_unfolding_all rfl) (hplain : (backTo pos (starEach rest f.env)).any (·.1) = false := by with_unfolding_all rfl) :
    EV e.c A f (.Call (.Name (Str.ofString "add") np) (x :: rest) [] pos) m H Q := EV_def O (g_add _) (k_add _) h hf hx (by decide) he hplain
theorem d_sub (O : e.c.Ok) (h : EVl e.c A f pos (x :: rest) m H (fun vs H2 => CALL e.c A 79 vs H2 Q)) (hf : f.sc.kind = .function := by with_unfolding_all rfl) (hx : f.env.kindOf (Str.ofString "sub") = some .globalImplicit := by with_unfolding_all rfl)
    (he : starEach (x :: rest) f.env = (false, eval x f.env) :: starEach rest f.env := by with_unfolding_all rfl) (hplain : (backTo pos (starEach rest f.env)).any (·.1) = false := by with_unfolding_all rfl) :
    EV e.c A f (.Call (.Name (Str.ofString "sub") np) (x :: rest) [] pos) m H Q := EV_def O (g_sub _) (k_sub _) h hf hx (by decide) he hplain
theorem d_divrem_limb (O : e.c.Ok) (h : EVl e.c A f pos (x :: rest) m H (fun vs H2 => CALL e.c A 86 vs H2 Q)) (hf : f.sc.kind = .function := by with_unfolding_all rfl) (hx : f.env.kindOf (Str.ofString "divrem_limb") = some .globalImplicit := by with_unfolding_all rfl)
    (he : starEach (x :: rest) f.env = (false, eval x f.env) :: starEach rest f.env := by with_unfolding_all rfl) (hplain : (backTo pos (starEach rest f.env)).any (·.1) = false := by with_unfolding_all rfl) :
    EV e.c A f (.Call (.Name (Str.ofString "divrem_limb") np) (x :: rest) [] pos) m H Q := EV_def O (g_divrem_limb _) (k_divrem_limb _) h hf hx (by decide) he hplain
theorem d_shift_left (O : e.c.Ok) (h : EVl e.c A f pos (x :: rest) m H (fun vs H2 => CALL e.c A 93 vs H2 Q)) (hf : f.sc.kind = .function := by with_unfolding_all rfl) (hx : f.env.kindOf (Str.ofString "shift_left") = some .globalImplicit := by with_unfolding_all rfl)
    (he : starEach (x :: rest) f.env = (false, eval x f.env) :: starEach rest f.env := by with_unfolding_all rfl) (hplain : (backTo pos (starEach rest f.env)).any (·.1) = false := by with_unfolding_all rfl) :
    EV e.c A f (.Call (.Name (Str.ofString "shift_left") np) (x :: rest) [] pos) m H Q := EV_def O (g_shift_left _) (k_shift_left _) h hf hx (by decide) he hplain
theorem d_shift_right (O : e.c.Ok) (h : EVl e.c A f pos (x :: rest) m H (fun vs H2 => CALL e.c A 100 vs H2 Q)) (hf : f.sc.kind = .function := by with_unfolding_all rfl) (hx : f.env.kindOf (Str.ofString "shift_right") = some .globalImplicit := by with_unfolding_all rfl)
    (he : starEach (x :: rest) f.env = (false, eval x f.env) :: starEach rest f.env := by with_unfolding_all rfl) (hplain : (backTo pos (starEach rest f.env)).any (·.1) = false := by with_unfolding_all rfl) :
    EV e.c A f (.Call (.Name (Str.ofString "shift_right") np) (x :: rest) [] pos) m H Q := EV_def O (g_shift_right _) (k_shift_right _) h hf hx (by decide) he hplain
theorem d_bits (O : e.c.Ok) (h : EVl e.c A f pos (x :: rest) m H (fun vs H2 => CALL e.c A 107 vs H2 Q)) (hf : f.sc.kind = .function := by with_unfolding_all rfl) (hx : f.env.kindOf (Str.ofString "bits") = some .globalImplicit := by with_unfolding_all rfl)
    (he : starEach (x :: rest) f.env = (false, eval x f.env) :: starEach rest f.env := by with_unfolding_all rfl) (hplain : (backTo pos (starEach rest f.env)).any (·.1) = false := by with_unfolding_all rfl) :
    EV e.c A f (.Call (.Name (Str.ofString "bits") np) (x :: rest) [] pos) m H Q := EV_def O (g_bits _) (k_bits _) h hf hx (by decide) he hplain
theorem d_low (O : e.c.Ok) (h : EVl e.c A f pos (x :: rest) m H (fun vs H2 => CALL e.c A 114 vs H2 Q)) (hf : f.sc.kind = .function := by with_unfolding_all rfl) (hx : f.env.kindOf (Str.ofString "low") = some .globalImplicit := by with_unfolding_all rfl)
    (he : starEach (x :: rest) f.env = (false, eval x f.env) :: starEach rest f.env := by with_unfolding_all rfl) (hplain : (backTo pos (starEach rest f.env)).any (·.1) = false := by with_unfolding_all rfl) :
    EV e.c A f (.Call (.Name (Str.ofString "low") np) (x :: rest) [] pos) m H Q := EV_def O (g_low _) (k_low _) h hf hx (by decide) he hplain
theorem d_matrix_mul (O : e.c.Ok) (h : EVl e.c A f pos (x :: rest) m H (fun vs H2 => CALL e.c A 126 vs H2 Q)) (hf : f.sc.kind = .function := by with_unfolding_all rfl) (hx : f.env.kindOf (Str.ofString "matrix_mul") = some .globalImplicit := by with_unfolding_all rfl)
    (he : starEach (x :: rest) f.env = (false, eval x f.env) :: starEach rest f.env := by with_unfolding_all rfl) (hplain : (backTo pos (starEach rest f.env)).any (·.1) = false := by with_unfolding_all rfl) :
    EV e.c A f (.Call (.Name (Str.ofString "matrix_mul") np) (x :: rest) [] pos) m H Q := EV_def O (g_matrix_mul _) (k_matrix_mul _) h hf hx (by decide) he hplain
theorem d_led_back (O : e.c.Ok) (h : EVl e.c A f pos (x :: rest) m H (fun vs H2 => CALL e.c A 133 vs H2 Q)) (hf : f.sc.kind = .function := by with_unfolding_all rfl) (hx : f.env.kindOf (Str.ofString "led_back") = some .globalImplicit := by with_unfolding_all rfl)
    (he : starEach (x :: rest) f.env = (false, eval x f.env) :: starEach rest f.env := by with_unfolding_all rfl) (hplain : (backTo pos (starEach rest f.env)).any (·.1) = false := by with_unfolding_all rfl) :
    EV e.c A f (.Call (.Name (Str.ofString "led_back") np) (x :: rest) [] pos) m H Q := EV_def O (g_led_back _) (k_led_back _) h hf hx (by decide) he hplain
theorem d_great_step (O : e.c.Ok) (h : EVl e.c A f pos (x :: rest) m H (fun vs H2 => CALL e.c A 140 vs H2 Q)) (hf : f.sc.kind = .function := by with_unfolding_all rfl) (hx : f.env.kindOf (Str.ofString "great_step") = some .globalImplicit := by with_unfolding_all rfl)
    (he : starEach (x :: rest) f.env = (false, eval x f.env) :: starEach rest f.env := by with_unfolding_all rfl) (hplain : (backTo pos (starEach rest f.env)).any (·.1) = false := by with_unfolding_all rfl) :
    EV e.c A f (.Call (.Name (Str.ofString "great_step") np) (x :: rest) [] pos) m H Q := EV_def O (g_great_step _) (k_great_step _) h hf hx (by decide) he hplain
theorem d_one_step (O : e.c.Ok) (h : EVl e.c A f pos (x :: rest) m H (fun vs H2 => CALL e.c A 147 vs H2 Q)) (hf : f.sc.kind = .function := by with_unfolding_all rfl) (hx : f.env.kindOf (Str.ofString "one_step") = some .globalImplicit := by with_unfolding_all rfl)
    (he : starEach (x :: rest) f.env = (false, eval x f.env) :: starEach rest f.env := by with_unfolding_all rfl) (hplain : (backTo pos (starEach rest f.env)).any (·.1) = false := by with_unfolding_all rfl) :
    EV e.c A f (.Call (.Name (Str.ofString "one_step") np) (x :: rest) [] pos) m H Q := EV_def O (g_one_step _) (k_one_step _) h hf hx (by decide) he hplain
theorem d_difference_bits (O : e.c.Ok) (h : EVl e.c A f pos (x :: rest) m H (fun vs H2 => CALL e.c A 154 vs H2 Q)) (hf : f.sc.kind = .function := by with_unfolding_all rfl) (hx : f.env.kindOf (Str.ofString "difference_bits") = some .globalImplicit := by with_unfolding_all rfl)
    (he : starEach (x :: rest) f.env = (false, eval x f.env) :: starEach rest f.env := by with_unfolding_all rfl) (hplain : (backTo pos (starEach rest f.env)).any (·.1) = false := by with_unfolding_all rfl) :
    EV e.c A f (.Call (.Name (Str.ofString "difference_bits") np) (x :: rest) [] pos) m H Q := EV_def O (g_difference_bits _) (k_difference_bits _) h hf hx (by decide) he hplain
theorem d_least_bits (O : e.c.Ok) (h : EVl e.c A f pos (x :: rest) m H (fun vs H2 => CALL e.c A 161 vs H2 Q)) (hf : f.sc.kind = .function := by with_unfolding_all rfl) (hx : f.env.kindOf (Str.ofString "least_bits") = some .globalImplicit := by with_unfolding_all rfl)
    (he : starEach (x :: rest) f.env = (false, eval x f.env) :: starEach rest f.env := by with_unfolding_all rfl) (hplain : (backTo pos (starEach rest f.env)).any (·.1) = false := by with_unfolding_all rfl) :
    EV e.c A f (.Call (.Name (Str.ofString "least_bits") np) (x :: rest) [] pos) m H Q := EV_def O (g_least_bits _) (k_least_bits _) h hf hx (by decide) he hplain
theorem d_most_bits (O : e.c.Ok) (h : EVl e.c A f pos (x :: rest) m H (fun vs H2 => CALL e.c A 168 vs H2 Q)) (hf : f.sc.kind = .function := by with_unfolding_all rfl) (hx : f.env.kindOf (Str.ofString "most_bits") = some .globalImplicit := by with_unfolding_all rfl)
    (he : starEach (x :: rest) f.env = (false, eval x f.env) :: starEach rest f.env := by with_unfolding_all rfl) (hplain : (backTo pos (starEach rest f.env)).any (·.1) = false := by with_unfolding_all rfl) :
    EV e.c A f (.Call (.Name (Str.ofString "most_bits") np) (x :: rest) [] pos) m H Q := EV_def O (g_most_bits _) (k_most_bits _) h hf hx (by decide) he hplain
theorem d_by_high (O : e.c.Ok) (h : EVl e.c A f pos (x :: rest) m H (fun vs H2 => CALL e.c A 175 vs H2 Q)) (hf : f.sc.kind = .function := by with_unfolding_all rfl) (hx : f.env.kindOf (Str.ofString "by_high") = some .globalImplicit := by with_unfolding_all rfl)
    (he : starEach (x :: rest) f.env = (false, eval x f.env) :: starEach rest f.env := by with_unfolding_all rfl) (hplain : (backTo pos (starEach rest f.env)).any (·.1) = false := by with_unfolding_all rfl) :
    EV e.c A f (.Call (.Name (Str.ofString "by_high") np) (x :: rest) [] pos) m H Q := EV_def O (g_by_high _) (k_by_high _) h hf hx (by decide) he hplain
theorem d_half_gcd (O : e.c.Ok) (h : EVl e.c A f pos (x :: rest) m H (fun vs H2 => CALL e.c A 182 vs H2 Q)) (hf : f.sc.kind = .function := by with_unfolding_all rfl) (hx : f.env.kindOf (Str.ofString "half_gcd") = some .globalImplicit := by with_unfolding_all rfl)
    (he : starEach (x :: rest) f.env = (false, eval x f.env) :: starEach rest f.env := by with_unfolding_all rfl) (hplain : (backTo pos (starEach rest f.env)).any (·.1) = false := by with_unfolding_all rfl) :
    EV e.c A f (.Call (.Name (Str.ofString "half_gcd") np) (x :: rest) [] pos) m H Q := EV_def O (g_half_gcd _) (k_half_gcd _) h hf hx (by decide) he hplain
theorem d_mul_school (O : e.c.Ok) (h : EVl e.c A f pos (x :: rest) m H (fun vs H2 => CALL e.c A 189 vs H2 Q)) (hf : f.sc.kind = .function := by with_unfolding_all rfl) (hx : f.env.kindOf (Str.ofString "mul_school") = some .globalImplicit := by with_unfolding_all rfl)
    (he : starEach (x :: rest) f.env = (false, eval x f.env) :: starEach rest f.env := by with_unfolding_all rfl) (hplain : (backTo pos (starEach rest f.env)).any (·.1) = false := by with_unfolding_all rfl) :
    EV e.c A f (.Call (.Name (Str.ofString "mul_school") np) (x :: rest) [] pos) m H Q := EV_def O (g_mul_school _) (k_mul_school _) h hf hx (by decide) he hplain
theorem d_divrem_small (O : e.c.Ok) (h : EVl e.c A f pos (x :: rest) m H (fun vs H2 => CALL e.c A 196 vs H2 Q)) (hf : f.sc.kind = .function := by with_unfolding_all rfl) (hx : f.env.kindOf (Str.ofString "divrem_small") = some .globalImplicit := by with_unfolding_all rfl)
    (he : starEach (x :: rest) f.env = (false, eval x f.env) :: starEach rest f.env := by with_unfolding_all rfl) (hplain : (backTo pos (starEach rest f.env)).any (·.1) = false := by with_unfolding_all rfl) :
    EV e.c A f (.Call (.Name (Str.ofString "divrem_small") np) (x :: rest) [] pos) m H Q := EV_def O (g_divrem_small _) (k_divrem_small _) h hf hx (by decide) he hplain
theorem d_guessed_limb (O : e.c.Ok) (h : EVl e.c A f pos (x :: rest) m H (fun vs H2 => CALL e.c A 203 vs H2 Q)) (hf : f.sc.kind = .function := by with_unfolding_all rfl) (hx : f.env.kindOf (Str.ofString "guessed_limb") = some .globalImplicit := by with_unfolding_all rfl)
    (he : starEach (x :: rest) f.env = (false, eval x f.env) :: starEach rest f.env := by with_unfolding_all rfl) (hplain : (backTo pos (starEach rest f.env)).any (·.1) = false := by with_unfolding_all rfl) :
    EV e.c A f (.Call (.Name (Str.ofString "guessed_limb") np) (x :: rest) [] pos) m H Q := EV_def O (g_guessed_limb _) (k_guessed_limb _) h hf hx (by decide) he hplain
theorem d_take_away (O : e.c.Ok) (h : EVl e.c A f pos (x :: rest) m H (fun vs H2 => CALL e.c A 210 vs H2 Q)) (hf : f.sc.kind = .function := by with_unfolding_all rfl) (hx : f.env.kindOf (Str.ofString "take_away") = some .globalImplicit := by with_unfolding_all rfl)
    (he : starEach (x :: rest) f.env = (false, eval x f.env) :: starEach rest f.env := by with_unfolding_all rfl) (hplain : (backTo pos (starEach rest f.env)).any (·.1) = false := by with_unfolding_all rfl) :
    EV e.c A f (.Call (.Name (Str.ofString "take_away") np) (x :: rest) [] pos) m H Q := EV_def O (g_take_away _) (k_take_away _) h hf hx (by decide) he hplain
theorem d_put_back (O : e.c.Ok) (h : EVl e.c A f pos (x :: rest) m H (fun vs H2 => CALL e.c A 217 vs H2 Q)) (hf : f.sc.kind = .function := by with_unfolding_all rfl) (hx : f.env.kindOf (Str.ofString "put_back") = some .globalImplicit := by with_unfolding_all rfl)
    (he : starEach (x :: rest) f.env = (false, eval x f.env) :: starEach rest f.env := by with_unfolding_all rfl) (hplain : (backTo pos (starEach rest f.env)).any (·.1) = false := by with_unfolding_all rfl) :
    EV e.c A f (.Call (.Name (Str.ofString "put_back") np) (x :: rest) [] pos) m H Q := EV_def O (g_put_back _) (k_put_back _) h hf hx (by decide) he hplain
theorem d_divide_rows (O : e.c.Ok) (h : EVl e.c A f pos (x :: rest) m H (fun vs H2 => CALL e.c A 224 vs H2 Q)) (hf : f.sc.kind = .function := by with_unfolding_all rfl) (hx : f.env.kindOf (Str.ofString "divide_rows") = some .globalImplicit := by with_unfolding_all rfl)
    (he : starEach (x :: rest) f.env = (false, eval x f.env) :: starEach rest f.env := by with_unfolding_all rfl) (hplain : (backTo pos (starEach rest f.env)).any (·.1) = false := by with_unfolding_all rfl) :
    EV e.c A f (.Call (.Name (Str.ofString "divide_rows") np) (x :: rest) [] pos) m H Q := EV_def O (g_divide_rows _) (k_divide_rows _) h hf hx (by decide) he hplain
theorem d_divrem_school (O : e.c.Ok) (h : EVl e.c A f pos (x :: rest) m H (fun vs H2 => CALL e.c A 231 vs H2 Q)) (hf : f.sc.kind = .function := by with_unfolding_all rfl) (hx : f.env.kindOf (Str.ofString "divrem_school") = some .globalImplicit := by with_unfolding_all rfl)
    (he : starEach (x :: rest) f.env = (false, eval x f.env) :: starEach rest f.env := by with_unfolding_all rfl) (hplain : (backTo pos (starEach rest f.env)).any (·.1) = false := by with_unfolding_all rfl) :
    EV e.c A f (.Call (.Name (Str.ofString "divrem_school") np) (x :: rest) [] pos) m H Q := EV_def O (g_divrem_school _) (k_divrem_school _) h hf hx (by decide) he hplain
theorem d_law_cut (O : e.c.Ok) (h : EVl e.c A f pos (x :: rest) m H (fun vs H2 => CALL e.c A 238 vs H2 Q)) (hf : f.sc.kind = .function := by with_unfolding_all rfl) (hx : f.env.kindOf (Str.ofString "_law_cut") = some .globalImplicit := by with_unfolding_all rfl)
    (he : starEach (x :: rest) f.env = (false, eval x f.env) :: starEach rest f.env := by with_unfolding_all rfl) (hplain : (backTo pos (starEach rest f.env)).any (·.1) = false := by with_unfolding_all rfl) :
    EV e.c A f (.Call (.Name (Str.ofString "_law_cut") np) (x :: rest) [] pos) m H Q := EV_def O (g_law_cut _) (k_law_cut _) h hf hx (by decide) he hplain
theorem d_law_limbs (O : e.c.Ok) (h : EVl e.c A f pos (x :: rest) m H (fun vs H2 => CALL e.c A 245 vs H2 Q)) (hf : f.sc.kind = .function := by with_unfolding_all rfl) (hx : f.env.kindOf (Str.ofString "_law_limbs") = some .globalImplicit := by with_unfolding_all rfl)
    (he : starEach (x :: rest) f.env = (false, eval x f.env) :: starEach rest f.env := by with_unfolding_all rfl) (hplain : (backTo pos (starEach rest f.env)).any (·.1) = false := by with_unfolding_all rfl) :
    EV e.c A f (.Call (.Name (Str.ofString "_law_limbs") np) (x :: rest) [] pos) m H Q := EV_def O (g_law_limbs _) (k_law_limbs _) h hf hx (by decide) he hplain
theorem d_law_whole (O : e.c.Ok) (h : EVl e.c A f pos (x :: rest) m H (fun vs H2 => CALL e.c A 252 vs H2 Q)) (hf : f.sc.kind = .function := by with_unfolding_all rfl) (hx : f.env.kindOf (Str.ofString "_law_whole") = some .globalImplicit := by with_unfolding_all rfl)
    (he : starEach (x :: rest) f.env = (false, eval x f.env) :: starEach rest f.env := by with_unfolding_all rfl) (hplain : (backTo pos (starEach rest f.env)).any (·.1) = false := by with_unfolding_all rfl) :
    EV e.c A f (.Call (.Name (Str.ofString "_law_whole") np) (x :: rest) [] pos) m H Q := EV_def O (g_law_whole _) (k_law_whole _) h hf hx (by decide) he hplain
theorem d_law_shared (O : e.c.Ok) (h : EVl e.c A f pos (x :: rest) m H (fun vs H2 => CALL e.c A 259 vs H2 Q)) (hf : f.sc.kind = .function := by with_unfolding_all rfl) (hx : f.env.kindOf (Str.ofString "_law_shared") = some .globalImplicit := by with_unfolding_all rfl)
    (he : starEach (x :: rest) f.env = (false, eval x f.env) :: starEach rest f.env := by with_unfolding_all rfl) (hplain : (backTo pos (starEach rest f.env)).any (·.1) = false := by with_unfolding_all rfl) :
    EV e.c A f (.Call (.Name (Str.ofString "_law_shared") np) (x :: rest) [] pos) m H Q := EV_def O (g_law_shared _) (k_law_shared _) h hf hx (by decide) he hplain
theorem d_law_leads_back (O : e.c.Ok) (h : EVl e.c A f pos (x :: rest) m H (fun vs H2 => CALL e.c A 264 vs H2 Q)) (hf : f.sc.kind = .function := by with_unfolding_all rfl) (hx : f.env.kindOf (Str.ofString "_law_leads_back") = some .globalImplicit := by with_unfolding_all rfl)
    (he : starEach (x :: rest) f.env = (false, eval x f.env) :: starEach rest f.env := by with_unfolding_all rfl) (hplain : (backTo pos (starEach rest f.env)).any (·.1) = false := by with_unfolding_all rfl) :
    EV e.c A f (.Call (.Name (Str.ofString "_law_leads_back") np) (x :: rest) [] pos) m H Q := EV_def O (g_law_leads_back _) (k_law_leads_back _) h hf hx (by decide) he hplain
theorem d_len (O : e.c.Ok) (h : EV e.c A f x m H (fun v H1 => PkLen H1 (fun n => Q (.int n) H1) v))
    (hf : f.sc.kind = .function := by with_unfolding_all rfl) (hx : f.env.kindOf (Str.ofString "len") = some .globalImplicit := by with_unfolding_all rfl)
    (he : starEach [x] f.env = [(false, eval x f.env)] := by with_unfolding_all rfl) : EV e.c A f (.Call (.Name (Str.ofString "len") np) [x] [] pos) m H Q := EV_len O (g_len _) boot_len h hf hx he
theorem d_abs (O : e.c.Ok) (h : EV e.c A f x m H (fun a H1 => ∃ i, a = .int i ∧ Q (.int (if i < 0 then -i else i)) H1))
    (hf : f.sc.kind = .function := by with_unfolding_all rfl) (hx : f.env.kindOf (Str.ofString "abs") = some .globalImplicit := by with_unfolding_all rfl)
    (he : starEach [x] f.env = [(false, eval x f.env)] := by with_unfolding_all rfl) : EV e.c A f (.Call (.Name (Str.ofString "abs") np) [x] [] pos) m H Q := EV_abs O (g_abs _) boot_abs h hf hx he
theorem d_min (O : e.c.Ok) (hh : A.handled = none) (h : EV e.c A f x m H (fun a H1 => EV e.c A f x2 m H1 (fun b H2 => Two (fun i j => True) (fun i j => Q (.int (if j < i then j else i)) H2) a b)))
    (hf : f.sc.kind = .function := by with_unfolding_all rfl) (hx : f.env.kindOf (Str.ofString "min") = some .globalImplicit := by with_unfolding_all rfl)
    (he : starEach [x, x2] f.env = (false, eval x f.env) :: starEach [x2] f.env := by with_unfolding_all rfl) (he2 : starEach [x2] f.env = (false, eval x2 f.env) :: starEach [] f.env := by with_unfolding_all rfl)
    (hp : (backTo pos (starEach [x2] f.env)).any (·.1) = false := by with_unfolding_all rfl) : EV e.c A f (.Call (.Name (Str.ofString "min") np) [x, x2] [] pos) m H Q := EV_min O hh (g_min _) boot_min h hf hx he he2 hp
theorem d_max (O : e.c.Ok) (hh : A.handled = none) (h : EV e.c A f x m H (fun a H1 => EV e.c A f x2 m H1 (fun b H2 => Two (fun i j => True) (fun i j => Q (.int (if j > i then j else i)) H2) a b)))
    (hf : f.sc.kind = .function := by with_unfolding_all rfl) (hx : f.env.kindOf (Str.ofString "max") = some .globalImplicit := by with_unfolding_all rfl)
    (he : starEach [x, x2] f.env = (false, eval x f.env) :: starEach [x2] f.env := by with_unfolding_all rfl) (he2 : starEach [x2] f.env = (false, eval x2 f.env) :: starEach [] f.env := by with_unfolding_all rfl)
    (hp : (backTo pos (starEach [x2] f.env)).any (·.1) = false := by with_unfolding_all rfl) : EV e.c A f (.Call (.Name (Str.ofString "max") np) [x, x2] [] pos) m H Q := EV_max O hh (g_max _) boot_max h hf hx he he2 hp
end
end Mine
namespace Mine
open PySem PySem.W PySem.Calls PyProof.Rows
local macro_rules | `(tactic| walk_at "om") => `(tactic| first
  | with_reducible assumption
  | decide
  | with_reducible exact Nat.le_refl _
  | exact Nat.lt_of_lt_of_le (by with_reducible assumption) (by decide)
  | lia
  | omega)
local macro_rules | `(tactic| walk_at "mvV") => `(tactic| first
  | refine EV_local (by with_unfolding_all rfl) ?_
  | refine EV_int ?_
  | (show EV _ _ _ (Expr.BinOp _ Operator.Add (Expr.List _ _) _) _ _ _; refine EV_cat ?_)
  | (show EV _ _ _ (Expr.BinOp _ Operator.Add (Expr.BinOp (Expr.List _ _) _ _ _) _) _ _ _; refine EV_cat ?_)
  | (show EV _ _ _ (Expr.BinOp (Expr.List _ _) Operator.Mult _ _) _ _ _; refine EV_times ?_)
  | refine EV_add ?_
  | refine EV_sub ?_
  | refine EV_upto ?_
  | refine EV_range_ ?_
  | refine EV_whole ?_
  | refine EV_item ?_
  | refine d_len (by assumption) ?_
  | refine EV_mul ?_
  | refine EV_shl ?_
  | refine EV_mask ?_
  | refine EV_floordiv ?_
  | refine EV_mod ?_
  | refine EV_shr ?_
  | refine EV_bor ?_
  | refine EV_pow ?_
  | refine EV_tuple ?_
  | refine EV_list ?_
  | refine d_min (by assumption) (Rm.hd (by assumption)) ?_
  | refine d_max (by assumption) (Rm.hd (by assumption)) ?_
  | refine d_abs (by assumption) ?_
  | refine EV_neg ?_
  | refine d_normal (by assumption) ?_
  | refine d_compare (by assumption) ?_
  | refine d_add (by assumption) ?_
  | refine d_sub (by assumption) ?_
  | refine d_divrem_limb (by assumption) ?_
  | refine d_shift_left (by assumption) ?_
  | refine d_shift_right (by assumption) ?_
  | refine d_bits (by assumption) ?_
  | refine d_low (by assumption) ?_
  | refine d_matrix_mul (by assumption) ?_
  | refine d_led_back (by assumption) ?_
  | refine d_great_step (by assumption) ?_
  | refine d_one_step (by assumption) ?_
  | refine d_difference_bits (by assumption) ?_
  | refine d_least_bits (by assumption) ?_
  | refine d_most_bits (by assumption) ?_
  | refine d_by_high (by assumption) ?_
  | refine d_half_gcd (by assumption) ?_
  | refine d_mul_school (by assumption) ?_
  | refine d_divrem_small (by assumption) ?_
  | refine d_guessed_limb (by assumption) ?_
  | refine d_take_away (by assumption) ?_
  | refine d_put_back (by assumption) ?_
  | refine d_divide_rows (by assumption) ?_
  | refine d_divrem_school (by assumption) ?_
  | refine d_law_cut (by assumption) ?_
  | refine d_law_limbs (by assumption) ?_
  | refine d_law_whole (by assumption) ?_
  | refine d_law_shared (by assumption) ?_
  | refine d_law_leads_back (by assumption) ?_)
local macro_rules | `(tactic| walk_at "mvT") => `(tactic| first
  | refine TV_lt ?_
  | refine TV_gt ?_
  | refine TV_le ?_
  | refine TV_ge ?_
  | refine TV_eq ?_
  | refine TV_ne ?_
  | refine TV_bools ?_)
local macro_rules | `(tactic| walk_at "mvX") => `(tactic| first
  | refine EX_cons ?_
  | refine EX_nil ?_
  | refine EX_assign ?_
  | refine EX_return ?_
  | refine EX_if ?_
  | refine EX_iadd (by with_unfolding_all rfl) ?_
  | refine EX_isub (by with_unfolding_all rfl) ?_
  | refine EX_ishr (by with_unfolding_all rfl) ?_
  | refine EX_ibor (by with_unfolding_all rfl) ?_
  | refine EX_imod (by with_unfolding_all rfl) ?_
  | refine EX_swap2 (Rm.hd (by assumption)) ?_
  | refine EX_swap3 (Rm.hd (by assumption)) ?_)
local macro_rules | `(tactic| walk_at "mvB") => `(tactic| first
  | refine TB_and ?_
  | refine TB_or ?_
  | refine TB_and_nil ?_
  | refine TB_or_nil ?_)
local macro_rules | `(tactic| walk_at "mvL") => `(tactic| first
  | refine EVl_cons ?_
  | refine EVl_nil ?_)
local macro_rules | `(tactic| walk_at "mv") => `(tactic| with_reducible first
  | (show EV _ _ _ _ _ _ _; walk_at "mvV")
  | (show EX _ _ _ _ _ _ _ _; walk_at "mvX")
  | (show ∃ i, V.int _ = V.int i ∧ True ∧ _; refine ⟨_, rfl, trivial, ?_⟩)
  | (show ∃ i : Nat, V.int _ = V.int i ∧ True ∧ _; refine ⟨_, rfl, trivial, ?_⟩)
  | (show Two (fun _ _ => True) _ (V.int _) (V.int _); refine ⟨_, _, rfl, rfl, trivial, ?_⟩)
  | (show TwoN (fun _ _ => True) _ (V.int _) (V.int _); refine ⟨_, _, rfl, rfl, trivial, ?_⟩)
  | (show TV _ _ _ _ _ _ _; walk_at "mvT")
  | (show EVl _ _ _ _ _ _ _ _; walk_at "mvL")
  | (show TB _ _ _ _ _ _ _ _; walk_at "mvB"))

section
open PySem PySem.W PySem.Calls PyProof.Rows
variable {e : Ev} {A : Around} {H : Hp}

theorem ok_normal (O : e.c.Ok) (hA : Rm A 1) {r : Addr} {xs : List Int} (h : At H r false (iv xs)) (hn : xs.length ≤ 4096) :
    PURE e.c A 58 [.ref r] H (fun v H' => ∃ d, v = .ref d ∧ At H' d false (iv (trim xs))) := by
  refine PURE_of (by rintro v H1 H2 ha ⟨d, e, h⟩; exact ⟨d, e, ha _ _ _ h⟩) ?_
  refine CALL_enter [Str.ofString "a"] O hA.room rfl rfl (fun us hl => ?_) rfl (by decide) (by decide) (by decide) (fun L => ?_)
  · obtain ⟨u, rfl⟩ := len1 hl; rfl
  have hr := fr_at h
  generalize fr H = H at *
  repeat' walk_at "mv"
  refine ⟨_, _, _, rfl, hr, by simpa [iv_len], ?_⟩
  rw [iv_len]
  repeat' walk_at "mv"
  refine EX_while2 (fun k m H' => m = [(Str.ofString "a", .ref r), (Str.ofString "end", .int k)] ∧ H' = H ∧ k ≤ xs.length ∧ ∀ i, k ≤ i → i < xs.length → xs[i]? = some 0)
    (fun k m H' b => (m = [(Str.ofString "a", .ref r), (Str.ofString "end", .int k)] ∧ H' = H ∧ k ≤ xs.length ∧ ∀ i, k ≤ i → i < xs.length → xs[i]? = some 0) ∧ b = decide (0 < k ∧ xs[k - 1]? = some 0)) (n0 := xs.length)
    ⟨by with_unfolding_all rfl, rfl, Nat.le_refl _, fun i h1 h2 => by walk_at "om"⟩ ?_ ?_ ?_
  · rintro k m H' ⟨rfl, rfl, hk, hz⟩
    repeat' walk_at "mv"
    refine ⟨fun h0 => ?_, fun h0 => ?_⟩
    · have h0 := of_decide_eq_true h0
      repeat' walk_at "mv"
      have h1 : ((k : Int) - 1).toNat = k - 1 := by walk_at "om"
      have h2 : k - 1 < xs.length := by walk_at "om"
      refine ⟨_, _, _, _, _, rfl, rfl, hr, ⟨by walk_at "om", by walk_at "om"⟩, by rw [h1]; exact List.getElem?_eq_getElem h2, ?_⟩
      repeat' walk_at "mv"
      refine ⟨fun h3 => ?_, fun h3 => ?_⟩
      · repeat' walk_at "mv"
        refine ⟨⟨rfl, rfl, hk, hz⟩, ?_⟩
        have : xs[k - 1] = 0 := by simpa using h3
        simp [List.getElem?_eq_getElem h2, this]; walk_at "om"
      · refine ⟨⟨rfl, rfl, hk, hz⟩, ?_⟩
        have : xs[k - 1] ≠ 0 := by simpa using h3
        simp [List.getElem?_eq_getElem h2, this]
    · have h0 := of_decide_eq_false h0
      exact ⟨⟨rfl, rfl, hk, hz⟩, by simp; walk_at "om"⟩
  · rintro k m H' ⟨⟨rfl, rfl, hk, hz⟩, hb⟩
    have hb := of_decide_eq_true hb.symm
    repeat' walk_at "mv"
    refine ⟨k - 1, by walk_at "om", ?_, rfl, by walk_at "om", fun i h1 h2 => ?_⟩
    · have : (k : Int) - 1 = ((k - 1 : Nat) : Int) := by walk_at "om"
      rw [this]; with_unfolding_all rfl
    · by_cases hi : i = k - 1
      · subst hi; exact hb.2
      · exact hz i (by walk_at "om") h2
  · rintro k m H' ⟨⟨rfl, rfl, hk, hz⟩, hb⟩
    have hb := of_decide_eq_false hb.symm
    have e1 := trim_eq xs k hk hz (by
      by_cases k0 : k = 0
      · exact .inl k0
      · right
        have h2 : k - 1 < xs.length := by walk_at "om"
        exact ⟨xs[k - 1], List.getElem?_eq_getElem h2, fun q => hb ⟨by walk_at "om", by rw [List.getElem?_eq_getElem h2, q]⟩⟩)
    repeat' walk_at "mv"
    refine ⟨_, _, _, _, rfl, rfl, hr, ⟨by walk_at "om", by rw [iv_len]; walk_at "om", by rwa [iv_len]⟩, fun a ha => ⟨Sub.set ha, a, rfl, ?_⟩⟩
    rw [e1, ← iv_take]
    exact At.set
end
section
open PySem PySem.W PySem.Calls PyProof.Rows

/-! ## compare -/
theorem lim_len_lt {w a b : Nat} (hw : 0 < w) (h : (lim w a).length < (lim w b).length) : a < b := by
  have hb : 0 < b := by
    rcases Nat.eq_zero_or_pos b with e | e
    · subst e; rw [lim_zero] at h; simp at h
    · exact e
  have h1 := lim_lt hw a
  have h2 := lim_big hw hb
  have h3 : (2 ^ w : Int) ^ (lim w a).length ≤ (2 ^ w : Int) ^ ((lim w b).length - 1) := by
    rw [pow_cast, ← Int.natCast_pow, ← Int.natCast_pow]
    exact Int.ofNat_le.mpr (Nat.pow_le_pow_right (Nat.two_pow_pos w) (by walk_at "om"))
  walk_at "om"
theorem digit_lt {B : Int} (hB : 0 < B) {xs ys : List Int} (hx : Dg B xs) (hy : Dg B ys) {k : Nat} {x y : Int} (ex : xs[k]? = some x) (ey : ys[k]? = some y) (hd : xs.drop (k + 1) = ys.drop (k + 1)) (h : x < y) : val B xs < val B ys := by
  have hk : k < xs.length := by
    rcases Nat.lt_or_ge k xs.length with h1 | h1
    · exact h1
    · rw [List.getElem?_eq_none h1] at ex; cases ex
  have hk2 : k < ys.length := by
    rcases Nat.lt_or_ge k ys.length with h1 | h1
    · exact h1
    · rw [List.getElem?_eq_none h1] at ey; cases ey
  rw [val_take_drop xs k (by walk_at "om"), val_take_drop ys k (by walk_at "om"), val_drop_pred xs k ex, val_drop_pred ys k ey, hd]
  have h1 := val_lt hB (hx.take k)
  have h2 := val_nonneg hB (hy.take k)
  rw [List.length_take, Nat.min_eq_left (by walk_at "om")] at h1
  generalize val B (ys.drop (k + 1)) = D
  have h3 : B ^ k * (x + B * D + 1) ≤ B ^ k * (y + B * D) := Int.mul_le_mul_of_nonneg_left (by walk_at "om") (Int.le_of_lt (Int.pow_pos hB))
  rw [Int.mul_add, Int.mul_one] at h3
  walk_at "om"

def cmpN (a b : Nat) : Int := if a < b then -1 else if a = b then 0 else 1

variable {e : Ev} {A : Around} {H : Hp}

theorem ok_compare {w a b : Nat} (hw : 0 < w) (O : e.c.Ok) (hA : Rm A 1) {ra rb : Addr} (ha : At H ra false (iv (lim w a))) (hb : At H rb false (iv (lim w b))) (la : a < 2 ^ 64) (lb : b < 2 ^ 64) :
    PURE e.c A 65 [.ref ra, .ref rb] H (fun v _ => v = .int (cmpN a b)) := by
  refine PURE_of (fun v H1 H2 _ h => h) ?_
  refine CALL_enter [Str.ofString "a", Str.ofString "b"] O hA.room rfl rfl (fun us hl => ?_) rfl (by decide) (by decide) (by decide) (fun L => ?_)
  · obtain ⟨u, v, rfl⟩ := len2 hl; rfl
  have hra := fr_at ha
  have hrb := fr_at hb
  have hh := hA.h
  have na := len64 hw la
  have nb := len64 hw lb
  generalize fr H = H at *
  refine EX_cons (EX_if2 (fun b' H1 => H1 = H ∧ b' = decide ((lim w a).length ≠ (lim w b).length)) ?_ ?_ ?_)
  · repeat' walk_at "mv"
    refine ⟨_, _, _, rfl, hra, by rw [iv_len]; walk_at "om", ?_⟩
    repeat' walk_at "mv"
    refine ⟨_, _, _, rfl, hrb, by rw [iv_len]; walk_at "om", ?_⟩
    rw [iv_len, iv_len]
    repeat' walk_at "mv"
    refine ⟨rfl, ?_⟩
    by_cases q : (lim w a).length = (lim w b).length
    · simp [q]
    · simp [q]; walk_at "om"
  · rintro H1 ⟨rfl, q⟩
    have q := of_decide_eq_true q.symm
    repeat' walk_at "mv"
    refine EV_ifexp ?_
    repeat' walk_at "mv"
    refine ⟨_, _, _, rfl, hra, by rw [iv_len]; walk_at "om", ?_⟩
    repeat' walk_at "mv"
    refine ⟨_, _, _, rfl, hrb, by rw [iv_len]; walk_at "om", ?_⟩
    rw [iv_len, iv_len]
    repeat' walk_at "mv"
    refine ⟨fun h => ?_, fun h => ?_⟩
    · have h := of_decide_eq_true h
      repeat' walk_at "mv"
      refine ⟨.refl, ?_⟩
      have := lim_len_lt hw (a := a) (b := b) (by walk_at "om")
      simp [cmpN, this]
    · have h := of_decide_eq_false h
      repeat' walk_at "mv"
      refine ⟨.refl, ?_⟩
      have := lim_len_lt hw (a := b) (b := a) (by walk_at "om")
      have h1 : ¬ a < b := by walk_at "om"
      have h2 : ¬ a = b := by walk_at "om"
      simp [cmpN, h1, h2]
  · rintro H1 ⟨rfl, q⟩
    have q := of_decide_eq_false q.symm
    have q : (lim w a).length = (lim w b).length := by simpa using q
    repeat' walk_at "mv"
    refine EX_range3 O hh (g_range _) ?_
    repeat' walk_at "mv"
    refine ⟨_, _, _, rfl, hra, by rw [iv_len]; walk_at "om", ?_⟩
    rw [iv_len]
    repeat' walk_at "mv"
    refine ⟨((lim w a).length : Int) - 1, -1, fun i m H' => Le [(Str.ofString "a", .ref ra), (Str.ofString "b", .ref rb)] m ∧ H' = H1 ∧ (lim w a).drop ((lim w a).length - i) = (lim w b).drop ((lim w a).length - i), by simp, ⟨by walk_at "om", by walk_at "om", by walk_at "om", by walk_at "om"⟩,
      ⟨.of ⟨by with_unfolding_all rfl, by with_unfolding_all rfl, trivial⟩, rfl, by simp [q]⟩, ?_, ?_⟩
    · rintro i m H' hi ⟨hm, rfl, hd⟩
      have hi : i < (lim w a).length := by walk_at "om"
      refine EX_weak ?_ (hm.put _ _)
      have k1 : (((lim w a).length : Int) - 1 - i).toNat = (lim w a).length - 1 - i := by walk_at "om"
      have ex : (lim w a)[(lim w a).length - 1 - i]? = some (lim w a)[(lim w a).length - 1 - i] := List.getElem?_eq_getElem (by walk_at "om")
      have ey : (lim w b)[(lim w a).length - 1 - i]? = some (lim w b)[(lim w a).length - 1 - i] := List.getElem?_eq_getElem (by walk_at "om")
      generalize (lim w a)[(lim w a).length - 1 - i] = x at ex
      generalize (lim w b)[(lim w a).length - 1 - i] = y at ey
      have e1 : (lim w a).length - i = (lim w a).length - 1 - i + 1 := by walk_at "om"
      have e2 : (lim w a).length - (i + 1) = (lim w a).length - 1 - i := by walk_at "om"
      rw [e1] at hd
      have da := lim_dg hw a
      have db := lim_dg hw b
      repeat' walk_at "mv"
      refine ⟨_, _, _, _, _, rfl, rfl, hra, ⟨by walk_at "om", by walk_at "om"⟩, by rw [k1]; exact ex, ?_⟩
      repeat' walk_at "mv"
      refine ⟨_, _, _, _, _, rfl, rfl, hrb, ⟨by walk_at "om", by walk_at "om"⟩, by rw [k1]; exact ey, ?_⟩
      repeat' walk_at "mv"
      refine ⟨fun h => ?_, fun h => ?_⟩
      · have hne : x ≠ y := by simpa using h
        repeat' walk_at "mv"
        refine EV_ifexp ?_
        repeat' walk_at "mv"
        refine ⟨_, _, _, _, _, rfl, rfl, hra, ⟨by walk_at "om", by walk_at "om"⟩, by rw [k1]; exact ex, ?_⟩
        repeat' walk_at "mv"
        refine ⟨_, _, _, _, _, rfl, rfl, hrb, ⟨by walk_at "om", by walk_at "om"⟩, by rw [k1]; exact ey, ?_⟩
        repeat' walk_at "mv"
        refine ⟨fun h => ?_, fun h => ?_⟩
        · have h := of_decide_eq_true h
          repeat' walk_at "mv"
          refine ⟨.refl, ?_⟩
          have := digit_lt (B_pos w) da db ex ey hd h
          rw [lim_val hw, lim_val hw] at this
          have : a < b := by walk_at "om"
          simp [cmpN, this]
        · have h := of_decide_eq_false h
          repeat' walk_at "mv"
          refine ⟨.refl, ?_⟩
          have := digit_lt (B_pos w) db da ey ex hd.symm (by walk_at "om")
          rw [lim_val hw, lim_val hw] at this
          have h1 : ¬ a < b := by walk_at "om"
          have h2 : ¬ a = b := by walk_at "om"
          simp [cmpN, h1, h2]
      · have hxy : x = y := by simpa using h
        repeat' walk_at "mv"
        refine ⟨.of ⟨by with_unfolding_all rfl, by with_unfolding_all rfl, trivial⟩, rfl, ?_⟩
        rw [e2]
        have l1 : (lim w a).length - 1 - i < (lim w a).length := by walk_at "om"
        have l2 : (lim w a).length - 1 - i < (lim w b).length := by walk_at "om"
        rw [List.drop_eq_getElem_cons l1, List.drop_eq_getElem_cons l2, hd]
        rw [List.getElem?_eq_getElem l1] at ex
        rw [List.getElem?_eq_getElem l2] at ey
        rw [Option.some.inj ex, Option.some.inj ey, hxy]
    · rintro m H' ⟨hm, rfl, hd⟩
      repeat' walk_at "mv"
      refine ⟨.refl, ?_⟩
      have e1 : ((lim w a).length : Int) - 1 - -1 = (lim w a).length := by walk_at "om"
      rw [e1] at hd
      simp at hd
      have := lim_val hw a
      rw [hd, lim_val hw] at this
      have : a = b := by walk_at "om"
      simp [cmpN, this]
end
section
open PySem PySem.W PySem.Calls PyProof.Rows

variable {e : Ev} {A : Around} {H : Hp}

theorem add_turn {w i : Nat} {carry x y : Int} {fs xs ys : List Int} (hw : 0 < w) (hf : Dg (2 ^ w) fs) (hl : fs.length = i) (hc : 0 ≤ carry ∧ carry ≤ 1) (hx : 0 ≤ x ∧ x < 2 ^ w) (hy : 0 ≤ y ∧ y < 2 ^ w)
    {s t : Int} (hv : val (2 ^ w) fs + (2 ^ w) ^ i * carry = s) (ht : t = s + (2 ^ w) ^ i * (x + y)) :
    Dg (2 ^ w) (fs ++ [(carry + (x + y)) % 2 ^ w]) ∧ (fs ++ [(carry + (x + y)) % 2 ^ w]).length = i + 1 ∧ (0 ≤ (carry + (x + y)) / 2 ^ w ∧ (carry + (x + y)) / 2 ^ w ≤ 1) ∧
      val (2 ^ w) (fs ++ [(carry + (x + y)) % 2 ^ w]) + (2 ^ w) ^ (i + 1) * ((carry + (x + y)) / 2 ^ w) = t := by
  have hB := B_pos w
  refine ⟨hf.snoc (mod_dg hB), by simp [hl], ⟨div_nn hB (by walk_at "om"), div_le_of hB (by walk_at "om")⟩, ?_⟩
  rw [val_snoc, hl, Int.pow_succ, Int.add_assoc, dig_step, ht, ← hv, Int.mul_add]
  walk_at "om"

theorem ok_add {w a b : Nat} (hw : 0 < w) (hw9 : w ≤ 64) (O : e.c.Ok) (hA : Rm A 1) {ra rb : Addr} (ha : At H ra false (iv (lim w a))) (hb : At H rb false (iv (lim w b))) (la : a < 2 ^ 60) (lb : b < 2 ^ 60) :
    PURE e.c A 72 [.ref ra, .ref rb, .int w] H (fun v H' => Num w H' v (a + b)) := by
  refine PURE_of (fun v H1 H2 h n => n.up h) ?_
  refine CALL_enter [Str.ofString "a", Str.ofString "b", Str.ofString "w"] O hA.room rfl rfl (fun us hl => ?_) rfl (by decide) (by decide) (by decide) (fun L => ?_)
  · obtain ⟨u, v, x, rfl⟩ := len3 hl; rfl
  have hra := fr_at ha
  have hrb := fr_at hb
  have hh := hA.h
  have na := len64 hw (n := a) (by walk_at "om")
  have nb := len64 hw (n := b) (by walk_at "om")
  generalize fr H = H at *
  refine EX_cut (fun m H' => H' = H ∧ ∃ rx ry x y, Le [(Str.ofString "a", .ref rx), (Str.ofString "b", .ref ry), (Str.ofString "w", .int w)] m ∧ H rx = some ⟨false, false, iv (lim w x)⟩ ∧ H ry = some ⟨false, false, iv (lim w y)⟩ ∧ (lim w y).length ≤ (lim w x).length ∧ (lim w x).length ≤ 64 ∧ x + y = a + b) ?_ ?_
  · repeat' walk_at "mv"
    refine ⟨_, _, _, rfl, hra, by rw [iv_len]; walk_at "om", ?_⟩
    repeat' walk_at "mv"
    refine ⟨_, _, _, rfl, hrb, by rw [iv_len]; walk_at "om", ?_⟩
    rw [iv_len, iv_len]
    repeat' walk_at "mv"
    refine ⟨fun h => ?_, fun h => ?_⟩
    · have h := of_decide_eq_true h
      repeat' walk_at "mv"
      refine ⟨_, _, rfl, ?_⟩
      repeat' walk_at "mv"
      exact ⟨rfl, rb, ra, b, a, .of ⟨by with_unfolding_all rfl, by with_unfolding_all rfl, by with_unfolding_all rfl, trivial⟩, hrb, hra, by walk_at "om", nb, by walk_at "om"⟩
    · have h := of_decide_eq_false h
      repeat' walk_at "mv"
      exact ⟨rfl, ra, rb, a, b, .of ⟨by with_unfolding_all rfl, by with_unfolding_all rfl, by with_unfolding_all rfl, trivial⟩, hra, hrb, by walk_at "om", na, by walk_at "om"⟩
  · rintro m1 H1 ⟨rfl, rx, ry, x, y, hm, hx, hy, hxy, hn, hs⟩
    refine EX_weak ?_ hm
    clear hm hra hrb ha hb na nb
    have dx := lim_dg hw x
    have dy := lim_dg hw y
    have vx := lim_val hw x
    have vy := lim_val hw y
    have hB := B_pos w
    have hbig : lim w x = [] ∨ (2 ^ w : Int) ^ ((lim w x).length - 1) ≤ val (2 ^ w) (lim w x) := by
      by_cases x0 : x = 0
      · subst x0; left; exact lim_zero
      · right; rw [vx]; exact lim_big hw (by walk_at "om")
    rw [← hs]
    have hgoal : ∀ {zs : List Int}, Dg (2 ^ w) zs → val (2 ^ w) zs = (x : Int) + y → (zs = [] ∨ (2 ^ w : Int) ^ (zs.length - 1) ≤ val (2 ^ w) zs) → zs = lim w (x + y) := fun d v c => by
      have := lim_of hw d c
      rw [v] at this
      rwa [show ((x : Int) + y).toNat = x + y by walk_at "om"] at this
    generalize lim w x = X at *
    generalize lim w y = Y at *
    repeat' walk_at "mv"
    refine ⟨by simp, fun d hd => ?_⟩
    repeat' walk_at "mv"
    refine ⟨1, w, rfl, rfl, ⟨by walk_at "om", by decide⟩, ?_⟩
    rw [Int.one_mul]
    repeat' walk_at "mv"
    refine ⟨_, _, _, rfl, ?_⟩
    have hdx := ne_fresh hd hx
    have hdy := ne_fresh hd hy
    refine EX_cut (fun m H' => ∃ (c : Int) (fs : List Int), Le [(Str.ofString "a", .ref rx), (Str.ofString "b", .ref ry), (Str.ofString "w", .int w), (Str.ofString "mask", .int (2 ^ w - 1)), (Str.ofString "carry", .int c), (Str.ofString "found", .ref d)] m ∧
      H' = H1.set d ⟨true, false, iv fs⟩ ∧ Dg (2 ^ w) fs ∧ fs.length = Y.length ∧ (0 ≤ c ∧ c ≤ 1) ∧ val (2 ^ w) fs + (2 ^ w) ^ Y.length * c = val (2 ^ w) (X.take Y.length) + val (2 ^ w) Y) ?_ ?_
    · repeat' walk_at "mv"
      refine EX_range1 O hh (g_range _) ?_
      repeat' walk_at "mv"
      refine ⟨_, _, _, rfl, set_old hd hy, by rw [iv_len]; walk_at "om", ?_⟩
      rw [iv_len]
      repeat' walk_at "mv"
      refine ⟨Y.length, fun i m H' => ∃ (c : Int) (fs : List Int), Le [(Str.ofString "a", .ref rx), (Str.ofString "b", .ref ry), (Str.ofString "w", .int w), (Str.ofString "mask", .int (2 ^ w - 1)), (Str.ofString "carry", .int c), (Str.ofString "found", .ref d)] m ∧
        H' = H1.set d ⟨true, false, iv fs⟩ ∧ Dg (2 ^ w) fs ∧ fs.length = i ∧ (0 ≤ c ∧ c ≤ 1) ∧ val (2 ^ w) fs + (2 ^ w) ^ i * c = val (2 ^ w) (X.take i) + val (2 ^ w) (Y.take i), rfl, by walk_at "om", by walk_at "om",
        ⟨0, [], .of ⟨by with_unfolding_all rfl, by with_unfolding_all rfl, by with_unfolding_all rfl, by with_unfolding_all rfl, by with_unfolding_all rfl, by with_unfolding_all rfl, trivial⟩, rfl, .nil, rfl, by walk_at "om", by simp [val]⟩, ?_, ?_⟩
      · rintro i m H' hi ⟨c, fs, hm, rfl, hf, hl, hc, hv⟩
        have hi : i < Y.length := by walk_at "om"
        refine EX_weak ?_ (hm.put _ _)
        obtain ⟨p, ep⟩ : ∃ p, X[i]? = some p := ⟨_, List.getElem?_eq_getElem (by walk_at "om")⟩
        obtain ⟨q, eq⟩ : ∃ q, Y[i]? = some q := ⟨_, List.getElem?_eq_getElem (by walk_at "om")⟩
        obtain ⟨t1, t2, t3, t4⟩ := add_turn (xs := X) (ys := Y) hw hf hl hc (dx.get ep) (dy.get eq) hv (t := val (2 ^ w) (X.take (i + 1)) + val (2 ^ w) (Y.take (i + 1))) (by rw [val_take_succ X i ep, val_take_succ Y i eq, Int.mul_add]; walk_at "om")
        repeat' walk_at "mv"
        refine ⟨_, _, _, i, p, rfl, rfl, set_old hd hx, ⟨by walk_at "om", by walk_at "om"⟩, by simpa using ep, ?_⟩
        repeat' walk_at "mv"
        refine ⟨_, _, _, i, q, rfl, rfl, set_old hd hy, ⟨by walk_at "om", by walk_at "om"⟩, by simpa using eq, ?_⟩
        repeat' walk_at "mv"
        refine EX_append (by with_unfolding_all rfl) Hp.set_same ?_
        repeat' walk_at "mv"
        refine ⟨_, w, rfl, rfl, by have := dx.get ep; have := dy.get eq; walk_at "om", ?_⟩
        refine ⟨_, Hp.set_same, by rw [iv_len]; walk_at "om", ?_⟩
        rw [Hp.set_set, iv_snoc]
        repeat' walk_at "mv"
        exact ⟨_, _, .of ⟨by with_unfolding_all rfl, by with_unfolding_all rfl, by with_unfolding_all rfl, by with_unfolding_all rfl, by with_unfolding_all rfl, by with_unfolding_all rfl, trivial⟩, rfl, t1, t2, t3, t4⟩
      · rintro m H' ⟨c, fs, hm, rfl, hf, hl, hc, hv⟩
        simp only [Int.toNat_natCast] at hl hv
        rw [take_all (xs := Y) (Nat.le_refl _)] at hv
        exact ⟨c, fs, hm, rfl, hf, hl, hc, hv⟩
    · rintro m H' ⟨c, fs, hm, rfl, hf, hl, hc, hv⟩
      refine EX_weak ?_ hm
      refine EX_cut (fun m H' => ∃ (c : Int) (fs : List Int), Le [(Str.ofString "carry", .int c), (Str.ofString "found", .ref d)] m ∧
        H' = H1.set d ⟨true, false, iv fs⟩ ∧ Dg (2 ^ w) fs ∧ fs.length = X.length ∧ (0 ≤ c ∧ c ≤ 1) ∧ val (2 ^ w) fs + (2 ^ w) ^ X.length * c = val (2 ^ w) X + val (2 ^ w) Y) ?_ ?_
      · refine EX_range2 O hh (g_range _) ?_
        repeat' walk_at "mv"
        refine ⟨_, _, _, rfl, set_old hd hy, by rw [iv_len]; walk_at "om", ?_⟩
        rw [iv_len]
        repeat' walk_at "mv"
        refine ⟨_, _, _, rfl, set_old hd hx, by rw [iv_len]; walk_at "om", ?_⟩
        rw [iv_len]
        repeat' walk_at "mv"
        refine ⟨Y.length, X.length, fun i m H' => ∃ (c : Int) (fs : List Int), Le [(Str.ofString "a", .ref rx), (Str.ofString "b", .ref ry), (Str.ofString "w", .int w), (Str.ofString "mask", .int (2 ^ w - 1)), (Str.ofString "carry", .int c), (Str.ofString "found", .ref d)] m ∧
          H' = H1.set d ⟨true, false, iv fs⟩ ∧ Dg (2 ^ w) fs ∧ fs.length = Y.length + i ∧ (0 ≤ c ∧ c ≤ 1) ∧ val (2 ^ w) fs + (2 ^ w) ^ (Y.length + i) * c = val (2 ^ w) (X.take (Y.length + i)) + val (2 ^ w) Y, rfl, ⟨by walk_at "om", by walk_at "om", by walk_at "om", by walk_at "om"⟩,
          ⟨c, fs, .of ⟨by with_unfolding_all rfl, by with_unfolding_all rfl, by with_unfolding_all rfl, by with_unfolding_all rfl, by with_unfolding_all rfl, by with_unfolding_all rfl, trivial⟩, rfl, hf, by walk_at "om", by walk_at "om", hv⟩, ?_, ?_⟩
        · rintro i m H' hi ⟨c, fs, hm, rfl, hf, hl, hc, hv⟩
          have hi : Y.length + i < X.length := by walk_at "om"
          refine EX_weak ?_ (hm.put _ _)
          obtain ⟨p, ep⟩ : ∃ p, X[Y.length + i]? = some p := ⟨_, List.getElem?_eq_getElem hi⟩
          obtain ⟨t1, t2, t3, t4⟩ := add_turn (xs := X) (ys := Y) hw hf hl hc (dx.get ep) (y := 0) (by walk_at "om") hv (t := val (2 ^ w) (X.take (Y.length + i + 1)) + val (2 ^ w) Y) (by rw [val_take_succ X _ ep, Int.add_zero]; walk_at "om")
          rw [Int.add_zero] at t1 t2 t3 t4
          repeat' walk_at "mv"
          refine ⟨_, _, _, _, p, rfl, rfl, set_old hd hx, ⟨by walk_at "om", by walk_at "om"⟩, by rw [show ((Y.length : Int) + i).toNat = Y.length + i by walk_at "om"]; exact ep, ?_⟩
          repeat' walk_at "mv"
          refine EX_append (by with_unfolding_all rfl) Hp.set_same ?_
          repeat' walk_at "mv"
          refine ⟨_, w, rfl, rfl, by have := dx.get ep; walk_at "om", ?_⟩
          refine ⟨_, Hp.set_same, by rw [iv_len]; walk_at "om", ?_⟩
          rw [Hp.set_set, iv_snoc]
          repeat' walk_at "mv"
          exact ⟨_, _, .of ⟨by with_unfolding_all rfl, by with_unfolding_all rfl, by with_unfolding_all rfl, by with_unfolding_all rfl, by with_unfolding_all rfl, by with_unfolding_all rfl, trivial⟩, rfl, t1, t2, t3, t4⟩
        · rintro m H' ⟨c, fs, hm, rfl, hf, hl, hc, hv⟩
          have e1 : Y.length + ((X.length : Int) - Y.length).toNat = X.length := by walk_at "om"
          rw [e1] at hl hv
          rw [take_all (xs := X) (Nat.le_refl _)] at hv
          exact ⟨c, fs, hm.trans' ⟨by with_unfolding_all rfl, by with_unfolding_all rfl, trivial⟩, rfl, hf, hl, hc, hv⟩
      · rintro m H' ⟨c, fs, hm, rfl, hf, hl, hc, hv⟩
        refine EX_weak ?_ hm
        rw [vx, vy] at hv
        refine EX_cons (EX_if2 (fun b H' => H' = H1.set d ⟨true, false, iv fs⟩ ∧ b = decide (0 < c)) ?_ ?_ ?_)
        · repeat' walk_at "mv"
          exact ⟨rfl, rfl⟩
        · rintro H' ⟨rfl, hb⟩
          have hb := of_decide_eq_true hb.symm
          have hc1 : c = 1 := by walk_at "om"
          subst hc1
          repeat' walk_at "mv"
          refine EX_append (by with_unfolding_all rfl) Hp.set_same ?_
          repeat' walk_at "mv"
          refine ⟨_, Hp.set_same, by rw [iv_len]; walk_at "om", ?_⟩
          rw [Hp.set_set, iv_snoc]
          repeat' walk_at "mv"
          refine ⟨Sub.set hd, d, rfl, ?_⟩
          have hB1 := B_gt1 hw
          have hv' : val (2 ^ w) (fs ++ [1]) = (x : Int) + y := by rw [val_snoc, hl]; exact hv
          rw [← hgoal (hf.snoc (x := 1) (by walk_at "om")) hv' (.inr (by
            rw [val_snoc, List.length_append, List.length_singleton, Nat.add_sub_cancel, Int.mul_one]
            have := val_nonneg hB hf
            omega))]
          exact At.set
        · rintro H' ⟨rfl, hb⟩
          have hb := of_decide_eq_false hb.symm
          have hc1 : c = 0 := by walk_at "om"
          subst hc1
          repeat' walk_at "mv"
          refine ⟨Sub.set hd, d, rfl, ?_⟩
          rw [Int.mul_zero, Int.add_zero] at hv
          rw [← hgoal hf hv (by
            rcases hbig with h | h
            · left; rw [h] at hl; exact List.length_eq_zero_iff.mp hl
            · right; rw [hl, hv]; rw [vx] at h; walk_at "om")]
          exact At.set
end
section
open PySem PySem.W PySem.Calls PyProof.Rows

variable {e : Ev} {A : Around} {H : Hp}

theorem sub_turn {w i : Nat} {br x y : Int} {fs : List Int} (hf : Dg (2 ^ w) fs) (hl : fs.length = i) (hc : 0 ≤ br ∧ br ≤ 1) (hx : 0 ≤ x ∧ x < 2 ^ w) (hy : 0 ≤ y ∧ y < 2 ^ w)
    {s t : Int} (hv : val (2 ^ w) fs - (2 ^ w) ^ i * br = s) (ht : t = s + (2 ^ w) ^ i * (x - y)) :
    Dg (2 ^ w) (fs ++ [if x - br - y < 0 then x - br - y + 2 ^ w else x - br - y]) ∧ (fs ++ [if x - br - y < 0 then x - br - y + 2 ^ w else x - br - y]).length = i + 1 ∧ (0 ≤ (if x - br - y < 0 then (1 : Int) else 0) ∧ (if x - br - y < 0 then (1 : Int) else 0) ≤ 1) ∧
      val (2 ^ w) (fs ++ [if x - br - y < 0 then x - br - y + 2 ^ w else x - br - y]) - (2 ^ w) ^ (i + 1) * (if x - br - y < 0 then (1 : Int) else 0) = t := by
  have hB := B_pos w
  refine ⟨hf.snoc (by split <;> walk_at "om"), by simp [hl], by split <;> walk_at "om", ?_⟩
  rw [val_snoc, hl, Int.pow_succ, ht, ← hv]
  generalize (2 ^ w : Int) ^ i = P
  generalize (2 : Int) ^ w = B
  split
  · grind
  · grind

theorem ok_sub {w a b : Nat} (hw : 0 < w) (hw9 : w ≤ 64) (O : e.c.Ok) (hA : Rm A 2) {ra rb : Addr} (ha : At H ra false (iv (lim w a))) (hb : At H rb false (iv (lim w b))) (la : a < 2 ^ 60) (hba : b ≤ a) :
    PURE e.c A 79 [.ref ra, .ref rb, .int w] H (fun v H' => Num w H' v (a - b)) := by
  refine PURE_of (fun v H1 H2 h n => n.up h) ?_
  refine CALL_enter [Str.ofString "a", Str.ofString "b", Str.ofString "w"] O hA.room rfl rfl (fun us hl => ?_) rfl (by decide) (by decide) (by decide) (fun L => ?_)
  · obtain ⟨u, v, x, rfl⟩ := len3 hl; rfl
  have hra := fr_at ha
  have hrb := fr_at hb
  have hh := hA.h
  have na := len64 hw (n := a) (by walk_at "om")
  have nb := len64 hw (n := b) (by walk_at "om")
  have hlen := lim_len_mono hw hba
  generalize fr H = H at *
  refine EX_cons (EX_if2 (fun b' H1 => Sub H H1 ∧ b' = false) ?_ ?_ ?_)
  · repeat' walk_at "mv"
    refine ok_compare hw O hA.deeper ⟨_, hra⟩ ⟨_, hrb⟩ (by walk_at "om") (by walk_at "om") _ ?_
    rintro _ H1 hs rfl
    repeat' walk_at "mv"
    refine ⟨hs, decide_eq_false ?_⟩
    unfold cmpN
    split
    · walk_at "om"
    · split <;> walk_at "om"
  · rintro H1 ⟨_, h⟩; cases h
  · rintro H1 ⟨hs, _⟩
    have hra := hs _ _ hra
    have hrb := hs _ _ hrb
    have dx := lim_dg hw a
    have dy := lim_dg hw b
    have vx := lim_val hw a
    have vy := lim_val hw b
    have hB := B_pos w
    generalize lim w a = X at *
    generalize lim w b = Y at *
    repeat' walk_at "mv"
    refine ⟨by simp, fun d hd => ?_⟩
    repeat' walk_at "mv"
    refine ⟨1, w, rfl, rfl, ⟨by walk_at "om", by decide⟩, ?_⟩
    rw [Int.one_mul]
    repeat' walk_at "mv"
    refine ⟨_, _, _, rfl, ?_⟩
    refine EX_cut (fun m H' => ∃ (fs : List Int), Le [(Str.ofString "found", .ref d)] m ∧
      H' = H1.set d ⟨true, false, iv fs⟩ ∧ fs.length ≤ 64 ∧ Dg (2 ^ w) fs ∧ val (2 ^ w) fs = ((a - b : Nat) : Int)) ?_ ?_
    · repeat' walk_at "mv"
      refine EX_range1 O hh (g_range _) ?_
      repeat' walk_at "mv"
      refine ⟨_, _, _, rfl, set_old hd hra, by rw [iv_len]; walk_at "om", ?_⟩
      rw [iv_len]
      repeat' walk_at "mv"
      refine ⟨X.length, fun i m H' => ∃ (c : Int) (fs : List Int), Le [(Str.ofString "a", .ref ra), (Str.ofString "b", .ref rb), (Str.ofString "w", .int w), (Str.ofString "base", .int (2 ^ w)), (Str.ofString "borrow", .int c), (Str.ofString "found", .ref d)] m ∧
        H' = H1.set d ⟨true, false, iv fs⟩ ∧ Dg (2 ^ w) fs ∧ fs.length = i ∧ (0 ≤ c ∧ c ≤ 1) ∧ val (2 ^ w) fs - (2 ^ w) ^ i * c = val (2 ^ w) (X.take i) - val (2 ^ w) (Y.take i), rfl, by walk_at "om", by walk_at "om",
        ⟨0, [], .of ⟨by with_unfolding_all rfl, by with_unfolding_all rfl, by with_unfolding_all rfl, by with_unfolding_all rfl, by with_unfolding_all rfl, by with_unfolding_all rfl, trivial⟩, rfl, .nil, rfl, by walk_at "om", by simp [val]⟩, ?_, ?_⟩
      · rintro i m H' hi ⟨c, fs, hm, rfl, hf, hl, hc, hv⟩
        have hi : i < X.length := by walk_at "om"
        refine EX_weak ?_ (hm.put _ _)
        obtain ⟨p, ep⟩ : ∃ p, X[i]? = some p := ⟨_, List.getElem?_eq_getElem (by walk_at "om")⟩
        have hq := getD_dg hB dy i
        obtain ⟨t1, t2, t3, t4⟩ := sub_turn hf hl hc (dx.get ep) hq hv (t := val (2 ^ w) (X.take (i + 1)) - val (2 ^ w) (Y.take (i + 1))) (by rw [val_take_succ X i ep, val_take_getD Y i, Int.mul_sub]; walk_at "om")
        repeat' walk_at "mv"
        refine ⟨_, _, _, i, p, rfl, rfl, set_old hd hra, ⟨by walk_at "om", by walk_at "om"⟩, by simpa using ep, ?_⟩
        repeat' walk_at "mv"
        refine EV_post (fun v H2 => v = .int (Y.getD i 0) ∧ H2 = H1.set d ⟨true, false, iv fs⟩) ?_ ?_
        · refine EV_ifexp ?_
          repeat' walk_at "mv"
          refine ⟨_, _, _, rfl, set_old hd hrb, by rw [iv_len]; walk_at "om", ?_⟩
          rw [iv_len]
          repeat' walk_at "mv"
          refine ⟨fun h => ?_, fun h => ?_⟩
          · have h := of_decide_eq_true h
            repeat' walk_at "mv"
            exact ⟨_, _, _, i, _, rfl, rfl, set_old hd hrb, ⟨by walk_at "om", by walk_at "om"⟩, by simpa using getD_get (xs := Y) (i := i) (by walk_at "om"), rfl, rfl⟩
          · have h := of_decide_eq_false h
            repeat' walk_at "mv"
            exact ⟨by rw [getD_out (by walk_at "om")], rfl⟩
        · rintro _ _ ⟨rfl, rfl⟩
          generalize Y.getD i 0 = q at *
          repeat' walk_at "mv"
          refine EV_post (fun v H2 => v = .int (if p - c - q < 0 then (1 : Int) else 0) ∧ H2 = H1.set d ⟨true, false, iv fs⟩) ?_ ?_
          · refine EV_ifexp ?_
            repeat' walk_at "mv"
            refine ⟨fun h => ?_, fun h => ?_⟩
            · have h := of_decide_eq_true h
              repeat' walk_at "mv"
              exact ⟨by rw [if_pos h], rfl⟩
            · have h := of_decide_eq_false h
              repeat' walk_at "mv"
              exact ⟨by rw [if_neg h], rfl⟩
          · rintro _ _ ⟨rfl, rfl⟩
            repeat' walk_at "mv"
            refine EX_append (by with_unfolding_all rfl) Hp.set_same ?_
            refine EV_post (fun v H2 => v = .int (if p - c - q < 0 then p - c - q + 2 ^ w else p - c - q) ∧ H2 = H1.set d ⟨true, false, iv fs⟩) ?_ ?_
            · refine EV_ifexp ?_
              repeat' walk_at "mv"
              refine ⟨fun h => ?_, fun h => ?_⟩
              · have h := of_decide_eq_true h
                repeat' walk_at "mv"
                exact ⟨by rw [if_pos h], rfl⟩
              · have h := of_decide_eq_false h
                repeat' walk_at "mv"
                exact ⟨by rw [if_neg h], rfl⟩
            · rintro _ _ ⟨rfl, rfl⟩
              refine ⟨_, Hp.set_same, by rw [iv_len]; walk_at "om", ?_⟩
              rw [Hp.set_set, iv_snoc]
              repeat' walk_at "mv"
              exact ⟨_, _, .of ⟨by with_unfolding_all rfl, by with_unfolding_all rfl, by with_unfolding_all rfl, by with_unfolding_all rfl, by with_unfolding_all rfl, by with_unfolding_all rfl, trivial⟩, rfl, t1, t2, t3, t4⟩
      · rintro m H' ⟨c, fs, hm, rfl, hf, hl, hc, hv⟩
        simp only [Int.toNat_natCast] at hl hv
        rw [take_all (xs := X) (Nat.le_refl _), take_all hlen, vx, vy] at hv
        refine ⟨fs, hm.trans' ⟨by with_unfolding_all rfl, trivial⟩, rfl, by walk_at "om", hf, ?_⟩
        have h1 := val_lt' hf
        rw [hl] at h1
        have : c = 0 := by
          rcases (by walk_at "om" : c = 0 ∨ c = 1) with h | h
          · exact h
          · subst h; walk_at "om"
        subst this
        walk_at "om"
    · rintro m H' ⟨fs, hm, rfl, hn, hf, hv⟩
      refine EX_weak ?_ hm
      repeat' walk_at "mv"
      refine ok_normal O hA.deeper ⟨true, Hp.set_same⟩ (by walk_at "om") _ ?_
      rintro _ H2 hs2 ⟨d2, rfl, a2⟩
      refine ⟨(hs.trans (Sub.set hd)).trans hs2, d2, rfl, ?_⟩
      rw [trim_lim hw hf, hv, Int.toNat_natCast] at a2
      exact a2
end
section
open PySem PySem.W PySem.Calls PyProof.Rows

variable {e : Ev} {A : Around} {H : Hp}

theorem drop_set {xs : List Int} {k : Nat} {q : Int} (h : k < xs.length) : (xs.set k q).drop k = q :: xs.drop (k + 1) := by
  have h2 : k < (xs.set k q).length := by simpa using h
  rw [List.drop_eq_getElem_cons h2, List.getElem_set_self]
  congr 1
  rw [List.drop_set_of_lt (by walk_at "om")]

theorem limb_turn {w k : Nat} {r x l : Int} {fs xs : List Int} (hl : 0 < l ∧ l < 2 ^ w) (hr : 0 ≤ r ∧ r < l) (hx : 0 ≤ x ∧ x < 2 ^ w) (hf : Dg (2 ^ w) fs) (hk : k < fs.length)
    (ex : xs[k]? = some x) (hv : val (2 ^ w) (xs.drop (k + 1)) = l * val (2 ^ w) (fs.drop (k + 1)) + r) :
    Dg (2 ^ w) (fs.set k ((r * 2 ^ w + x) / l)) ∧ (0 ≤ (r * 2 ^ w + x) % l ∧ (r * 2 ^ w + x) % l < l) ∧ val (2 ^ w) (xs.drop k) = l * val (2 ^ w) ((fs.set k ((r * 2 ^ w + x) / l)).drop k) + (r * 2 ^ w + x) % l := by
  have hB := B_pos w
  refine ⟨hf.set ⟨div_nn hl.1 ?_, Int.ediv_lt_of_lt_mul hl.1 ?_⟩, mod_dg hl.1, ?_⟩
  · have := Int.mul_nonneg hr.1 (Int.le_of_lt hB); walk_at "om"
  · have h1 : (r + 1) * 2 ^ w ≤ l * 2 ^ w := Int.mul_le_mul_of_nonneg_right (by walk_at "om") (Int.le_of_lt hB)
    rw [Int.add_mul, Int.one_mul] at h1
    rw [Int.mul_comm (2 ^ w : Int) l]; walk_at "om"
  · rw [val_drop_pred xs k ex, hv, drop_set hk, val_cons]
    have := Int.emod_add_mul_ediv (r * 2 ^ w + x) l
    generalize (r * 2 ^ w + x) / l = q at *
    generalize (r * 2 ^ w + x) % l = t at *
    generalize val (2 ^ w) (fs.drop (k + 1)) = D at *
    generalize (2 : Int) ^ w = B at *
    grind

theorem ok_divrem_limb {w a l : Nat} (hw : 0 < w) (hw9 : w ≤ 29) (O : e.c.Ok) (hA : Rm A 2) {ra : Addr} (ha : At H ra false (iv (lim w a))) (la : a < 2 ^ 60) (hl0 : 0 < l) (hl1 : l < 2 ^ w) :
    PURE e.c A 86 [.ref ra, .int l, .int w] H (fun v H' => ∃ t q, v = .ref t ∧ At H' t true [q, .int ((a % l : Nat) : Int)] ∧ Num w H' q (a / l)) := by
  refine PURE_of (by rintro v H1 H2 h ⟨t, q, e1, e2, n⟩; exact ⟨t, q, e1, h _ _ _ e2, n.up h⟩) ?_
  refine CALL_enter [Str.ofString "a", Str.ofString "limb", Str.ofString "w"] O hA.room rfl rfl (fun us hl => ?_) rfl (by decide) (by decide) (by decide) (fun L => ?_)
  · obtain ⟨u, v, x, rfl⟩ := len3 hl; rfl
  have hra := fr_at ha
  have hh := hA.h
  have na := len64 hw (n := a) (by walk_at "om")
  generalize fr H = H at *
  have dx := lim_dg hw a
  have vx := lim_val hw a
  have hB := B_pos w
  have hlI : (0 : Int) < l ∧ (l : Int) < 2 ^ w := ⟨by walk_at "om", by rw [pow_cast]; exact Int.ofNat_lt.mpr hl1⟩
  have hl30 : l < 1073741824 := Nat.lt_of_lt_of_le hl1 (Nat.pow_le_pow_right (by decide) (by walk_at "om") : 2 ^ w ≤ 2 ^ 30)
  generalize lim w a = X at *
  refine EX_cons (EX_if2 (fun b' H1 => H1 = H ∧ b' = false) ?_ ?_ ?_)
  · repeat' walk_at "mv"
    exact ⟨rfl, by simp; walk_at "om"⟩
  · rintro H1 ⟨_, h⟩; cases h
  · rintro H1 ⟨rfl, _⟩
    repeat' walk_at "mv"
    refine ⟨by simp, fun z hz => ?_⟩
    repeat' walk_at "mv"
    refine ⟨_, _, _, rfl, set_old hz hra, by rw [iv_len]; walk_at "om", ?_⟩
    rw [iv_len]
    refine ⟨z, .int 0, X.length, rfl, rfl, Hp.set_same, by walk_at "om", fun d hd => ?_⟩
    have sz : Sub H1 (H1.set z ⟨true, false, [.int 0]⟩) := Sub.set hz
    have hra := sz _ _ hra
    generalize H1.set z ⟨true, false, [.int 0]⟩ = H2 at *
    rw [iv_rep]
    repeat' walk_at "mv"
    refine ⟨_, _, rfl, ?_⟩
    refine EX_cut (fun m H' => ∃ (fs : List Int), Le [(Str.ofString "rest", .int ((a % l : Nat) : Int)), (Str.ofString "found", .ref d)] m ∧
      H' = H2.set d ⟨true, false, iv fs⟩ ∧ fs.length ≤ 64 ∧ Dg (2 ^ w) fs ∧ val (2 ^ w) fs = ((a / l : Nat) : Int)) ?_ ?_
    · refine EX_range3 O hh (g_range _) ?_
      repeat' walk_at "mv"
      refine ⟨_, _, _, rfl, set_old hd hra, by rw [iv_len]; walk_at "om", ?_⟩
      rw [iv_len]
      repeat' walk_at "mv"
      refine ⟨X.length - 1, -1, fun i m H' => ∃ (r : Int) (fs : List Int), Le [(Str.ofString "a", .ref ra), (Str.ofString "limb", .int l), (Str.ofString "w", .int w), (Str.ofString "rest", .int r), (Str.ofString "found", .ref d)] m ∧
        H' = H2.set d ⟨true, false, iv fs⟩ ∧ Dg (2 ^ w) fs ∧ fs.length = X.length ∧ (0 ≤ r ∧ r < l) ∧ val (2 ^ w) (X.drop (X.length - i)) = l * val (2 ^ w) (fs.drop (X.length - i)) + r, by simp, ⟨by walk_at "om", by walk_at "om", by walk_at "om", by walk_at "om"⟩,
        ⟨0, List.replicate X.length 0, .of ⟨by with_unfolding_all rfl, by with_unfolding_all rfl, by with_unfolding_all rfl, by with_unfolding_all rfl, by with_unfolding_all rfl, trivial⟩, by simp, .rep hB _, by simp, by walk_at "om", by simp [val]⟩, ?_, ?_⟩
      · rintro i m H' hi ⟨r, fs, hm, rfl, hf, hl, hr, hv⟩
        have hi : i < X.length := by walk_at "om"
        refine EX_weak ?_ (hm.put _ _)
        obtain ⟨p, ep⟩ : ∃ p, X[X.length - (i + 1)]? = some p := ⟨_, List.getElem?_eq_getElem (by walk_at "om")⟩
        have e1 : X.length - i = X.length - (i + 1) + 1 := by walk_at "om"
        rw [e1] at hv
        obtain ⟨t1, t2, t3⟩ := limb_turn hlI hr (dx.get ep) hf (by walk_at "om") ep hv
        have e2 : ((X.length : Int) - 1 - i) = ((X.length - (i + 1) : Nat) : Int) := by walk_at "om"
        rw [e2]
        repeat' walk_at "mv"
        have hb30 : r.natAbs < 2 ^ 64 := by walk_at "om"
        refine ⟨_, w, rfl, rfl, ⟨by walk_at "om", hb30⟩, ?_⟩
        repeat' walk_at "mv"
        refine ⟨_, _, _, _, p, rfl, rfl, set_old hd hra, ⟨by walk_at "om", by walk_at "om"⟩, by simpa using ep, ?_⟩
        refine ⟨_, _, _, rfl, rfl, shift_or hr.1 (dx.get ep).1 (dx.get ep).2, ?_⟩
        repeat' walk_at "mv"
        refine EX_setitem ?_
        repeat' walk_at "mv"
        refine ⟨_, _, rfl, rfl, ⟨by walk_at "om", by walk_at "om"⟩, ?_⟩
        repeat' walk_at "mv"
        refine ⟨_, _, _, rfl, rfl, Hp.set_same, ⟨by walk_at "om", by rw [iv_len]; walk_at "om", by walk_at "om"⟩, ?_⟩
        rw [Hp.set_set, iv_set, Int.toNat_natCast]
        repeat' walk_at "mv"
        refine ⟨_, rfl, by walk_at "om", ?_⟩
        repeat' walk_at "mv"
        exact ⟨_, _, .of ⟨by with_unfolding_all rfl, by with_unfolding_all rfl, by with_unfolding_all rfl, by with_unfolding_all rfl, by with_unfolding_all rfl, trivial⟩, rfl, t1, by simpa using hl, t2, t3⟩
      · rintro m H' ⟨r, fs, hm, rfl, hf, hl, hr, hv⟩
        have e1 : X.length - ((X.length : Int) - 1 - -1).toNat = 0 := by walk_at "om"
        rw [e1] at hv
        simp only [List.drop_zero] at hv
        rw [vx] at hv
        have h0 := val_nonneg hB hf
        obtain ⟨v, ev⟩ := Int.eq_ofNat_of_zero_le h0
        obtain ⟨s, es⟩ := Int.eq_ofNat_of_zero_le hr.1
        rw [ev, es] at hv
        have hs : s < l := by walk_at "om"
        have hv' : a = l * v + s := by
          have : ((a : Nat) : Int) = ((l * v + s : Nat) : Int) := by rw [hv]; simp
          exact Int.ofNat.inj this
        have q1 : a / l = v := by rw [hv', Nat.mul_add_div hl0, Nat.div_eq_of_lt hs]; simp
        have q2 : a % l = s := by rw [hv', Nat.mul_add_mod, Nat.mod_eq_of_lt hs]
        refine ⟨fs, ?_, rfl, by walk_at "om", hf, by rw [ev, q1]⟩
        rw [q2]
        have : ((s : Nat) : Int) = r := es.symm
        rw [this]
        exact hm.trans' ⟨by with_unfolding_all rfl, by with_unfolding_all rfl, trivial⟩
    · rintro m H' ⟨fs, hm, rfl, hn, hf, hv⟩
      refine EX_weak ?_ hm
      repeat' walk_at "mv"
      refine ok_normal O hA.deeper ⟨true, Hp.set_same⟩ (by walk_at "om") _ ?_
      rintro _ H3 hs2 ⟨d2, rfl, a2⟩
      repeat' walk_at "mv"
      refine ⟨by simp, fun t ht => ⟨((sz.trans (Sub.set hd)).trans hs2).trans (Sub.set ht), t, .ref d2, rfl, At.set, d2, rfl, ?_⟩⟩
      rw [trim_lim hw hf, hv, Int.toNat_natCast] at a2
      exact a2.old ht
end
section
open PySem PySem.W PySem.Calls PyProof.Rows

variable {e : Ev} {A : Around} {H : Hp}

theorem pow_add_int {w a b : Nat} : (2 ^ w : Int) ^ (a + b) = (2 ^ w : Int) ^ a * (2 ^ w : Int) ^ b := Int.pow_add _ _ _
theorem pow_split {w n : Nat} : (2 : Int) ^ n = (2 ^ w : Int) ^ (n / w) * 2 ^ (n % w) := by
  rw [← Int.pow_mul, ← Int.pow_add, Nat.div_add_mod]

theorem shl_turn {w k j : Nat} {c x : Int} {fs : List Int} (hf : Dg (2 ^ w) fs) (hl : fs.length = j) (hc : 0 ≤ c ∧ c < 2 ^ k) (hx : 0 ≤ x ∧ x < 2 ^ w)
    {s t : Int} (hv : val (2 ^ w) fs + (2 ^ w) ^ j * c = s) (ht : t = s + (2 ^ w) ^ j * (x * 2 ^ k)) :
    Dg (2 ^ w) (fs ++ [(x * 2 ^ k + c) % 2 ^ w]) ∧ (fs ++ [(x * 2 ^ k + c) % 2 ^ w]).length = j + 1 ∧ (0 ≤ (x * 2 ^ k + c) / 2 ^ w ∧ (x * 2 ^ k + c) / 2 ^ w < 2 ^ k) ∧
      val (2 ^ w) (fs ++ [(x * 2 ^ k + c) % 2 ^ w]) + (2 ^ w) ^ (j + 1) * ((x * 2 ^ k + c) / 2 ^ w) = t := by
  have hB := B_pos w
  have hK := B_pos k
  have h1 := Int.mul_nonneg hx.1 (Int.le_of_lt hK)
  refine ⟨hf.snoc (mod_dg hB), by simp [hl], ⟨div_nn hB (by walk_at "om"), Int.ediv_lt_of_lt_mul hB ?_⟩, ?_⟩
  · have h2 : (x + 1) * 2 ^ k ≤ 2 ^ w * 2 ^ k := Int.mul_le_mul_of_nonneg_right (by walk_at "om") (Int.le_of_lt hK)
    rw [Int.add_mul, Int.one_mul] at h2
    have e : (2 ^ k : Int) * 2 ^ w = 2 ^ w * 2 ^ k := Int.mul_comm _ _
    walk_at "om"
  · rw [val_snoc, hl, Int.pow_succ, Int.add_assoc, dig_step, ht, ← hv, Int.mul_add]
    walk_at "om"

theorem ok_shift_left {w a n : Nat} (hw : 0 < w) (hw9 : w ≤ 29) (O : e.c.Ok) (hA : Rm A 1) {ra : Addr} (ha : At H ra false (iv (lim w a))) (la : a < 2 ^ 60) (hn : n ≤ 64) :
    PURE e.c A 93 [.ref ra, .int n, .int w] H (fun v H' => Num w H' v (a * 2 ^ n)) := by
  refine PURE_of (fun v H1 H2 h n => n.up h) ?_
  refine CALL_enter [Str.ofString "a", Str.ofString "n", Str.ofString "w"] O hA.room rfl rfl (fun us hl => ?_) rfl (by decide) (by decide) (by decide) (fun L => ?_)
  · obtain ⟨u, v, x, rfl⟩ := len3 hl; rfl
  have hra := fr_at ha
  have hh := hA.h
  have na := len64 hw (n := a) (by walk_at "om")
  generalize fr H = H at *
  have dx := lim_dg hw a
  have vx := lim_val hw a
  have hB := B_pos w
  refine EX_cons (EX_if2 (fun b' H1 => H1 = H ∧ b' = decide (a = 0)) ?_ ?_ ?_)
  · repeat' walk_at "mv"
    refine ⟨_, _, _, rfl, hra, by rw [iv_len]; walk_at "om", ?_⟩
    rw [iv_len]
    repeat' walk_at "mv"
    refine ⟨rfl, ?_⟩
    have := lim_nil_iff (n := a) hw
    by_cases a0 : a = 0
    · simp [a0, lim_zero]
    · have h1 : lim w a ≠ [] := fun q => a0 (this.mp q)
      simp [a0, h1]
  · rintro H1 ⟨rfl, h⟩
    have a0 := of_decide_eq_true h.symm
    repeat' walk_at "mv"
    refine ⟨by simp, fun d hd => ⟨Sub.set hd, d, rfl, ?_⟩⟩
    rw [a0, Nat.zero_mul, lim_zero]
    exact At.set
  · rintro H1 ⟨rfl, h⟩
    have a0 := of_decide_eq_false h.symm
    have hbig : (2 ^ w : Int) ^ ((lim w a).length - 1) ≤ a := lim_big hw (by walk_at "om")
    have hlen : 0 < (lim w a).length := by
      rcases Nat.eq_zero_or_pos (lim w a).length with h | h
      · exact absurd ((lim_nil_iff hw).mp (List.length_eq_zero_iff.mp h)) a0
      · exact h
    have hps := pow_split (w := w) (n := n)
    have hfew : n % w < w := Nat.mod_lt _ hw
    have hsp : n / w ≤ 64 := Nat.le_trans (Nat.div_le_self _ _) hn
    have hgoal : ∀ {zs : List Int}, Dg (2 ^ w) zs → val (2 ^ w) zs = (a : Int) * 2 ^ n → (zs = [] ∨ (2 ^ w : Int) ^ (zs.length - 1) ≤ val (2 ^ w) zs) → zs = lim w (a * 2 ^ n) := fun d v c => by
      have := lim_of hw d c
      rw [v] at this
      rwa [show ((a : Int) * 2 ^ n).toNat = a * 2 ^ n by rw [pow_cast, ← Int.natCast_mul]; exact Int.toNat_natCast _] at this
    generalize lim w a = X at *
    generalize hS : n / w = S at *
    generalize hF : n % w = F at *
    repeat' walk_at "mv"
    refine ⟨_, _, rfl, rfl, ⟨by walk_at "om", by walk_at "om"⟩, ?_⟩
    repeat' walk_at "mv"
    refine ⟨_, _, rfl, rfl, by walk_at "om", ?_⟩
    rw [show ((n : Int) / (w : Int)) = (S : Int) by rw [← hS]; simp, show ((n : Int) % (w : Int)) = (F : Int) by rw [← hF]; simp]
    repeat' walk_at "mv"
    refine ⟨_, _, rfl, ?_⟩
    repeat' walk_at "mv"
    refine ⟨by simp, fun z hz => ?_⟩
    repeat' walk_at "mv"
    refine ⟨z, .int 0, S, rfl, rfl, Hp.set_same, by walk_at "om", fun d hd => ?_⟩
    have sz : Sub H1 (H1.set z ⟨true, false, [.int 0]⟩) := Sub.set hz
    have hra := sz _ _ hra
    generalize H1.set z ⟨true, false, [.int 0]⟩ = H2 at *
    rw [iv_rep]
    repeat' walk_at "mv"
    refine ⟨1, w, rfl, rfl, ⟨by walk_at "om", by decide⟩, ?_⟩
    rw [Int.one_mul]
    repeat' walk_at "mv"
    refine ⟨_, _, _, rfl, ?_⟩
    refine EX_cut (fun m H' => ∃ (c : Int) (fs : List Int), Le [(Str.ofString "carry", .int c), (Str.ofString "found", .ref d)] m ∧
      H' = H2.set d ⟨true, false, iv fs⟩ ∧ Dg (2 ^ w) fs ∧ fs.length = S + X.length ∧ (0 ≤ c ∧ c < 2 ^ F) ∧ val (2 ^ w) fs + (2 ^ w) ^ (S + X.length) * c = a * 2 ^ n) ?_ ?_
    · refine EX_forlist hh ?_
      repeat' walk_at "mv"
      refine ⟨ra, iv X, fun i m H' => ∃ (c : Int) (fs : List Int), Le [(Str.ofString "w", .int w), (Str.ofString "few", .int F), (Str.ofString "mask", .int (2 ^ w - 1)), (Str.ofString "carry", .int c), (Str.ofString "found", .ref d)] m ∧
        H' = H2.set d ⟨true, false, iv fs⟩ ∧ Dg (2 ^ w) fs ∧ fs.length = S + i ∧ (0 ≤ c ∧ c < 2 ^ F) ∧ val (2 ^ w) fs + (2 ^ w) ^ (S + i) * c = (2 ^ w) ^ S * (2 ^ F * val (2 ^ w) (X.take i)), rfl, set_old hd hra,
        ⟨0, List.replicate S 0, .of ⟨by with_unfolding_all rfl, by with_unfolding_all rfl, by with_unfolding_all rfl, by with_unfolding_all rfl, by with_unfolding_all rfl, trivial⟩, by simp, .rep hB _, by simp, ⟨by walk_at "om", B_pos F⟩, by simp [val, val_rep]⟩, ?_, ?_⟩
      · rintro i m H' v hv0 ⟨c, fs, hm, rfl, hf, hl, hc, hv⟩
        obtain ⟨p, ep, rfl⟩ := iv_get_inv hv0
        have hi : i < X.length := by
          rcases Nat.lt_or_ge i X.length with h1 | h1
          · exact h1
          · rw [List.getElem?_eq_none h1] at ep; cases ep
        refine EX_weak ?_ (hm.put _ _)
        obtain ⟨t1, t2, t3, t4⟩ := shl_turn hf hl hc (dx.get ep) hv (t := (2 ^ w) ^ S * (2 ^ F * val (2 ^ w) (X.take (i + 1)))) (by
          rw [val_take_succ X i ep, pow_add_int]
          generalize (2 ^ w : Int) ^ S = PS
          generalize (2 ^ w : Int) ^ i = PI
          generalize (2 : Int) ^ F = PF
          grind)
        have hp := dx.get ep
        have hB29 : (2 ^ w : Int) ≤ 2 ^ 29 := by
          rw [pow_cast]; exact Int.ofNat_le.mpr (Nat.pow_le_pow_right (by decide) hw9)
        repeat' walk_at "mv"
        refine ⟨_, F, rfl, rfl, ⟨by walk_at "om", by walk_at "om"⟩, ?_⟩
        refine ⟨_, _, rfl, (bitOr_comm _ _).trans (shift_or hp.1 hc.1 hc.2), ?_⟩
        repeat' walk_at "mv"
        refine EX_append (by with_unfolding_all rfl) Hp.set_same ?_
        repeat' walk_at "mv"
        have hnn : 0 ≤ p * 2 ^ F + c := by have := Int.mul_nonneg hp.1 (Int.le_of_lt (B_pos F)); walk_at "om"
        refine ⟨_, w, rfl, rfl, hnn, ?_⟩
        refine ⟨_, Hp.set_same, by rw [iv_len]; walk_at "om", ?_⟩
        rw [Hp.set_set, iv_snoc]
        repeat' walk_at "mv"
        exact ⟨_, _, .of ⟨by with_unfolding_all rfl, by with_unfolding_all rfl, by with_unfolding_all rfl, by with_unfolding_all rfl, by with_unfolding_all rfl, trivial⟩, rfl, t1, t2, t3, t4⟩
      · rintro m H' ⟨c, fs, hm, rfl, hf, hl, hc, hv⟩
        rw [iv_len] at hl hv
        rw [take_all (xs := X) (Nat.le_refl _), vx] at hv
        refine ⟨c, fs, hm.trans' ⟨by with_unfolding_all rfl, by with_unfolding_all rfl, trivial⟩, rfl, hf, hl, hc, ?_⟩
        rw [hv, hps, ← Int.mul_assoc, Int.mul_comm]
    · rintro m H' ⟨c, fs, hm, rfl, hf, hl, hc, hv⟩
      refine EX_weak ?_ hm
      refine EX_cons (EX_if2 (fun b H' => H' = H2.set d ⟨true, false, iv fs⟩ ∧ b = decide (0 < c)) ?_ ?_ ?_)
      · repeat' walk_at "mv"
        exact ⟨rfl, rfl⟩
      · rintro H' ⟨rfl, hb⟩
        have hb := of_decide_eq_true hb.symm
        repeat' walk_at "mv"
        refine EX_append (by with_unfolding_all rfl) Hp.set_same ?_
        repeat' walk_at "mv"
        refine ⟨_, Hp.set_same, by rw [iv_len]; walk_at "om", ?_⟩
        rw [Hp.set_set, iv_snoc]
        repeat' walk_at "mv"
        refine ⟨sz.trans (Sub.set hd), d, rfl, ?_⟩
        have hFw : (2 ^ F : Int) ≤ 2 ^ w := by
          rw [pow_cast, pow_cast]; exact Int.ofNat_le.mpr (Nat.pow_le_pow_right (by decide) (by walk_at "om"))
        have hv' : val (2 ^ w) (fs ++ [c]) = (a : Int) * 2 ^ n := by rw [val_snoc, hl]; exact hv
        rw [← hgoal (hf.snoc (x := c) (by walk_at "om")) hv' (.inr (by
          rw [val_snoc, List.length_append, List.length_singleton, Nat.add_sub_cancel]
          have h0 := val_nonneg hB hf
          have h1 : (2 ^ w : Int) ^ fs.length * 1 ≤ (2 ^ w : Int) ^ fs.length * c := Int.mul_le_mul_of_nonneg_left (by walk_at "om") (Int.le_of_lt (Int.pow_pos hB))
          omega))]
        exact At.set
      · rintro H' ⟨rfl, hb⟩
        have hb := of_decide_eq_false hb.symm
        have hc1 : c = 0 := by walk_at "om"
        subst hc1
        repeat' walk_at "mv"
        refine ⟨sz.trans (Sub.set hd), d, rfl, ?_⟩
        rw [Int.mul_zero, Int.add_zero] at hv
        rw [← hgoal hf hv (.inr (by
          rw [hl, hv, hps, show S + X.length - 1 = S + (X.length - 1) by walk_at "om", pow_add_int, ← Int.mul_assoc, Int.mul_comm (a : Int)]
          have h1 : (2 ^ w : Int) ^ S * (2 ^ w : Int) ^ (X.length - 1) ≤ (2 ^ w : Int) ^ S * a := Int.mul_le_mul_of_nonneg_left hbig (Int.le_of_lt (Int.pow_pos hB))
          have h2 : (2 ^ w : Int) ^ S * a * 1 ≤ (2 ^ w : Int) ^ S * a * 2 ^ F := Int.mul_le_mul_of_nonneg_left (by have := B_pos F; walk_at "om") (Int.mul_nonneg (Int.le_of_lt (Int.pow_pos hB)) (by walk_at "om"))
          omega))]
        exact At.set
end
section
open PySem PySem.W PySem.Calls PyProof.Rows

variable {e : Ev} {A : Around} {H : Hp}

/-- the limbs from a place on -/
theorem val_drop_div {w a S : Nat} (hw : 0 < w) : val (2 ^ w) ((lim w a).drop S) = ((a / 2 ^ (w * S) : Nat) : Int) := by
  have vx := lim_val hw a
  have dx := lim_dg hw a
  have hB := B_pos w
  have hp : ((2 ^ (w * S) : Nat) : Int) = (2 ^ w : Int) ^ S := by rw [pow_cast, ← Int.natCast_pow, Nat.pow_mul]
  rcases Nat.lt_or_ge (lim w a).length S with h | h
  · rw [List.drop_of_length_le (by walk_at "om")]
    have h1 := lim_lt hw a
    have h2 := pow_mono_int (w := w) (a := (lim w a).length) (b := S) (by walk_at "om")
    rw [Nat.div_eq_of_lt (by have : (a : Int) < ((2 ^ (w * S) : Nat) : Int) := by rw [hp]; walk_at "om"
                             exact Int.ofNat_lt.mp this)]
    rfl
  · have h1 := val_take_drop (B := 2 ^ w) (lim w a) S h
    have h2 := val_lt hB (dx.take S)
    rw [List.length_take, Nat.min_eq_left h] at h2
    have h3 := val_nonneg hB (dx.take S)
    rw [vx] at h1
    rw [Int.natCast_ediv, hp, h1, Int.mul_comm, Int.add_mul_ediv_right _ _ (Int.ne_of_gt (Int.pow_pos hB)), Int.ediv_eq_zero_of_lt h3 h2]
    simp
theorem val_take_mod {w a S : Nat} (hw : 0 < w) : val (2 ^ w) ((lim w a).take S) = ((a % 2 ^ (w * S) : Nat) : Int) := by
  have vx := lim_val hw a
  have hp : ((2 ^ (w * S) : Nat) : Int) = (2 ^ w : Int) ^ S := by rw [pow_cast, ← Int.natCast_pow, Nat.pow_mul]
  rcases Nat.lt_or_ge (lim w a).length S with h | h
  · rw [List.take_of_length_le (by walk_at "om"), vx]
    have h1 := lim_lt hw a
    have h2 := pow_mono_int (w := w) (a := (lim w a).length) (b := S) (by walk_at "om")
    rw [Nat.mod_eq_of_lt (by have : (a : Int) < ((2 ^ (w * S) : Nat) : Int) := by rw [hp]; walk_at "om"
                             exact Int.ofNat_lt.mp this)]
  · have h1 := val_take_drop (B := 2 ^ w) (lim w a) S h
    rw [vx, val_drop_div hw] at h1
    have h2 := Nat.mod_add_div a (2 ^ (w * S))
    have h3 : ((a % 2 ^ (w * S) : Nat) : Int) + ((2 ^ (w * S) : Nat) : Int) * ((a / 2 ^ (w * S) : Nat) : Int) = a := by
      rw [← Int.natCast_mul, ← Int.natCast_add, h2]
    rw [hp] at h3
    walk_at "om"

theorem split_pow {w F : Nat} (h : F ≤ w) : (2 : Int) ^ w = 2 ^ F * 2 ^ (w - F) := by rw [← Int.pow_add]; congr 1; walk_at "om"

theorem shr_turn {w F i : Nat} {x y c0 : Int} {fs : List Int} (hF : F < w) (hf : Dg (2 ^ w) fs) (hl : fs.length = i) (hx : 0 ≤ x ∧ x < 2 ^ w) (hy : 0 ≤ y ∧ y < 2 ^ w)
    {s t : Int} (hv : 2 ^ F * val (2 ^ w) fs + c0 = s + (2 ^ w) ^ i * (x % 2 ^ F)) (ht : t = s + (2 ^ w) ^ i * x) :
    Builtin.bitOr (x / 2 ^ F) (y * 2 ^ (w - F)) = y * 2 ^ (w - F) + x / 2 ^ F ∧ Dg (2 ^ w) (fs ++ [(y * 2 ^ (w - F) + x / 2 ^ F) % 2 ^ w]) ∧ (fs ++ [(y * 2 ^ (w - F) + x / 2 ^ F) % 2 ^ w]).length = i + 1 ∧
      2 ^ F * val (2 ^ w) (fs ++ [(y * 2 ^ (w - F) + x / 2 ^ F) % 2 ^ w]) + c0 = t + (2 ^ w) ^ (i + 1) * (y % 2 ^ F) := by
  have hB := B_pos w
  have hK := B_pos F
  have hG := B_pos (w - F)
  have e1 := split_pow (Nat.le_of_lt hF)
  have hq : 0 ≤ x / 2 ^ F ∧ x / 2 ^ F < 2 ^ (w - F) := ⟨div_nn hK hx.1, Int.ediv_lt_of_lt_mul hK (by rw [Int.mul_comm, ← e1]; exact hx.2)⟩
  refine ⟨(bitOr_comm _ _).trans (shift_or hy.1 hq.1 hq.2), hf.snoc (mod_dg hB), by simp [hl], ?_⟩
  have hm : (y * 2 ^ (w - F) + x / 2 ^ F) % 2 ^ w = (y % 2 ^ F) * 2 ^ (w - F) + x / 2 ^ F := by
    have h1 : y * 2 ^ (w - F) + x / 2 ^ F = (y % 2 ^ F) * 2 ^ (w - F) + x / 2 ^ F + 2 ^ w * (y / 2 ^ F) := by
      have := Int.emod_add_mul_ediv y (2 ^ F)
      rw [e1]
      generalize y / 2 ^ F = q at *
      generalize y % 2 ^ F = r at *
      rw [← this]
      grind
    rw [h1, Int.add_mul_emod_self_left]
    have h2 : (y % 2 ^ F + 1) * 2 ^ (w - F) ≤ 2 ^ F * 2 ^ (w - F) := Int.mul_le_mul_of_nonneg_right (by have := Int.emod_lt_of_pos y hK; walk_at "om") (Int.le_of_lt hG)
    rw [Int.add_mul, Int.one_mul, ← e1] at h2
    have h3 := Int.mul_nonneg (Int.emod_nonneg y (by walk_at "om" : (2 : Int) ^ F ≠ 0)) (Int.le_of_lt hG)
    exact Int.emod_eq_of_lt (by walk_at "om") (by walk_at "om")
  rw [hm, val_snoc, hl, Int.pow_succ, ht]
  have := Int.emod_add_mul_ediv x (2 ^ F)
  generalize (2 ^ w : Int) ^ i = P at *
  rw [e1]
  generalize x / 2 ^ F = q at *
  generalize x % 2 ^ F = r at *
  generalize y % 2 ^ F = z at *
  generalize (2 : Int) ^ (w - F) = G at *
  generalize (2 : Int) ^ F = K at *
  rw [← this]
  grind

theorem ok_shift_right {w a n : Nat} (hw : 0 < w) (hw9 : w ≤ 20) (O : e.c.Ok) (hA : Rm A 2) {ra : Addr} (ha : At H ra false (iv (lim w a))) (la : a < 2 ^ 60) (hn : n ≤ 64) :
    PURE e.c A 100 [.ref ra, .int n, .int w] H (fun v H' => Num w H' v (a / 2 ^ n)) := by
  refine PURE_of (fun v H1 H2 h n => n.up h) ?_
  refine CALL_enter [Str.ofString "a", Str.ofString "n", Str.ofString "w"] O hA.room rfl rfl (fun us hl => ?_) rfl (by decide) (by decide) (by decide) (fun L => ?_)
  · obtain ⟨u, v, x, rfl⟩ := len3 hl; rfl
  have hra := fr_at ha
  have hh := hA.h
  have na := len64 hw (n := a) (by walk_at "om")
  generalize fr H = H at *
  have dx := lim_dg hw a
  have hB := B_pos w
  have hfew : n % w < w := Nat.mod_lt _ hw
  have hsp : n / w ≤ 64 := Nat.le_trans (Nat.div_le_self _ _) hn
  have hnn : w * (n / w) + n % w = n := Nat.div_add_mod n w
  have hvY := val_drop_div (a := a) (S := n / w) hw
  generalize lim w a = X at *
  generalize hS : n / w = S at *
  generalize hF : n % w = F at *
  have hB20 : (2 ^ w : Int) ≤ 2 ^ 20 := by
    rw [pow_cast]; exact Int.ofNat_le.mpr (Nat.pow_le_pow_right (by decide) hw9)
  repeat' walk_at "mv"
  refine ⟨_, _, rfl, rfl, ⟨by walk_at "om", by walk_at "om"⟩, ?_⟩
  repeat' walk_at "mv"
  refine ⟨_, _, rfl, rfl, by walk_at "om", ?_⟩
  rw [show ((n : Int) / (w : Int)) = (S : Int) by rw [← hS]; simp, show ((n : Int) % (w : Int)) = (F : Int) by rw [← hF]; simp]
  repeat' walk_at "mv"
  refine ⟨_, _, rfl, ?_⟩
  repeat' walk_at "mv"
  refine ⟨by simp, fun d hd => ?_⟩
  repeat' walk_at "mv"
  refine ⟨1, w, rfl, rfl, ⟨by walk_at "om", by decide⟩, ?_⟩
  rw [Int.one_mul]
  repeat' walk_at "mv"
  refine ⟨_, _, rfl, ?_⟩
  have dY := dx.drop S
  have lY : (X.drop S).length = X.length - S := List.length_drop
  have gY : ∀ i, (X.drop S).getD i 0 = X.getD (S + i) 0 := fun i => by rw [List.getD_eq_getElem?_getD, List.getD_eq_getElem?_getD, List.getElem?_drop]
  refine EX_cut (fun m H' => ∃ (fs : List Int), Le [(Str.ofString "found", .ref d)] m ∧
    H' = H.set d ⟨true, false, iv fs⟩ ∧ fs.length ≤ 64 ∧ Dg (2 ^ w) fs ∧ 2 ^ F * val (2 ^ w) fs + (X.drop S).getD 0 0 % 2 ^ F = val (2 ^ w) (X.drop S)) ?_ ?_
  · refine EX_range2 O hh (g_range _) ?_
    repeat' walk_at "mv"
    refine ⟨_, _, _, rfl, set_old hd hra, by rw [iv_len]; walk_at "om", ?_⟩
    rw [iv_len]
    repeat' walk_at "mv"
    refine ⟨S, X.length, fun i m H' => ∃ (fs : List Int), Le [(Str.ofString "a", .ref ra), (Str.ofString "w", .int w), (Str.ofString "few", .int F), (Str.ofString "mask", .int (2 ^ w - 1)), (Str.ofString "found", .ref d)] m ∧
      H' = H.set d ⟨true, false, iv fs⟩ ∧ Dg (2 ^ w) fs ∧ fs.length = i ∧ 2 ^ F * val (2 ^ w) fs + (X.drop S).getD 0 0 % 2 ^ F = val (2 ^ w) ((X.drop S).take i) + (2 ^ w) ^ i * ((X.drop S).getD i 0 % 2 ^ F), rfl, ⟨by walk_at "om", by walk_at "om", by walk_at "om", by walk_at "om"⟩,
      ⟨[], .of ⟨by with_unfolding_all rfl, by with_unfolding_all rfl, by with_unfolding_all rfl, by with_unfolding_all rfl, by with_unfolding_all rfl, trivial⟩, rfl, .nil, rfl, by simp [val]⟩, ?_, ?_⟩
    · rintro i m H' hi ⟨fs, hm, rfl, hf, hl, hv⟩
      have hi : S + i < X.length := by walk_at "om"
      refine EX_weak ?_ (hm.put _ _)
      obtain ⟨p, ep⟩ : ∃ p, X[S + i]? = some p := ⟨_, List.getElem?_eq_getElem hi⟩
      have gp : (X.drop S).getD i 0 = p := by rw [gY, List.getD_eq_getElem?_getD, ep]; rfl
      have hq := getD_dg hB dY (i + 1)
      obtain ⟨t0, t1, t2, t4⟩ := shr_turn (c0 := (X.drop S).getD 0 0 % 2 ^ F) (s := val (2 ^ w) ((X.drop S).take i)) hfew hf hl (dx.get ep) hq (by rw [hv, gp]) (t := val (2 ^ w) ((X.drop S).take (i + 1))) (by rw [val_take_getD, gp])
      have hp := dx.get ep
      repeat' walk_at "mv"
      refine EV_post (fun v H2 => v = .int ((X.drop S).getD (i + 1) 0) ∧ H2 = H.set d ⟨true, false, iv fs⟩) ?_ ?_
      · refine EV_ifexp ?_
        repeat' walk_at "mv"
        refine ⟨_, _, _, rfl, set_old hd hra, by rw [iv_len]; walk_at "om", ?_⟩
        rw [iv_len]
        repeat' walk_at "mv"
        refine ⟨fun h => ?_, fun h => ?_⟩
        · have h := of_decide_eq_true h
          repeat' walk_at "mv"
          refine ⟨_, _, _, _, _, rfl, rfl, set_old hd hra, ⟨by walk_at "om", by walk_at "om"⟩, ?_, rfl, rfl⟩
          rw [show ((S : Int) + i + 1).toNat = S + (i + 1) by walk_at "om", gY]
          exact getD_get (by walk_at "om")
        · have h := of_decide_eq_false h
          repeat' walk_at "mv"
          exact ⟨by rw [getD_out (by walk_at "om")], rfl⟩
      · rintro _ _ ⟨rfl, rfl⟩
        generalize hqq : (X.drop S).getD (i + 1) 0 = q at hq t0 t1 t2 t4 ⊢
        repeat' walk_at "mv"
        refine EX_append (by with_unfolding_all rfl) Hp.set_same ?_
        repeat' walk_at "mv"
        refine ⟨_, _, _, _, p, rfl, rfl, set_old hd hra, ⟨by walk_at "om", by walk_at "om"⟩, by rw [show ((S : Int) + i).toNat = S + i by walk_at "om"]; exact ep, ?_⟩
        repeat' walk_at "mv"
        refine ⟨_, w - F, rfl, by rw [show ((w : Int) - F) = ((w - F : Nat) : Int) by walk_at "om"], ⟨by walk_at "om", by walk_at "om"⟩, ?_⟩
        refine ⟨_, _, _, rfl, rfl, t0, ?_⟩
        repeat' walk_at "mv"
        have hnn2 : 0 ≤ q * 2 ^ (w - F) + p / 2 ^ F := by
          have h1 := Int.mul_nonneg hq.1 (Int.le_of_lt (B_pos (w - F)))
          have h2 := div_nn (B_pos F) hp.1
          walk_at "om"
        refine ⟨_, w, rfl, rfl, hnn2, ?_⟩
        refine ⟨_, Hp.set_same, by rw [iv_len]; walk_at "om", ?_⟩
        rw [Hp.set_set, iv_snoc]
        repeat' walk_at "mv"
        exact ⟨_, .of ⟨by with_unfolding_all rfl, by with_unfolding_all rfl, by with_unfolding_all rfl, by with_unfolding_all rfl, by with_unfolding_all rfl, trivial⟩, rfl, t1, t2, by rw [hqq]; exact t4⟩
    · rintro m H' ⟨fs, hm, rfl, hf, hl, hv⟩
      rw [take_all (xs := X.drop S) (by walk_at "om"), getD_out (xs := X.drop S) (i := ((X.length : Int) - S).toNat) (by walk_at "om")] at hv
      simp at hv
      exact ⟨fs, hm.trans' ⟨by with_unfolding_all rfl, trivial⟩, rfl, by walk_at "om", hf, by simpa using hv⟩
  · rintro m H' ⟨fs, hm, rfl, hn, hf, hv⟩
    refine EX_weak ?_ hm
    repeat' walk_at "mv"
    refine ok_normal O hA.deeper ⟨true, Hp.set_same⟩ (by walk_at "om") _ ?_
    rintro _ H2 hs2 ⟨d2, rfl, a2⟩
    refine ⟨(Sub.set hd).trans hs2, d2, rfl, ?_⟩
    rw [trim_lim hw hf] at a2
    have hv0 := val_nonneg hB hf
    have hK := B_pos F
    rw [hvY] at hv
    have hr := mod_dg (c := (X.drop S).getD 0 0) hK
    have h1 : val (2 ^ w) fs = ((a / 2 ^ (w * S) : Nat) : Int) / 2 ^ F := by
      rw [← hv, Int.add_comm, Int.add_mul_ediv_left _ _ (by walk_at "om"), Int.ediv_eq_zero_of_lt hr.1 hr.2]; simp
    have h2 : val (2 ^ w) fs = ((a / 2 ^ n : Nat) : Int) := by
      rw [h1, pow_cast, ← Int.natCast_ediv, Nat.div_div_eq_div_mul, ← Nat.pow_add, hnn]
    rw [h2, Int.toNat_natCast] at a2
    exact a2

/-- how many bits -/
def bl (n : Nat) : Nat := if n = 0 then 0 else n.log2 + 1

theorem bl_lim {w a : Nat} (hw : 0 < w) (h : 0 < a) {x : Int} (ex : (lim w a)[(lim w a).length - 1]? = some x) : (((lim w a).length : Int) - 1) * w + (Builtin.Int.intBits x : Int) = bl a ∧ 0 ≤ x := by
  have dx := lim_dg hw a
  have hB := B_pos w
  have vx := lim_val hw a
  have hlen : 0 < (lim w a).length := by
    rcases Nat.eq_zero_or_pos (lim w a).length with h1 | h1
    · exact absurd ((lim_nil_iff hw).mp (List.length_eq_zero_iff.mp h1)) (by walk_at "om")
    · exact h1
  have hx := dx.get ex
  have hbig := lim_big hw h
  generalize hk : (lim w a).length - 1 = k at *
  have hk2 : (lim w a).length = k + 1 := by walk_at "om"
  have h1 := val_take_drop (B := 2 ^ w) (lim w a) k (by walk_at "om")
  rw [vx, val_drop_pred _ _ ex, List.drop_of_length_le (by walk_at "om"), val_nil, Int.mul_zero, Int.add_zero] at h1
  have h2 := val_lt hB (dx.take k)
  rw [List.length_take, Nat.min_eq_left (by walk_at "om")] at h2
  have h3 := val_nonneg hB (dx.take k)
  obtain ⟨y, rfl⟩ := Int.eq_ofNat_of_zero_le hx.1
  have hp : (2 ^ w : Int) ^ k = ((2 ^ (w * k) : Nat) : Int) := by rw [pow_cast, ← Int.natCast_pow, Nat.pow_mul]
  rw [hp] at h1 h2 hbig
  obtain ⟨t, ht⟩ := Int.eq_ofNat_of_zero_le h3
  rw [ht] at h1 h2
  have h1' : a = t + 2 ^ (w * k) * y := by
    have : ((a : Nat) : Int) = ((t + 2 ^ (w * k) * y : Nat) : Int) := by rw [h1]; simp
    exact Int.ofNat.inj this
  have h2' : t < 2 ^ (w * k) := Int.ofNat_lt.mp h2
  have hy : y ≠ 0 := fun q => by
    subst q
    simp only [Nat.mul_zero, Nat.add_zero] at h1'
    have := Int.ofNat_le.mp hbig
    walk_at "om"
  refine ⟨?_, hx.1⟩
  have l1 := Nat.log2_self_le hy
  have l2 := Nat.lt_log2_self (n := y)
  have e1 : a.log2 = w * k + y.log2 := by
    have a1 : 2 ^ (w * k + y.log2) ≤ a := by
      rw [h1', Nat.pow_add]
      have := Nat.mul_le_mul_left (2 ^ (w * k)) l1
      walk_at "om"
    have a2 : a < 2 ^ (w * k + y.log2 + 1) := by
      rw [h1', show w * k + y.log2 + 1 = w * k + (y.log2 + 1) by walk_at "om", Nat.pow_add]
      have := Nat.mul_le_mul_left (2 ^ (w * k)) (Nat.succ_le_of_lt l2)
      rw [Nat.succ_eq_add_one, Nat.mul_add, Nat.mul_one] at this
      walk_at "om"
    exact (Nat.log2_eq_iff (by walk_at "om")).mpr ⟨a1, a2⟩
  have e2 : (Builtin.Int.intBits (y : Int) : Int) = y.log2 + 1 := by
    unfold Builtin.Int.intBits
    rw [if_neg (by simpa using hy)]
    simp
  rw [e2, hk2]
  unfold bl
  rw [if_neg (by walk_at "om"), e1]
  simp
  rw [Int.mul_comm]
  walk_at "om"

theorem ok_bits {w a : Nat} (hw : 0 < w) (hw9 : w ≤ 29) (O : e.c.Ok) (hA : Rm A 1) {ra : Addr} (ha : At H ra false (iv (lim w a))) (la : a < 2 ^ 60) :
    PURE e.c A 107 [.ref ra, .int w] H (fun v H' => v = .int (bl a)) := by
  refine PURE_of (fun v H1 H2 h n => n) ?_
  refine CALL_enter [Str.ofString "a", Str.ofString "w"] O hA.room rfl rfl (fun us hl => ?_) rfl (by decide) (by decide) (by decide) (fun L => ?_)
  · obtain ⟨u, v, rfl⟩ := len2 hl; rfl
  have hra := fr_at ha
  have hh := hA.h
  have na := len64 hw (n := a) (by walk_at "om")
  generalize fr H = H at *
  have key : 0 < a → ∃ x, (lim w a)[(lim w a).length - 1]? = some x ∧ (((lim w a).length : Int) - 1) * w + (Builtin.Int.intBits x : Int) = bl a := fun h => by
    have hlen : 0 < (lim w a).length := by
      rcases Nat.eq_zero_or_pos (lim w a).length with h1 | h1
      · exact absurd ((lim_nil_iff hw).mp (List.length_eq_zero_iff.mp h1)) (by walk_at "om")
      · exact h1
    exact ⟨_, List.getElem?_eq_getElem (by walk_at "om"), (bl_lim hw h (List.getElem?_eq_getElem (by walk_at "om"))).1⟩
  have hz := lim_nil_iff (n := a) hw
  repeat' walk_at "mv"
  refine EV_ifexp ?_
  repeat' walk_at "mv"
  refine ⟨_, _, _, rfl, hra, by rw [iv_len]; walk_at "om", ?_⟩
  rw [iv_len]
  repeat' walk_at "mv"
  refine ⟨fun h => ?_, fun h => ?_⟩
  · have h := of_decide_eq_true h
    have ha0 : 0 < a := by
      rcases Nat.eq_zero_or_pos a with q | q
      · rw [hz.mpr q] at h; simp at h
      · exact q
    obtain ⟨x, ex, hx⟩ := key ha0
    repeat' walk_at "mv"
    refine ⟨_, _, _, rfl, hra, by rw [iv_len]; walk_at "om", ?_⟩
    rw [iv_len]
    repeat' walk_at "mv"
    refine ⟨_, _, rfl, rfl, ⟨by walk_at "om", by walk_at "om"⟩, ?_⟩
    refine EV_bitlen ?_
    refine EV_last ?_
    repeat' walk_at "mv"
    refine ⟨_, _, _, x, rfl, rfl, hra, ⟨by walk_at "om", by walk_at "om"⟩, ex, x, rfl, ?_⟩
    repeat' walk_at "mv"
    rw [hx]
    exact ⟨.refl, rfl⟩
  · have h := of_decide_eq_false h
    have ha0 : a = 0 := by
      have : (lim w a).length = 0 := by walk_at "om"
      exact hz.mp (List.length_eq_zero_iff.mp this)
    repeat' walk_at "mv"
    refine ⟨.refl, ?_⟩
    rw [ha0]; rfl

theorem ok_low {w a n : Nat} (hw : 0 < w) (hw9 : w ≤ 29) (O : e.c.Ok) (hA : Rm A 2) {ra : Addr} (ha : At H ra false (iv (lim w a))) (la : a < 2 ^ 60) (hn : n ≤ 64) :
    PURE e.c A 114 [.ref ra, .int n, .int w] H (fun v H' => Num w H' v (a % 2 ^ n)) := by
  refine PURE_of (fun v H1 H2 h n => n.up h) ?_
  refine CALL_enter [Str.ofString "a", Str.ofString "n", Str.ofString "w"] O hA.room rfl rfl (fun us hl => ?_) rfl (by decide) (by decide) (by decide) (fun L => ?_)
  · obtain ⟨u, v, x, rfl⟩ := len3 hl; rfl
  have hra := fr_at ha
  have hh := hA.h
  have na := len64 hw (n := a) (by walk_at "om")
  generalize fr H = H at *
  have dx := lim_dg hw a
  have vx := lim_val hw a
  have hB := B_pos w
  have hfew : n % w < w := Nat.mod_lt _ hw
  have hsp : n / w ≤ 64 := Nat.le_trans (Nat.div_le_self _ _) hn
  have hnn : w * (n / w) + n % w = n := Nat.div_add_mod n w
  have hvT := val_take_mod (a := a) (S := n / w) hw
  have hvD := val_drop_div (a := a) (S := n / w) hw
  have hlt := lim_lt hw a
  have hbig : (lim w a).length ≤ n / w → a < 2 ^ n := fun h => by
    have h2 := pow_mono_int (w := w) h
    have h3 : (2 ^ w : Int) ^ (n / w) = ((2 ^ (w * (n / w)) : Nat) : Int) := by rw [pow_cast, ← Int.natCast_pow, Nat.pow_mul]
    have h4 : a < 2 ^ (w * (n / w)) := by
      have : (a : Int) < ((2 ^ (w * (n / w)) : Nat) : Int) := by walk_at "om"
      exact Int.ofNat_lt.mp this
    exact Nat.lt_of_lt_of_le h4 (Nat.pow_le_pow_right (by decide) (by walk_at "om"))
  have hX : iv (lim w a) = iv (lim w a) := rfl
  generalize hXX : lim w a = X at *
  generalize hS : n / w = S at *
  generalize hF : n % w = F at *
  repeat' walk_at "mv"
  refine ⟨_, _, rfl, rfl, ⟨by walk_at "om", by walk_at "om"⟩, ?_⟩
  repeat' walk_at "mv"
  refine ⟨_, _, rfl, rfl, by walk_at "om", ?_⟩
  rw [show ((n : Int) / (w : Int)) = (S : Int) by rw [← hS]; simp, show ((n : Int) % (w : Int)) = (F : Int) by rw [← hF]; simp]
  repeat' walk_at "mv"
  refine ⟨_, _, rfl, ?_⟩
  repeat' walk_at "mv"
  refine ⟨_, _, _, rfl, hra, by rw [iv_len]; walk_at "om", ?_⟩
  rw [iv_len]
  repeat' walk_at "mv"
  refine ⟨fun h => ?_, fun h => ?_⟩
  · have h := of_decide_eq_true h
    repeat' walk_at "mv"
    refine ⟨_, _, _, rfl, hra, by rw [iv_len]; walk_at "om", fun d hd => ⟨Sub.set hd, d, rfl, ?_⟩⟩
    rw [Nat.mod_eq_of_lt (hbig (by walk_at "om")), hXX]
    exact At.set
  · have h := of_decide_eq_false h
    obtain ⟨p, ep⟩ : ∃ p, X[S]? = some p := ⟨_, List.getElem?_eq_getElem (by walk_at "om")⟩
    have hp := dx.get ep
    repeat' walk_at "mv"
    refine ⟨_, _, _, _, rfl, rfl, hra, ⟨by walk_at "om", by rw [iv_len]; walk_at "om", by rw [iv_len]; walk_at "om"⟩, fun d1 hd1 => ?_⟩
    have s1 : Sub H (H.set d1 ⟨false, false, (iv X).take (S : Int).toNat⟩) := Sub.set hd1
    have hra1 := s1 _ _ hra
    have hd1' : H.set d1 ⟨false, false, (iv X).take (S : Int).toNat⟩ d1 = some ⟨false, false, iv (X.take S)⟩ := by rw [Hp.set_same, iv_take, Int.toNat_natCast]
    generalize H.set d1 ⟨false, false, (iv X).take (S : Int).toNat⟩ = H1 at *
    repeat' walk_at "mv"
    refine ⟨_, _, _, _, p, rfl, rfl, hra1, ⟨by walk_at "om", by walk_at "om"⟩, by simpa using ep, ?_⟩
    repeat' walk_at "mv"
    refine ⟨1, F, rfl, rfl, ⟨by walk_at "om", by decide⟩, ?_⟩
    rw [Int.one_mul]
    repeat' walk_at "mv"
    refine ⟨_, F, rfl, rfl, hp.1, ?_⟩
    repeat' walk_at "mv"
    refine ⟨by simp, fun d2 hd2 => ?_⟩
    refine ⟨d1, d2, _, _, _, _, rfl, rfl, set_old hd2 hd1', Hp.set_same, by rw [iv_len]; simp; walk_at "om", fun d3 hd3 => ?_⟩
    rw [iv_snoc]
    repeat' walk_at "mv"
    have hlen : (X.take S ++ [p % 2 ^ F]).length ≤ 64 := by simp; walk_at "om"
    refine ok_normal O hA.deeper ⟨true, Hp.set_same⟩ (by walk_at "om") _ ?_
    rintro _ H2 hs2 ⟨d4, rfl, a2⟩
    refine ⟨((s1.trans (Sub.set hd2)).trans (Sub.set hd3)).trans hs2, d4, rfl, ?_⟩
    have hFw : (2 ^ F : Int) ≤ 2 ^ w := by
      rw [pow_cast, pow_cast]; exact Int.ofNat_le.mpr (Nat.pow_le_pow_right (by decide) (by walk_at "om"))
    have hm := mod_dg (c := p) (B_pos F)
    rw [trim_lim hw ((dx.take S).snoc (by walk_at "om")), val_snoc, hvT, List.length_take, Nat.min_eq_left (by walk_at "om")] at a2
    have hq : a / 2 ^ (w * S) % 2 ^ F = (p % 2 ^ F).toNat := by
      rw [val_drop_pred _ _ ep] at hvD
      have hK := split_pow (Nat.le_of_lt hfew)
      have h1 : ((a / 2 ^ (w * S) : Nat) : Int) % 2 ^ F = p % 2 ^ F := by
        rw [← hvD, hK, Int.mul_assoc, Int.add_mul_emod_self_left]
      have h2 : ((a / 2 ^ (w * S) % 2 ^ F : Nat) : Int) = p % 2 ^ F := by rw [← h1, pow_cast, ← Int.natCast_emod]
      walk_at "om"
    have h5 : (2 ^ w : Int) ^ S = ((2 ^ (w * S) : Nat) : Int) := by rw [pow_cast, ← Int.natCast_pow, Nat.pow_mul]
    have h6 : ((a % 2 ^ (w * S) : Nat) : Int) + (2 ^ w : Int) ^ S * (p % 2 ^ F) = ((a % 2 ^ n : Nat) : Int) := by
      have h7 : (p % 2 ^ F) = ((a / 2 ^ (w * S) % 2 ^ F : Nat) : Int) := by rw [hq]; walk_at "om"
      rw [h5, h7, ← Int.natCast_mul, ← Int.natCast_add, ← hnn, Nat.pow_add, Nat.mod_mul]
    rw [h6, Int.toNat_natCast] at a2
    exact a2
end
section
open PySem PySem.W PySem.Calls PyProof.Rows

variable {e : Ev} {A : Around} {H : Hp}

theorem val_set {B : Int} : ∀ {xs : List Int} {k : Nat} {g : Int} (v : Int), xs[k]? = some g → val B (xs.set k v) = val B xs + B ^ k * (v - g)
  | [], k, g, v, h => by simp at h
  | x :: r, 0, g, v, h => by simp at h; subst h; rw [List.set_cons_zero, val_cons, val_cons]; simp; walk_at "om"
  | x :: r, k + 1, g, v, h => by
    simp at h
    rw [List.set_cons_succ, val_cons, val_cons, val_set v h, Int.pow_succ]
    grind

theorem mul_turn {w k : Nat} {c g x y : Int} {gs : List Int} (hw : 0 < w) (hg : Dg (2 ^ w) gs) (hc : 0 ≤ c ∧ c < 2 ^ w) (eg : gs[k]? = some g) (hx : 0 ≤ x ∧ x < 2 ^ w) (hy : 0 ≤ y ∧ y < 2 ^ w)
    {s t : Int} (hv : val (2 ^ w) gs + (2 ^ w) ^ k * c = s) (ht : t = s + (2 ^ w) ^ k * (x * y)) :
    0 ≤ c + (g + x * y) ∧ Dg (2 ^ w) (gs.set k ((c + (g + x * y)) % 2 ^ w)) ∧ (0 ≤ (c + (g + x * y)) / 2 ^ w ∧ (c + (g + x * y)) / 2 ^ w < 2 ^ w) ∧
      val (2 ^ w) (gs.set k ((c + (g + x * y)) % 2 ^ w)) + (2 ^ w) ^ (k + 1) * ((c + (g + x * y)) / 2 ^ w) = t := by
  have hB := B_pos w
  have hgg := hg.get eg
  have h0 := Int.mul_nonneg hx.1 hy.1
  refine ⟨by walk_at "om", hg.set (mod_dg hB), ⟨div_nn hB (by walk_at "om"), Int.ediv_lt_of_lt_mul hB ?_⟩, ?_⟩
  · have h1 : x * y ≤ (2 ^ w - 1) * (2 ^ w - 1) := Int.mul_le_mul (by walk_at "om") (by walk_at "om") hy.1 (by walk_at "om")
    generalize (2 : Int) ^ w = B at *
    have : (B - 1) * (B - 1) = B * B - 2 * B + 1 := by grind
    walk_at "om"
  · rw [val_set _ eg, Int.pow_succ, ht, ← hv]
    have := Int.emod_add_mul_ediv (c + (g + x * y)) (2 ^ w)
    generalize (c + (g + x * y)) / 2 ^ w = q at *
    generalize (c + (g + x * y)) % 2 ^ w = r at *
    generalize (2 ^ w : Int) ^ k = P at *
    generalize (2 : Int) ^ w = B at *
    grind

theorem ok_mul {w a b : Nat} (hw : 0 < w) (hw9 : w ≤ 20) (O : e.c.Ok) (hA : Rm A 2) {ra rb : Addr} (ha : At H ra false (iv (lim w a))) (hb : At H rb false (iv (lim w b))) (la : a < 2 ^ 60) (lb : b < 2 ^ 60) :
    PURE e.c A 189 [.ref ra, .ref rb, .int w] H (fun v H' => Num w H' v (a * b)) := by
  refine PURE_of (fun v H1 H2 h n => n.up h) ?_
  refine CALL_enter [Str.ofString "a", Str.ofString "b", Str.ofString "w"] O hA.room rfl rfl (fun us hl => ?_) rfl (by decide) (by decide) (by decide) (fun L => ?_)
  · obtain ⟨u, v, x, rfl⟩ := len3 hl; rfl
  have hra := fr_at ha
  have hrb := fr_at hb
  have hh := hA.h
  have na := len64 hw (n := a) (by walk_at "om")
  have nb := len64 hw (n := b) (by walk_at "om")
  generalize fr H = H at *
  have dx := lim_dg hw a
  have dy := lim_dg hw b
  have vx := lim_val hw a
  have vy := lim_val hw b
  have hB := B_pos w
  have hB20 : (2 ^ w : Int) ≤ 2 ^ 20 := by
    rw [pow_cast]; exact Int.ofNat_le.mpr (Nat.pow_le_pow_right (by decide) hw9)
  generalize lim w a = X at *
  generalize lim w b = Y at *
  repeat' walk_at "mv"
  refine ⟨by simp, fun z hz => ?_⟩
  repeat' walk_at "mv"
  refine ⟨_, _, _, rfl, set_old hz hra, by rw [iv_len]; walk_at "om", ?_⟩
  rw [iv_len]
  repeat' walk_at "mv"
  refine ⟨_, _, _, rfl, set_old hz hrb, by rw [iv_len]; walk_at "om", ?_⟩
  rw [iv_len]
  repeat' walk_at "mv"
  refine ⟨z, .int 0, _, rfl, rfl, Hp.set_same, by walk_at "om", fun d hd => ?_⟩
  have sz : Sub H (H.set z ⟨true, false, [.int 0]⟩) := Sub.set hz
  have hra := sz _ _ hra
  have hrb := sz _ _ hrb
  generalize H.set z ⟨true, false, [.int 0]⟩ = H2 at *
  rw [iv_rep, show ((X.length : Int) + Y.length).toNat = X.length + Y.length by walk_at "om"]
  repeat' walk_at "mv"
  refine ⟨1, w, rfl, rfl, ⟨by walk_at "om", by decide⟩, ?_⟩
  rw [Int.one_mul]
  repeat' walk_at "mv"
  refine ⟨_, _, rfl, ?_⟩
  refine EX_cut (fun m H' => ∃ (fs : List Int), Le [(Str.ofString "found", .ref d)] m ∧
    H' = H2.set d ⟨true, false, iv fs⟩ ∧ fs.length = X.length + Y.length ∧ Dg (2 ^ w) fs ∧ val (2 ^ w) fs = ((a * b : Nat) : Int)) ?_ ?_
  · refine EX_forenum O hh (g_enumerate _) ?_
    repeat' walk_at "mv"
    refine ⟨ra, iv X, fun i m H' => ∃ (fs : List Int), Le [(Str.ofString "b", .ref rb), (Str.ofString "w", .int w), (Str.ofString "mask", .int (2 ^ w - 1)), (Str.ofString "found", .ref d)] m ∧
      H' = H2.set d ⟨true, false, iv fs⟩ ∧ Dg (2 ^ w) fs ∧ fs.length = X.length + Y.length ∧ (∀ k, i + Y.length ≤ k → k < fs.length → fs[k]? = some 0) ∧ val (2 ^ w) fs = val (2 ^ w) (X.take i) * val (2 ^ w) Y, rfl, set_old hd hra,
      ⟨List.replicate (X.length + Y.length) 0, .of ⟨by with_unfolding_all rfl, by with_unfolding_all rfl, by with_unfolding_all rfl, by with_unfolding_all rfl, trivial⟩, rfl, .rep hB _, by simp, fun k h1 h2 => by rw [List.getElem?_replicate, if_pos (by simpa using h2)], by simp [val, val_rep]⟩, ?_, ?_⟩
    · rintro i m H' v hv0 ⟨fs, hm, rfl, hf, hl, hz0, hv⟩
      obtain ⟨p, ep, rfl⟩ := iv_get_inv hv0
      have hi : i < X.length := by
        rcases Nat.lt_or_ge i X.length with h1 | h1
        · exact h1
        · rw [List.getElem?_eq_none h1] at ep; cases ep
      have hp := dx.get ep
      refine EX_weak ?_ ((hm.put _ _).put _ _)
      repeat' walk_at "mv"
      refine EX_mid (fun m H' => ∃ (c : Int) (gs : List Int), Le [(Str.ofString "b", .ref rb), (Str.ofString "w", .int w), (Str.ofString "mask", .int (2 ^ w - 1)), (Str.ofString "found", .ref d), (Str.ofString "at", .int i), (Str.ofString "carry", .int c)] m ∧
        H' = H2.set d ⟨true, false, iv gs⟩ ∧ Dg (2 ^ w) gs ∧ gs.length = X.length + Y.length ∧ (∀ k, i + Y.length ≤ k → k < gs.length → gs[k]? = some 0) ∧ (0 ≤ c ∧ c < 2 ^ w) ∧
        val (2 ^ w) gs + (2 ^ w) ^ (i + Y.length) * c = val (2 ^ w) fs + (2 ^ w) ^ i * (p * val (2 ^ w) Y)) ?_ ?_
      · refine EX_forenum O hh (g_enumerate _) ?_
        repeat' walk_at "mv"
        refine ⟨rb, iv Y, fun j m H' => ∃ (c : Int) (gs : List Int), Le [(Str.ofString "b", .ref rb), (Str.ofString "w", .int w), (Str.ofString "mask", .int (2 ^ w - 1)), (Str.ofString "found", .ref d), (Str.ofString "at", .int i), (Str.ofString "limb", .int p), (Str.ofString "carry", .int c)] m ∧
          H' = H2.set d ⟨true, false, iv gs⟩ ∧ Dg (2 ^ w) gs ∧ gs.length = X.length + Y.length ∧ (∀ k, i + Y.length ≤ k → k < gs.length → gs[k]? = some 0) ∧ (0 ≤ c ∧ c < 2 ^ w) ∧
          val (2 ^ w) gs + (2 ^ w) ^ (i + j) * c = val (2 ^ w) fs + (2 ^ w) ^ i * (p * val (2 ^ w) (Y.take j)), rfl, set_old hd hrb,
          ⟨0, fs, .of ⟨by with_unfolding_all rfl, by with_unfolding_all rfl, by with_unfolding_all rfl, by with_unfolding_all rfl, by with_unfolding_all rfl, by with_unfolding_all rfl, by with_unfolding_all rfl, trivial⟩, rfl, hf, hl, hz0, by walk_at "om", by simp [val]⟩, ?_, ?_⟩
        · rintro j m H' v hv0 ⟨c, gs, hm, rfl, hg, hlg, hz1, hc, hvg⟩
          obtain ⟨q, eq, rfl⟩ := iv_get_inv hv0
          have hj : j < Y.length := by
            rcases Nat.lt_or_ge j Y.length with h1 | h1
            · exact h1
            · rw [List.getElem?_eq_none h1] at eq; cases eq
          have hq := dy.get eq
          refine EX_weak ?_ ((hm.put _ _).put _ _)
          obtain ⟨g, eg⟩ : ∃ g, gs[i + j]? = some g := ⟨_, List.getElem?_eq_getElem (by walk_at "om")⟩
          obtain ⟨t0, t1, t2, t3⟩ := mul_turn hw hg hc eg hp hq hvg (t := val (2 ^ w) fs + (2 ^ w) ^ i * (p * val (2 ^ w) (Y.take (j + 1)))) (by
            rw [val_take_succ Y j eq, Int.pow_add]
            generalize (2 ^ w : Int) ^ i = PI
            generalize (2 ^ w : Int) ^ j = PJ
            grind)
          have e1 : ((i : Int) + j).toNat = i + j := by walk_at "om"
          repeat' walk_at "mv"
          refine ⟨_, _, _, _, g, rfl, rfl, Hp.set_same, ⟨by walk_at "om", by walk_at "om"⟩, by rw [e1]; exact eg, ?_⟩
          repeat' walk_at "mv"
          refine ⟨_, _, rfl, rfl, ⟨by walk_at "om", by walk_at "om"⟩, ?_⟩
          repeat' walk_at "mv"
          refine EX_setitem ?_
          repeat' walk_at "mv"
          refine ⟨_, w, rfl, rfl, t0, ?_⟩
          repeat' walk_at "mv"
          refine ⟨_, _, _, rfl, rfl, Hp.set_same, ⟨by walk_at "om", by rw [iv_len]; walk_at "om", by walk_at "om"⟩, ?_⟩
          rw [Hp.set_set, iv_set, e1]
          repeat' walk_at "mv"
          refine ⟨_, _, .of ⟨by with_unfolding_all rfl, by with_unfolding_all rfl, by with_unfolding_all rfl, by with_unfolding_all rfl, by with_unfolding_all rfl, by with_unfolding_all rfl, by with_unfolding_all rfl, trivial⟩, rfl, t1, by simpa using hlg, fun k h1 h2 => ?_, t2, t3⟩
          rw [List.getElem?_set_ne (by walk_at "om")]
          exact hz1 k h1 (by simpa using h2)
        · rintro m H' ⟨c, gs, hm, rfl, hg, hlg, hz1, hc, hvg⟩
          rw [iv_len, take_all (xs := Y) (Nat.le_refl _)] at hvg
          exact ⟨c, gs, hm.trans' ⟨by with_unfolding_all rfl, by with_unfolding_all rfl, by with_unfolding_all rfl, by with_unfolding_all rfl, by with_unfolding_all rfl, by with_unfolding_all rfl, trivial⟩, rfl, hg, hlg, hz1, hc, hvg⟩
      · rintro m H' ⟨c, gs, hm, rfl, hg, hlg, hz1, hc, hvg⟩
        refine EX_weak ?_ hm
        repeat' walk_at "mv"
        refine EX_setitem ?_
        repeat' walk_at "mv"
        refine ⟨_, _, _, rfl, set_old hd hrb, by rw [iv_len]; walk_at "om", ?_⟩
        rw [iv_len]
        repeat' walk_at "mv"
        have e1 : ((i : Int) + Y.length).toNat = i + Y.length := by walk_at "om"
        refine ⟨_, _, _, rfl, rfl, Hp.set_same, ⟨by walk_at "om", by rw [iv_len]; walk_at "om", by walk_at "om"⟩, ?_⟩
        rw [Hp.set_set, iv_set, e1]
        repeat' walk_at "mv"
        refine ⟨_, .of ⟨by with_unfolding_all rfl, by with_unfolding_all rfl, by with_unfolding_all rfl, by with_unfolding_all rfl, trivial⟩, rfl, hg.set hc, by simpa using hlg, fun k h1 h2 => ?_, ?_⟩
        · rw [List.getElem?_set_ne (by walk_at "om")]
          exact hz1 k (by walk_at "om") (by simpa using h2)
        · rw [val_set _ (hz1 _ (Nat.le_refl _) (by walk_at "om")), Int.sub_zero, hvg, hv, val_take_succ X i ep, Int.add_mul]
          rw [Int.mul_assoc]
    · rintro m H' ⟨fs, hm, rfl, hf, hl, hz0, hv⟩
      rw [iv_len, take_all (xs := X) (Nat.le_refl _), vx, vy] at hv
      exact ⟨fs, hm.trans' ⟨by with_unfolding_all rfl, trivial⟩, rfl, hl, hf, by rw [hv]; simp⟩
  · rintro m H' ⟨fs, hm, rfl, hl, hf, hv⟩
    refine EX_weak ?_ hm
    repeat' walk_at "mv"
    refine ok_normal O hA.deeper ⟨true, Hp.set_same⟩ (by walk_at "om") _ ?_
    rintro _ H3 hs2 ⟨d2, rfl, a2⟩
    refine ⟨(sz.trans (Sub.set hd)).trans hs2, d2, rfl, ?_⟩
    rw [trim_lim hw hf, hv, Int.toNat_natCast] at a2
    exact a2
end
section
open PySem PySem.W PySem.Calls PyProof.Rows

variable {e : Ev} {A : Around} {H : Hp}

theorem lim_one {w r : Nat} (hw : 0 < w) (h : 0 < r) (hr : r < 2 ^ w) : lim w r = [(r : Int)] := by
  rw [lim_pos hw h, Nat.mod_eq_of_lt hr, Nat.div_eq_of_lt hr, lim_zero]

theorem ok_divrem_small {w a l : Nat} (hw : 0 < w) (hw9 : w ≤ 20) (O : e.c.Ok) (hA : Rm A 3) {ra rb : Addr} (ha : At H ra false (iv (lim w a))) (hb : At H rb false (iv (lim w l))) (la : a < 2 ^ 60) (hl0 : 0 < l) (hl1 : l < 2 ^ w) :
    PURE e.c A 196 [.ref ra, .ref rb, .int w] H (fun v H' => ∃ t q r, v = .ref t ∧ At H' t true [q, r] ∧ Num w H' q (a / l) ∧ Num w H' r (a % l)) := by
  refine PURE_of (by rintro v H1 H2 h ⟨t, q, r, e1, e2, n, n2⟩; exact ⟨t, q, r, e1, h _ _ _ e2, n.up h, n2.up h⟩) ?_
  refine CALL_enter [Str.ofString "a", Str.ofString "b", Str.ofString "w"] O hA.room rfl rfl (fun us hl => ?_) rfl (by decide) (by decide) (by decide) (fun L => ?_)
  · obtain ⟨u, v, x, rfl⟩ := len3 hl; rfl
  have hra := fr_at ha
  have hrb := fr_at hb
  have hh := hA.h
  generalize fr H = H at *
  rw [lim_one hw hl0 hl1] at hrb
  refine EX_cons (EX_unpack2 hh ?_)
  repeat' walk_at "mv"
  refine ⟨_, _, _, 0, _, rfl, rfl, hrb, by decide, rfl, ?_⟩
  repeat' walk_at "mv"
  refine ok_divrem_limb hw (by walk_at "om") O hA.deeper ⟨_, hra⟩ la hl0 hl1 _ ?_
  rintro _ H1 s1 ⟨t, q, rfl, ⟨w1, ht⟩, hq⟩
  refine ⟨t, w1, _, _, rfl, ht, ?_⟩
  repeat' walk_at "mv"
  refine EV_post (fun v H2 => Sub H1 H2 ∧ Num w H2 v (a % l)) ?_ ?_
  · refine EV_ifexp ?_
    repeat' walk_at "mv"
    refine ⟨fun h => ?_, fun h => ?_⟩
    · have h := of_decide_eq_true h
      repeat' walk_at "mv"
      refine ⟨by simp, fun d hd => ⟨Sub.set hd, d, rfl, ?_⟩⟩
      have := Nat.mod_lt a hl0
      rw [lim_one hw (by walk_at "om") (by walk_at "om")]
      exact At.set
    · have h := of_decide_eq_false h
      repeat' walk_at "mv"
      refine ⟨by simp, fun d hd => ⟨Sub.set hd, d, rfl, ?_⟩⟩
      have : a % l = 0 := by walk_at "om"
      rw [this, lim_zero]
      exact At.set
  · rintro r H2 ⟨s2, hr⟩
    repeat' walk_at "mv"
    refine ⟨by simp, fun t2 ht2 => ⟨(s1.trans s2).trans (Sub.set ht2), t2, q, r, rfl, At.set, (hq.sub s2).sub (Sub.set ht2), hr.sub (Sub.set ht2)⟩⟩

theorem ok_guess {w : Nat} {t0 t1 t2 f s : Nat} (hw : 0 < w) (hw9 : w ≤ 20) (O : e.c.Ok) (hA : Rm A 1) {rt : Addr} (ht : At H rt false (iv [(t0 : Int), (t1 : Int), (t2 : Int)]))
    (h0 : t0 < 2 ^ w) (h1 : t1 < 2 ^ w) (h2 : t2 < 2 ^ w) (hf : 0 < f ∧ f < 2 ^ w) (hs : s < 2 ^ w) :
    PURE e.c A 203 [.ref rt, .int f, .int s, .int w] H (fun v H' => v = .int (min (((t2 * 2 ^ w + t1) * 2 ^ w + t0) / (f * 2 ^ w + s)) (2 ^ w - 1) : Nat)) := by
  refine PURE_of (fun v H1 H2 h n => n) ?_
  refine CALL_enter [Str.ofString "top", Str.ofString "first", Str.ofString "second", Str.ofString "w"] O hA.room rfl rfl (fun us hl => ?_) rfl (by decide) (by decide) (by decide) (fun L => ?_)
  · obtain ⟨u, v, x, y, rfl⟩ := len4 hl; rfl
  have hrt := fr_at ht
  have hh := hA.h
  generalize fr H = H at *
  have hBp := Nat.two_pow_pos w
  have hB20 : 2 ^ w ≤ 2 ^ 20 := Nat.pow_le_pow_right (by decide) hw9
  have hcB : (2 ^ w : Int) = ((2 ^ w : Nat) : Int) := pow_cast w
  generalize hB : (2 : Nat) ^ w = B at *
  have hor : ∀ (x y : Nat), y < B → Builtin.bitOr ((x : Int) * 2 ^ w) (y : Int) = ((x * B + y : Nat) : Int) := fun x y hy => by
    rw [shift_or (by walk_at "om") (by walk_at "om") (by rw [hcB]; exact Int.ofNat_lt.mpr hy), hcB]; simp
  repeat' walk_at "mv"
  refine ⟨_, _, _, ((2 : Nat) : Int), _, rfl, rfl, hrt, by decide, rfl, ?_⟩
  repeat' walk_at "mv"
  refine ⟨_, w, rfl, rfl, ⟨by walk_at "om", by walk_at "om"⟩, ?_⟩
  repeat' walk_at "mv"
  refine ⟨_, _, _, ((1 : Nat) : Int), _, rfl, rfl, hrt, by decide, rfl, ?_⟩
  refine ⟨_, _, _, rfl, rfl, hor t2 t1 h1, ?_⟩
  repeat' walk_at "mv"
  refine ⟨1, w, rfl, rfl, ⟨by walk_at "om", by decide⟩, ?_⟩
  rw [Int.one_mul, hcB]
  repeat' walk_at "mv"
  refine ⟨_, _, rfl, ?_⟩
  generalize hhi : t2 * B + t1 = hi at *
  have hhiB : hi < B * B := by
    rw [← hhi]
    have := Nat.mul_le_mul_right B (Nat.succ_le_of_lt h2)
    rw [Nat.succ_mul] at this
    walk_at "om"
  have hBB : B * B ≤ 2 ^ 20 * 2 ^ 20 := Nat.mul_le_mul hB20 hB20
  repeat' walk_at "mv"
  refine ⟨_, _, rfl, rfl, ⟨by walk_at "om", by walk_at "om"⟩, ?_⟩
  repeat' walk_at "mv"
  have e1 : (if ((B : Int) - 1) < (hi : Int) / (f : Int) then ((B : Int) - 1) else (hi : Int) / (f : Int)) = ((min (hi / f) (B - 1) : Nat) : Int) := by
    have : (hi : Int) / (f : Int) = ((hi / f : Nat) : Int) := by simp
    rw [this]
    split <;> walk_at "om"
  rw [e1]
  generalize hq0 : min (hi / f) (B - 1) = q0 at *
  have hq0f : q0 * f ≤ hi := Nat.le_trans (Nat.mul_le_mul_right f (by walk_at "om")) (Nat.div_mul_le_self hi f)
  have hq0B : q0 ≤ B - 1 := by walk_at "om"
  repeat' walk_at "mv"
  refine ⟨_, _, rfl, rfl, ⟨by walk_at "om", by walk_at "om"⟩, ?_⟩
  refine ⟨_, _, rfl, rfl, trivial, ?_⟩
  have e2 : ((hi : Int) - (q0 : Int) * f) = ((hi - q0 * f : Nat) : Int) := by
    rw [Int.natCast_sub hq0f]; simp
  rw [e2]
  repeat' walk_at "mv"
  -- the answer
  generalize hres : min ((hi * B + t0) / (f * B + s)) (B - 1) = res at *
  have hv2 : 0 < f * B + s := by have := Nat.mul_pos hf.1 hBp; walk_at "om"
  have hT : ∀ q, q ≤ B - 1 → (q * (f * B + s) ≤ hi * B + t0 ↔ q ≤ res) := fun q hq => by
    rw [← Nat.le_div_iff_mul_le hv2]; walk_at "om"
  have hres0 : res ≤ q0 := by
    have h3 : res ≤ B - 1 := by walk_at "om"
    have h4 := (hT res h3).mpr (Nat.le_refl _)
    have h5 : res * f ≤ hi := by
      rcases Nat.lt_or_ge hi (res * f) with h6 | h6
      · have h7 := Nat.mul_le_mul_right B (Nat.succ_le_of_lt h6)
        rw [Nat.succ_mul] at h7
        have h8 : res * (f * B + s) = res * f * B + res * s := by rw [Nat.mul_add, Nat.mul_assoc]
        walk_at "om"
      · exact h6
    have h6 := (Nat.le_div_iff_mul_le hf.1).mpr h5
    walk_at "om"
  refine EX_mid (fun m H' => Le [(Str.ofString "limb", .int res)] m ∧ H' = H) ?_ ?_
  · refine EX_while2 (fun q m H' => Le [(Str.ofString "top", .ref rt), (Str.ofString "first", .int f), (Str.ofString "second", .int s), (Str.ofString "w", .int w), (Str.ofString "base", .int B), (Str.ofString "limb", .int q), (Str.ofString "rest", .int ((hi - q * f : Nat) : Int))] m ∧ H' = H ∧ res ≤ q ∧ q ≤ q0)
      (fun q m H' b => Le [(Str.ofString "top", .ref rt), (Str.ofString "first", .int f), (Str.ofString "second", .int s), (Str.ofString "w", .int w), (Str.ofString "base", .int B), (Str.ofString "limb", .int q), (Str.ofString "rest", .int ((hi - q * f : Nat) : Int))] m ∧ H' = H ∧ res ≤ q ∧ q ≤ q0 ∧ b = decide (res < q)) (n0 := q0)
      ⟨.of ⟨by with_unfolding_all rfl, by with_unfolding_all rfl, by with_unfolding_all rfl, by with_unfolding_all rfl, by with_unfolding_all rfl, by with_unfolding_all rfl, by with_unfolding_all rfl, trivial⟩, rfl, hres0, Nat.le_refl _⟩ ?_ ?_ ?_
    · rintro q m H' ⟨hm, rfl, hq1, hq2⟩
      have hqB : q ≤ B - 1 := by walk_at "om"
      have hqf : q * f ≤ hi := Nat.le_trans (Nat.mul_le_mul_right f hq2) hq0f
      have hTq := hT q hqB
      have hmul : q * (f * B + s) = q * f * B + q * s := by rw [Nat.mul_add, Nat.mul_assoc]
      have hsub : (hi - q * f) * B = hi * B - q * f * B := Nat.sub_mul _ _ _
      have hle : q * f * B ≤ hi * B := Nat.mul_le_mul_right B hqf
      have l : ∀ {x : Str} {v : V}, lkp [(Str.ofString "top", .ref rt), (Str.ofString "first", .int f), (Str.ofString "second", .int s), (Str.ofString "w", .int w), (Str.ofString "base", .int B), (Str.ofString "limb", .int q), (Str.ofString "rest", .int ((hi - q * f : Nat) : Int))] x = some v → lkp m x = some v := fun h => hm _ _ h
      refine TV_bools (TB_and (TV_lt (EV_local (l (by with_unfolding_all rfl)) (EV_local (l (by with_unfolding_all rfl)) ⟨_, _, rfl, rfl, trivial, fun h => ?_, fun h => ?_⟩))))
      · have h := of_decide_eq_true h
        refine TB_and (TV_gt (EV_mul (EV_local (l (by with_unfolding_all rfl)) (EV_local (l (by with_unfolding_all rfl)) ⟨_, _, rfl, rfl, ⟨by walk_at "om", by walk_at "om"⟩, EV_bor (EV_shl (EV_local (l (by with_unfolding_all rfl)) (EV_local (l (by with_unfolding_all rfl)) ⟨_, w, rfl, rfl, ⟨by walk_at "om", by walk_at "om"⟩,
          EV_item (EV_local (l (by with_unfolding_all rfl)) (EV_int ⟨_, _, _, ((0 : Nat) : Int), _, rfl, rfl, hrt, by decide, rfl, ⟨_, _, _, rfl, rfl, hor _ t0 h0, ⟨_, _, rfl, rfl, trivial, fun h3 => ?_, fun h3 => ?_⟩⟩⟩))⟩)))⟩))))
        · have h3 := of_decide_eq_true h3
          refine TB_and_nil ⟨hm, rfl, hq1, hq2, ?_⟩
          have h4 : (hi - q * f) * B + t0 < q * s := by
            rw [← Int.natCast_mul] at h3; exact Int.ofNat_lt.mp h3
          symm; apply decide_eq_true; walk_at "om"
        · have h3 := of_decide_eq_false h3
          refine ⟨hm, rfl, hq1, hq2, ?_⟩
          have h4 : ¬ (hi - q * f) * B + t0 < q * s := fun h5 => h3 (by rw [← Int.natCast_mul]; exact Int.ofNat_lt.mpr h5)
          symm; apply decide_eq_false; walk_at "om"
      · have h := of_decide_eq_false h
        refine ⟨hm, rfl, hq1, hq2, ?_⟩
        have h4 : B ≤ hi - q * f := by walk_at "om"
        have h5 := Nat.mul_le_mul_right B h4
        have h6 : q * s ≤ B * B := Nat.mul_le_mul (by walk_at "om") (by walk_at "om")
        symm; apply decide_eq_false; walk_at "om"
    · rintro q m H' ⟨hm, rfl, hq1, hq2, hb⟩
      have hb := of_decide_eq_true hb.symm
      refine EX_weak ?_ hm
      have hqf : q * f ≤ hi := Nat.le_trans (Nat.mul_le_mul_right f hq2) hq0f
      repeat' walk_at "mv"
      refine ⟨q - 1, by walk_at "om", .of ⟨by with_unfolding_all rfl, by with_unfolding_all rfl, by with_unfolding_all rfl, by with_unfolding_all rfl, by with_unfolding_all rfl, ?_, ?_, trivial⟩, rfl, by walk_at "om", by walk_at "om"⟩
      · have : ((q - 1 : Nat) : Int) = (q : Int) - 1 := by walk_at "om"
        rw [this]; with_unfolding_all rfl
      · have h7 : (q - 1) * f = q * f - f := by rw [Nat.sub_mul, Nat.one_mul]
        have h8 : f ≤ q * f := Nat.le_mul_of_pos_left f (by walk_at "om")
        have : ((hi - (q - 1) * f : Nat) : Int) = ((hi - q * f : Nat) : Int) + f := by walk_at "om"
        rw [this]; with_unfolding_all rfl
    · rintro q m H' ⟨hm, rfl, hq1, hq2, hb⟩
      have hb := of_decide_eq_false hb.symm
      have : q = res := by walk_at "om"
      subst this
      exact ⟨hm.trans' ⟨by with_unfolding_all rfl, trivial⟩, rfl⟩
  · rintro m H' ⟨hm, rfl⟩
    refine EX_weak ?_ hm
    repeat' walk_at "mv"
    exact ⟨.refl, rfl⟩
end
section
open PySem PySem.W PySem.Calls PyProof.Rows

variable {e : Ev} {A : Around} {H : Hp} {Q : V → Hp → Prop}

theorem set_id {H : Hp} {d : Addr} {o : HO} (h : H d = some o) : H.set d o = H := by
  funext b; unfold Hp.set; split
  · rename_i q; rw [q, h]
  · rfl
theorem rst_set {H : Hp} {D : Addr} {o : HO} : rst (· = D) H ((frz (· = D) H).set D o) = H.set D o := by
  funext b
  unfold rst Hp.set frz
  by_cases q : b = D
  · simp [q]
  · simp only [q, if_false]
    cases H b <;> rfl
theorem frz_other {H : Hp} {D r : Addr} {t : Bool} {xs : List V} (h : At H r t xs) (hne : r ≠ D) : frz (· = D) H r = some ⟨false, t, xs⟩ := by
  obtain ⟨w, e⟩ := h; simp [frz, hne, e]
theorem frz_self {H : Hp} {D : Addr} : frz (· = D) H D = H D := by simp [frz]
theorem take_set_le {xs : List Int} {k i : Nat} {v : Int} (h : i ≤ k) : (xs.set k v).take i = xs.take i := by
  rw [List.take_set, List.set_eq_of_length_le]
  rw [List.length_take]; walk_at "om"
theorem drop_set_lt {xs : List Int} {k i : Nat} {v : Int} (h : k < i) : (xs.set k v).drop i = xs.drop i := List.drop_set_of_lt h

theorem take_turn {w k : Nat} {c g o l : Int} {gs : List Int} (hg : Dg (2 ^ w) gs) (hc : 0 ≤ c ∧ c ≤ 2 ^ w) (eg : gs[k]? = some g) (ho : 0 ≤ o ∧ o < 2 ^ w) (hl : 0 ≤ l ∧ l < 2 ^ w) (hw : 0 < w)
    {s t : Int} (hv : val (2 ^ w) gs = s + (2 ^ w) ^ k * c) (ht : t = s - (2 ^ w) ^ k * (l * o)) :
    Dg (2 ^ w) (gs.set k (if g - (l * o + c) % 2 ^ w < 0 then g - (l * o + c) % 2 ^ w + 2 ^ w else g - (l * o + c) % 2 ^ w)) ∧
      (0 ≤ (l * o + c) / 2 ^ w + (if g - (l * o + c) % 2 ^ w < 0 then (1 : Int) else 0) ∧ (l * o + c) / 2 ^ w + (if g - (l * o + c) % 2 ^ w < 0 then (1 : Int) else 0) ≤ 2 ^ w) ∧
      val (2 ^ w) (gs.set k (if g - (l * o + c) % 2 ^ w < 0 then g - (l * o + c) % 2 ^ w + 2 ^ w else g - (l * o + c) % 2 ^ w)) = t + (2 ^ w) ^ (k + 1) * ((l * o + c) / 2 ^ w + (if g - (l * o + c) % 2 ^ w < 0 then (1 : Int) else 0)) := by
  have hB := B_pos w
  have hB1 := B_gt1 hw
  have hgg := hg.get eg
  have h0 := Int.mul_nonneg hl.1 ho.1
  have hm := mod_dg (c := l * o + c) hB
  have hd0 := div_nn hB (by walk_at "om" : 0 ≤ l * o + c)
  have hd1 : (l * o + c) / 2 ^ w < 2 ^ w := Int.ediv_lt_of_lt_mul hB (by
    have h1 : l * o ≤ (2 ^ w - 1) * (2 ^ w - 1) := Int.mul_le_mul (by walk_at "om") (by walk_at "om") ho.1 (by walk_at "om")
    generalize (2 : Int) ^ w = B at *
    have : (B - 1) * (B - 1) = B * B - 2 * B + 1 := by grind
    omega)
  refine ⟨hg.set (by split <;> walk_at "om"), by split <;> walk_at "om", ?_⟩
  rw [val_set _ eg, Int.pow_succ, ht, hv]
  have := Int.emod_add_mul_ediv (l * o + c) (2 ^ w)
  generalize (l * o + c) / 2 ^ w = q at *
  generalize (l * o + c) % 2 ^ w = r at *
  generalize (2 ^ w : Int) ^ k = P at *
  generalize (2 : Int) ^ w = B at *
  split <;> grind

theorem ok_take {w : Nat} {D rb : Addr} {R Y : List Int} {l at_ : Nat} (hw : 0 < w) (hw9 : w ≤ 20) (O : e.c.Ok) (hA : Rm A 1) (hD : H D = some ⟨true, false, iv R⟩) (hb : At H rb false (iv Y)) (hne : rb ≠ D)
    (dR : Dg (2 ^ w) R) (dY : Dg (2 ^ w) Y) (hR : R.length ≤ 200) (hat : at_ + Y.length < R.length) (hl : l < 2 ^ w)
    (k : ∀ (R' : List Int) (ret : Int), Dg (2 ^ w) R' → R'.length = R.length → (ret = 0 ∨ ret = 1) → val (2 ^ w) R' = val (2 ^ w) R - (2 ^ w) ^ at_ * (l * val (2 ^ w) Y) + (2 ^ w) ^ (at_ + Y.length + 1) * ret →
      R'.take at_ = R.take at_ → R'.drop (at_ + Y.length + 1) = R.drop (at_ + Y.length + 1) → Q (.int ret) (H.set D ⟨true, false, iv R'⟩)) :
    CALL e.c A 210 [.ref D, .ref rb, .int l, .int at_, .int w] H Q := by
  refine CALL_frz (· = D) ?_
  refine CALL_enter [Str.ofString "rest", Str.ofString "b", Str.ofString "limb", Str.ofString "at", Str.ofString "w"] O hA.room rfl rfl (fun us hl => ?_) rfl (by decide) (by decide) (by decide) (fun L => ?_)
  · obtain ⟨u, v, x, y, z, rfl⟩ := len5 hl; rfl
  have hrb := frz_other hb hne
  have hrD : frz (· = D) H D = some ⟨true, false, iv R⟩ := by rw [frz_self]; exact hD
  have hk : ∀ (R' : List Int) (ret : Int), Dg (2 ^ w) R' → R'.length = R.length → (ret = 0 ∨ ret = 1) → val (2 ^ w) R' = val (2 ^ w) R - (2 ^ w) ^ at_ * (l * val (2 ^ w) Y) + (2 ^ w) ^ (at_ + Y.length + 1) * ret →
      R'.take at_ = R.take at_ → R'.drop (at_ + Y.length + 1) = R.drop (at_ + Y.length + 1) → Q (.int ret) (rst (· = D) H ((frz (· = D) H).set D ⟨true, false, iv R'⟩)) := by
    intro R' ret a b c d e f; rw [rst_set]; exact k R' ret a b c d e f
  generalize rst (· = D) H = rs at *
  generalize frz (· = D) H = H0 at *
  clear hD hb k
  have hh := hA.h
  have hB := B_pos w
  have hB20 : (2 ^ w : Int) ≤ 2 ^ 20 := by
    rw [pow_cast]; exact Int.ofNat_le.mpr (Nat.pow_le_pow_right (by decide) hw9)
  have hlI : (0 : Int) ≤ l ∧ (l : Int) < 2 ^ w := ⟨by walk_at "om", by rw [pow_cast]; exact Int.ofNat_lt.mpr hl⟩
  have hb2 : ∀ o, H0.set D o rb = some ⟨false, false, iv Y⟩ := fun o => by rw [Hp.set_ne hne]; exact hrb
  repeat' walk_at "mv"
  refine ⟨1, w, rfl, rfl, ⟨by walk_at "om", by decide⟩, ?_⟩
  rw [Int.one_mul]
  repeat' walk_at "mv"
  refine ⟨_, _, rfl, ?_⟩
  refine EX_cut (fun m H' => ∃ (c : Int) (gs : List Int), Le [(Str.ofString "rest", .ref D), (Str.ofString "b", .ref rb), (Str.ofString "at", .int at_), (Str.ofString "base", .int (2 ^ w)), (Str.ofString "carry", .int c)] m ∧
    H' = H0.set D ⟨true, false, iv gs⟩ ∧ Dg (2 ^ w) gs ∧ gs.length = R.length ∧ (0 ≤ c ∧ c ≤ 2 ^ w) ∧ val (2 ^ w) gs = val (2 ^ w) R - (2 ^ w) ^ at_ * (l * val (2 ^ w) Y) + (2 ^ w) ^ (at_ + Y.length) * c ∧
    gs.take at_ = R.take at_ ∧ gs.drop (at_ + Y.length + 1) = R.drop (at_ + Y.length + 1)) ?_ ?_
  · refine EX_forenum O hh (g_enumerate _) ?_
    repeat' walk_at "mv"
    refine ⟨rb, iv Y, fun j m H' => ∃ (c : Int) (gs : List Int), Le [(Str.ofString "rest", .ref D), (Str.ofString "b", .ref rb), (Str.ofString "limb", .int l), (Str.ofString "at", .int at_), (Str.ofString "base", .int (2 ^ w)), (Str.ofString "carry", .int c)] m ∧
      H' = H0.set D ⟨true, false, iv gs⟩ ∧ Dg (2 ^ w) gs ∧ gs.length = R.length ∧ (0 ≤ c ∧ c ≤ 2 ^ w) ∧ val (2 ^ w) gs = val (2 ^ w) R - (2 ^ w) ^ at_ * (l * val (2 ^ w) (Y.take j)) + (2 ^ w) ^ (at_ + j) * c ∧
      gs.take at_ = R.take at_ ∧ gs.drop (at_ + Y.length + 1) = R.drop (at_ + Y.length + 1), rfl, hrb,
      ⟨0, R, .of ⟨by with_unfolding_all rfl, by with_unfolding_all rfl, by with_unfolding_all rfl, by with_unfolding_all rfl, by with_unfolding_all rfl, by with_unfolding_all rfl, trivial⟩, (set_id hrD).symm, dR, rfl, by walk_at "om", by simp [val], rfl, rfl⟩, ?_, ?_⟩
    · rintro j m H' v hv0 ⟨c, gs, hm, rfl, hg, hlg, hc, hvg, hT, hDr⟩
      obtain ⟨q, eq, rfl⟩ := iv_get_inv hv0
      have hj : j < Y.length := by
        rcases Nat.lt_or_ge j Y.length with h1 | h1
        · exact h1
        · rw [List.getElem?_eq_none h1] at eq; cases eq
      have hq := dY.get eq
      refine EX_weak ?_ ((hm.put _ _).put _ _)
      obtain ⟨g, eg⟩ : ∃ g, gs[at_ + j]? = some g := ⟨_, List.getElem?_eq_getElem (by walk_at "om")⟩
      obtain ⟨t1, t2, t3⟩ := take_turn hg hc eg hq hlI hw hvg (t := val (2 ^ w) R - (2 ^ w) ^ at_ * (l * val (2 ^ w) (Y.take (j + 1)))) (by
        rw [val_take_succ Y j eq, Int.pow_add]
        generalize (2 ^ w : Int) ^ at_ = PI
        generalize (2 ^ w : Int) ^ j = PJ
        grind)
      have e1 : ((at_ : Int) + j).toNat = at_ + j := by walk_at "om"
      repeat' walk_at "mv"
      refine ⟨_, _, _, _, g, rfl, rfl, Hp.set_same, ⟨by walk_at "om", by walk_at "om"⟩, by rw [e1]; exact eg, ?_⟩
      repeat' walk_at "mv"
      refine ⟨_, _, rfl, rfl, ⟨by walk_at "om", by walk_at "om"⟩, ?_⟩
      repeat' walk_at "mv"
      refine ⟨_, _, rfl, rfl, hB, ?_⟩
      repeat' walk_at "mv"
      refine ⟨_, _, rfl, rfl, ⟨by walk_at "om", by walk_at "om"⟩, ?_⟩
      repeat' walk_at "mv"
      refine ⟨_, _, rfl, rfl, ⟨hB, by walk_at "om"⟩, ?_⟩
      refine EV_post (fun v H2 => v = .int (if g - (l * q + c) % 2 ^ w < 0 then (1 : Int) else 0) ∧ H2 = H0.set D ⟨true, false, iv gs⟩) ?_ ?_
      · refine EV_ifexp ?_
        repeat' walk_at "mv"
        refine ⟨fun h => ?_, fun h => ?_⟩
        · have h := of_decide_eq_true h
          repeat' walk_at "mv"
          exact ⟨by rw [if_pos h], rfl⟩
        · have h := of_decide_eq_false h
          repeat' walk_at "mv"
          exact ⟨by rw [if_neg h], rfl⟩
      rintro _ _ ⟨rfl, rfl⟩
      repeat' walk_at "mv"
      refine EX_setitem ?_
      refine EV_post (fun v H2 => v = .int (if g - (l * q + c) % 2 ^ w < 0 then g - (l * q + c) % 2 ^ w + 2 ^ w else g - (l * q + c) % 2 ^ w) ∧ H2 = H0.set D ⟨true, false, iv gs⟩) ?_ ?_
      · refine EV_ifexp ?_
        repeat' walk_at "mv"
        refine ⟨fun h => ?_, fun h => ?_⟩
        · have h := of_decide_eq_true h
          repeat' walk_at "mv"
          exact ⟨by rw [if_pos h], rfl⟩
        · have h := of_decide_eq_false h
          repeat' walk_at "mv"
          exact ⟨by rw [if_neg h], rfl⟩
      rintro _ _ ⟨rfl, rfl⟩
      repeat' walk_at "mv"
      refine ⟨_, _, _, rfl, rfl, Hp.set_same, ⟨by walk_at "om", by rw [iv_len]; walk_at "om", by walk_at "om"⟩, ?_⟩
      rw [Hp.set_set, iv_set, e1]
      repeat' walk_at "mv"
      exact ⟨_, _, .of ⟨by with_unfolding_all rfl, by with_unfolding_all rfl, by with_unfolding_all rfl, by with_unfolding_all rfl, by with_unfolding_all rfl, by with_unfolding_all rfl, trivial⟩, rfl, t1, by simpa using hlg, t2, t3,
        by rw [take_set_le (by walk_at "om")]; exact hT, by rw [drop_set_lt (by walk_at "om")]; exact hDr⟩
    · rintro m H' ⟨c, gs, hm, rfl, hg, hlg, hc, hvg, hT, hDr⟩
      rw [iv_len, take_all (xs := Y) (Nat.le_refl _)] at hvg
      exact ⟨c, gs, hm.trans' ⟨by with_unfolding_all rfl, by with_unfolding_all rfl, by with_unfolding_all rfl, by with_unfolding_all rfl, by with_unfolding_all rfl, trivial⟩, rfl, hg, hlg, hc, hvg, hT, hDr⟩
  · rintro m H' ⟨c, gs, hm, rfl, hg, hlg, hc, hvg, hT, hDr⟩
    refine EX_weak ?_ hm
    obtain ⟨g, eg⟩ : ∃ g, gs[at_ + Y.length]? = some g := ⟨_, List.getElem?_eq_getElem (by walk_at "om")⟩
    have hgg := hg.get eg
    have e1 : ((at_ : Int) + Y.length).toNat = at_ + Y.length := by walk_at "om"
    repeat' walk_at "mv"
    refine ⟨_, _, _, rfl, hb2 _, by rw [iv_len]; walk_at "om", ?_⟩
    rw [iv_len]
    repeat' walk_at "mv"
    refine ⟨_, _, _, _, g, rfl, rfl, Hp.set_same, ⟨by walk_at "om", by walk_at "om"⟩, by rw [e1]; exact eg, ?_⟩
    repeat' walk_at "mv"
    refine EX_setitem ?_
    refine EV_post (fun v H2 => v = .int (if g - c < 0 then g - c + 2 ^ w else g - c) ∧ H2 = H0.set D ⟨true, false, iv gs⟩) ?_ ?_
    · refine EV_ifexp ?_
      repeat' walk_at "mv"
      refine ⟨fun h => ?_, fun h => ?_⟩
      · have h := of_decide_eq_true h
        repeat' walk_at "mv"
        exact ⟨by rw [if_pos h], rfl⟩
      · have h := of_decide_eq_false h
        repeat' walk_at "mv"
        exact ⟨by rw [if_neg h], rfl⟩
    rintro _ _ ⟨rfl, rfl⟩
    repeat' walk_at "mv"
    refine ⟨_, _, _, rfl, hb2 _, by rw [iv_len]; walk_at "om", ?_⟩
    rw [iv_len]
    repeat' walk_at "mv"
    refine ⟨_, _, _, rfl, rfl, Hp.set_same, ⟨by walk_at "om", by rw [iv_len]; walk_at "om", by walk_at "om"⟩, ?_⟩
    rw [Hp.set_set, iv_set, e1]
    have fin := hk (gs.set (at_ + Y.length) (if g - c < 0 then g - c + 2 ^ w else g - c)) (if g - c < 0 then (1 : Int) else 0) (hg.set (by split <;> walk_at "om")) (by simpa using hlg) (by split <;> simp)
      (by
        rw [val_set _ eg, hvg, Int.pow_succ]
        generalize (2 ^ w : Int) ^ (at_ + Y.length) = P
        generalize (2 ^ w : Int) ^ at_ = P2
        generalize (2 : Int) ^ w = B
        split <;> grind)
      (by rw [take_set_le (by walk_at "om")]; exact hT) (by rw [drop_set_lt (by walk_at "om")]; exact hDr)
    repeat' walk_at "mv"
    refine EV_ifexp ?_
    repeat' walk_at "mv"
    refine ⟨fun h => ?_, fun h => ?_⟩
    · have h := of_decide_eq_true h
      repeat' walk_at "mv"
      simp only [if_pos h] at fin ⊢
      exact fin
    · have h := of_decide_eq_false h
      repeat' walk_at "mv"
      simp only [if_neg h] at fin ⊢
      exact fin

theorem ok_put {w : Nat} {D rb : Addr} {R Y : List Int} {at_ : Nat} (hw : 0 < w) (hw9 : w ≤ 20) (O : e.c.Ok) (hA : Rm A 1) (hD : H D = some ⟨true, false, iv R⟩) (hb : At H rb false (iv Y)) (hne : rb ≠ D)
    (dR : Dg (2 ^ w) R) (dY : Dg (2 ^ w) Y) (hR : R.length ≤ 200) (hat : at_ + Y.length < R.length)
    (k : ∀ (R' : List Int) (c : Int), Dg (2 ^ w) R' → R'.length = R.length → val (2 ^ w) R' = val (2 ^ w) R + (2 ^ w) ^ at_ * val (2 ^ w) Y - (2 ^ w) ^ (at_ + Y.length + 1) * c →
      R'.take at_ = R.take at_ → R'.drop (at_ + Y.length + 1) = R.drop (at_ + Y.length + 1) → Q .none (H.set D ⟨true, false, iv R'⟩)) :
    CALL e.c A 217 [.ref D, .ref rb, .int at_, .int w] H Q := by
  refine CALL_frz (· = D) ?_
  refine CALL_enter [Str.ofString "rest", Str.ofString "b", Str.ofString "at", Str.ofString "w"] O hA.room rfl rfl (fun us hl => ?_) rfl (by decide) (by decide) (by decide) (fun L => ?_)
  · obtain ⟨u, v, x, y, rfl⟩ := len4 hl; rfl
  have hrb := frz_other hb hne
  have hrD : frz (· = D) H D = some ⟨true, false, iv R⟩ := by rw [frz_self]; exact hD
  have hk : ∀ (R' : List Int) (c : Int), Dg (2 ^ w) R' → R'.length = R.length → val (2 ^ w) R' = val (2 ^ w) R + (2 ^ w) ^ at_ * val (2 ^ w) Y - (2 ^ w) ^ (at_ + Y.length + 1) * c →
      R'.take at_ = R.take at_ → R'.drop (at_ + Y.length + 1) = R.drop (at_ + Y.length + 1) → Q .none (rst (· = D) H ((frz (· = D) H).set D ⟨true, false, iv R'⟩)) := by
    intro R' ret a b d e f; rw [rst_set]; exact k R' ret a b d e f
  generalize rst (· = D) H = rs at *
  generalize frz (· = D) H = H0 at *
  clear hD hb k
  have hh := hA.h
  have hB := B_pos w
  have hB20 : (2 ^ w : Int) ≤ 2 ^ 20 := by
    rw [pow_cast]; exact Int.ofNat_le.mpr (Nat.pow_le_pow_right (by decide) hw9)
  have hb2 : ∀ o, H0.set D o rb = some ⟨false, false, iv Y⟩ := fun o => by rw [Hp.set_ne hne]; exact hrb
  repeat' walk_at "mv"
  refine ⟨1, w, rfl, rfl, ⟨by walk_at "om", by decide⟩, ?_⟩
  rw [Int.one_mul]
  repeat' walk_at "mv"
  refine ⟨_, _, rfl, ?_⟩
  refine EX_cut (fun m H' => ∃ (c : Int) (gs : List Int), Le [(Str.ofString "rest", .ref D), (Str.ofString "b", .ref rb), (Str.ofString "at", .int at_), (Str.ofString "w", .int w), (Str.ofString "mask", .int (2 ^ w - 1)), (Str.ofString "carry", .int c)] m ∧
    H' = H0.set D ⟨true, false, iv gs⟩ ∧ Dg (2 ^ w) gs ∧ gs.length = R.length ∧ (0 ≤ c ∧ c ≤ 1) ∧ val (2 ^ w) gs + (2 ^ w) ^ (at_ + Y.length) * c = val (2 ^ w) R + (2 ^ w) ^ at_ * val (2 ^ w) Y ∧
    gs.take at_ = R.take at_ ∧ gs.drop (at_ + Y.length + 1) = R.drop (at_ + Y.length + 1)) ?_ ?_
  · refine EX_forenum O hh (g_enumerate _) ?_
    repeat' walk_at "mv"
    refine ⟨rb, iv Y, fun j m H' => ∃ (c : Int) (gs : List Int), Le [(Str.ofString "rest", .ref D), (Str.ofString "b", .ref rb), (Str.ofString "at", .int at_), (Str.ofString "w", .int w), (Str.ofString "mask", .int (2 ^ w - 1)), (Str.ofString "carry", .int c)] m ∧
      H' = H0.set D ⟨true, false, iv gs⟩ ∧ Dg (2 ^ w) gs ∧ gs.length = R.length ∧ (0 ≤ c ∧ c ≤ 1) ∧ val (2 ^ w) gs + (2 ^ w) ^ (at_ + j) * c = val (2 ^ w) R + (2 ^ w) ^ at_ * val (2 ^ w) (Y.take j) ∧
      gs.take at_ = R.take at_ ∧ gs.drop (at_ + Y.length + 1) = R.drop (at_ + Y.length + 1), rfl, hrb,
      ⟨0, R, .of ⟨by with_unfolding_all rfl, by with_unfolding_all rfl, by with_unfolding_all rfl, by with_unfolding_all rfl, by with_unfolding_all rfl, by with_unfolding_all rfl, trivial⟩, (set_id hrD).symm, dR, rfl, by walk_at "om", by simp [val], rfl, rfl⟩, ?_, ?_⟩
    · rintro j m H' v hv0 ⟨c, gs, hm, rfl, hg, hlg, hc, hvg, hT, hDr⟩
      obtain ⟨q, eq, rfl⟩ := iv_get_inv hv0
      have hj : j < Y.length := by
        rcases Nat.lt_or_ge j Y.length with h1 | h1
        · exact h1
        · rw [List.getElem?_eq_none h1] at eq; cases eq
      have hq := dY.get eq
      refine EX_weak ?_ ((hm.put _ _).put _ _)
      obtain ⟨g, eg⟩ : ∃ g, gs[at_ + j]? = some g := ⟨_, List.getElem?_eq_getElem (by walk_at "om")⟩
      have hgg := hg.get eg
      have e1 : ((at_ : Int) + j).toNat = at_ + j := by walk_at "om"
      have t3 : val (2 ^ w) (gs.set (at_ + j) ((c + (g + q)) % 2 ^ w)) + (2 ^ w) ^ (at_ + (j + 1)) * ((c + (g + q)) / 2 ^ w) = val (2 ^ w) R + (2 ^ w) ^ at_ * val (2 ^ w) (Y.take (j + 1)) := by
        rw [val_set _ eg, val_take_succ Y j eq, show at_ + (j + 1) = at_ + j + 1 by walk_at "om", Int.pow_succ]
        have h1 := Int.emod_add_mul_ediv (c + (g + q)) (2 ^ w)
        have h2 : (2 ^ w : Int) ^ at_ * (2 ^ w) ^ j = (2 ^ w) ^ (at_ + j) := (Int.pow_add _ _ _).symm
        generalize (c + (g + q)) / 2 ^ w = x at *
        generalize (c + (g + q)) % 2 ^ w = r at *
        generalize (2 ^ w : Int) ^ (at_ + j) = P at *
        generalize (2 ^ w : Int) ^ at_ = PI at *
        generalize (2 ^ w : Int) ^ j = PJ at *
        generalize (2 : Int) ^ w = B at *
        grind
      repeat' walk_at "mv"
      refine ⟨_, _, _, _, g, rfl, rfl, Hp.set_same, ⟨by walk_at "om", by walk_at "om"⟩, by rw [e1]; exact eg, ?_⟩
      repeat' walk_at "mv"
      refine EX_setitem ?_
      repeat' walk_at "mv"
      refine ⟨_, w, rfl, rfl, by walk_at "om", ?_⟩
      repeat' walk_at "mv"
      refine ⟨_, _, _, rfl, rfl, Hp.set_same, ⟨by walk_at "om", by rw [iv_len]; walk_at "om", by walk_at "om"⟩, ?_⟩
      rw [Hp.set_set, iv_set, e1]
      repeat' walk_at "mv"
      exact ⟨_, _, .of ⟨by with_unfolding_all rfl, by with_unfolding_all rfl, by with_unfolding_all rfl, by with_unfolding_all rfl, by with_unfolding_all rfl, by with_unfolding_all rfl, trivial⟩, rfl, hg.set (mod_dg hB), by simpa using hlg, ⟨div_nn hB (by walk_at "om"), div_le_of hB (by walk_at "om")⟩, t3,
        by rw [take_set_le (by walk_at "om")]; exact hT, by rw [drop_set_lt (by walk_at "om")]; exact hDr⟩
    · rintro m H' ⟨c, gs, hm, rfl, hg, hlg, hc, hvg, hT, hDr⟩
      rw [iv_len, take_all (xs := Y) (Nat.le_refl _)] at hvg
      exact ⟨c, gs, hm, rfl, hg, hlg, hc, hvg, hT, hDr⟩
  · rintro m H' ⟨c, gs, hm, rfl, hg, hlg, hc, hvg, hT, hDr⟩
    refine EX_weak ?_ hm
    obtain ⟨g, eg⟩ : ∃ g, gs[at_ + Y.length]? = some g := ⟨_, List.getElem?_eq_getElem (by walk_at "om")⟩
    have hgg := hg.get eg
    have e1 : ((at_ : Int) + Y.length).toNat = at_ + Y.length := by walk_at "om"
    have fin := hk (gs.set (at_ + Y.length) ((g + c) % 2 ^ w)) ((g + c) / 2 ^ w) (hg.set (mod_dg hB)) (by simpa using hlg)
      (by
        rw [val_set _ eg, Int.pow_succ]
        have h1 := Int.emod_add_mul_ediv (g + c) (2 ^ w)
        generalize (g + c) / 2 ^ w = x at *
        generalize (g + c) % 2 ^ w = r at *
        generalize (2 ^ w : Int) ^ (at_ + Y.length) = P at *
        generalize (2 ^ w : Int) ^ at_ = P2 at *
        generalize (2 : Int) ^ w = B at *
        grind)
      (by rw [take_set_le (by walk_at "om")]; exact hT) (by rw [drop_set_lt (by walk_at "om")]; exact hDr)
    repeat' walk_at "mv"
    refine EX_setitem ?_
    repeat' walk_at "mv"
    refine ⟨_, _, _, rfl, hb2 _, by rw [iv_len]; walk_at "om", ?_⟩
    rw [iv_len]
    repeat' walk_at "mv"
    refine ⟨_, _, _, _, g, rfl, rfl, Hp.set_same, ⟨by walk_at "om", by walk_at "om"⟩, by rw [e1]; exact eg, ?_⟩
    repeat' walk_at "mv"
    refine ⟨_, w, rfl, rfl, by walk_at "om", ?_⟩
    repeat' walk_at "mv"
    refine ⟨_, _, _, rfl, hb2 _, by rw [iv_len]; walk_at "om", ?_⟩
    rw [iv_len]
    repeat' walk_at "mv"
    refine ⟨_, _, _, rfl, rfl, Hp.set_same, ⟨by walk_at "om", by rw [iv_len]; walk_at "om", by walk_at "om"⟩, ?_⟩
    rw [Hp.set_set, iv_set, e1]
    repeat' walk_at "mv"
    exact fin
end
section
open PySem PySem.W PySem.Calls PyProof.Rows

variable {e : Ev} {A : Around} {H : Hp} {Q : V → Hp → Prop}

theorem div_guess {B P S V lo vl top v2 : Int} (hB : 1 < B) (hP : 0 < P) (hS : S = lo + P * top) (hlo : 0 ≤ lo ∧ lo < P) (hV : V = vl + P * v2) (hvl : 0 ≤ vl ∧ vl < P) (hv2 : B ≤ v2) (hSV : S < B * V) (ht : 0 ≤ top)
    {q : Int} (hq : q = min (top / v2) (B - 1)) : (0 ≤ q ∧ q ≤ B - 1) ∧ S < (q + 1) * V ∧ (q - 1) * V ≤ S := by
  have hv0 : 0 < v2 := by walk_at "om"
  have h0 : 0 ≤ top / v2 := Int.ediv_nonneg ht (by walk_at "om")
  have h1 : q * v2 ≤ top := Int.le_trans (Int.mul_le_mul_of_nonneg_right (by walk_at "om") (by walk_at "om")) (Int.ediv_mul_le top (by walk_at "om"))
  have hVn : 0 ≤ V := by have := Int.mul_nonneg (Int.le_of_lt hP) (Int.le_of_lt hv0); walk_at "om"
  refine ⟨by walk_at "om", ?_, ?_⟩
  · rcases Int.lt_or_le (top / v2) (B - 1) with h | h
    · have hq' : q = top / v2 := by walk_at "om"
      have h2 : top < (q + 1) * v2 := by
        rw [hq', Int.add_mul, Int.one_mul, Int.mul_comm]
        have := Int.lt_mul_ediv_self_add (x := top) hv0
        exact this
      have h3 : P * (top + 1) ≤ P * ((q + 1) * v2) := Int.mul_le_mul_of_nonneg_left (by walk_at "om") (by walk_at "om")
      have h4 : 0 ≤ (q + 1) * vl := Int.mul_nonneg (by walk_at "om") hvl.1
      have h6 : (q + 1) * V = (q + 1) * vl + P * ((q + 1) * v2) := by rw [hV]; grind
      have h7 : P * (top + 1) = P * top + P := by grind
      walk_at "om"
    · have : q = B - 1 := by walk_at "om"
      subst this
      simpa using hSV
  · rcases Int.lt_or_le 0 q with h | h
    · have h3 : P * (q * v2) ≤ P * top := Int.mul_le_mul_of_nonneg_left h1 (by walk_at "om")
      have h4 : (q - 1) * vl ≤ (q - 1) * P := Int.mul_le_mul_of_nonneg_left (by walk_at "om") (by walk_at "om")
      have h5 : (q - 1) * P ≤ v2 * P := Int.mul_le_mul_of_nonneg_right (by walk_at "om") (by walk_at "om")
      have h6 : (q - 1) * V = (q - 1) * vl + P * (q * v2) - v2 * P := by rw [hV]; grind
      walk_at "om"
    · have : q = 0 := by walk_at "om"
      subst this
      have := Int.mul_nonneg (Int.le_of_lt hP) ht
      walk_at "om"

theorem seg_bounds {B : Int} (hB : 0 < B) {gs : List Int} (hg : Dg B gs) {i n : Nat} (hz : val B (gs.drop (i + n)) = 0) (hl : i + n ≤ gs.length) : 0 ≤ val B (gs.drop i) ∧ val B (gs.drop i) < B ^ n := by
  refine ⟨val_nonneg hB (hg.drop i), ?_⟩
  have h := val_take_drop (B := B) (gs.drop i) n (by rw [List.length_drop]; walk_at "om")
  rw [List.drop_drop, hz, Int.mul_zero, Int.add_zero] at h
  rw [h]
  have := val_lt hB ((hg.drop i).take n)
  rwa [List.length_take, List.length_drop, Nat.min_eq_left (by walk_at "om")] at this

theorem drop_set_here {xs : List Int} {k : Nat} {v : Int} (h : k < xs.length) : (xs.set k v).drop k = v :: xs.drop (k + 1) := by
  rw [List.drop_eq_getElem_cons (by simpa using h), List.getElem_set_self, List.drop_set_of_lt (by walk_at "om")]

theorem three {w : Nat} {gs : List Int} (hg : Dg (2 ^ w) gs) {i : Nat} (h : i + 3 ≤ gs.length) :
    ∃ t0 t1 t2 : Nat, (gs.drop i).take 3 = [(t0 : Int), (t1 : Int), (t2 : Int)] ∧ (t0 < 2 ^ w ∧ t1 < 2 ^ w ∧ t2 < 2 ^ w) ∧
      val (2 ^ w) (gs.drop i) = (((t2 * 2 ^ w + t1) * 2 ^ w + t0 : Nat) : Int) + (2 ^ w) ^ 3 * val (2 ^ w) (gs.drop (i + 3)) := by
  have dig : ∀ j, j < gs.length → ∃ t : Nat, gs[j]? = some (t : Int) ∧ t < 2 ^ w := fun j hj => by
    have e := List.getElem?_eq_getElem hj
    have d := hg.get e
    obtain ⟨t, ht⟩ := Int.eq_ofNat_of_zero_le d.1
    refine ⟨t, by rw [e, ht], ?_⟩
    have := d.2
    rw [ht, pow_cast] at this
    exact Int.ofNat_lt.mp this
  obtain ⟨t0, e0, l0⟩ := dig i (by walk_at "om")
  obtain ⟨t1, e1, l1⟩ := dig (i + 1) (by walk_at "om")
  obtain ⟨t2, e2, l2⟩ := dig (i + 2) (by walk_at "om")
  have cons : ∀ {j : Nat} {x : Int}, gs[j]? = some x → gs.drop j = x :: gs.drop (j + 1) := fun {j x} ex => by
    have hj : j < gs.length := by
      rcases Nat.lt_or_ge j gs.length with q | q
      · exact q
      · rw [List.getElem?_eq_none q] at ex; cases ex
    rw [List.getElem?_eq_getElem hj] at ex
    rw [List.drop_eq_getElem_cons hj]
    injection ex with ex
    rw [ex]
  have hd : gs.drop i = (t0 : Int) :: (t1 : Int) :: (t2 : Int) :: gs.drop (i + 3) := by
    rw [cons e0, cons e1, cons e2]
  refine ⟨t0, t1, t2, by rw [hd]; rfl, ⟨l0, l1, l2⟩, ?_⟩
  rw [hd, val_cons, val_cons, val_cons]
  simp only [Int.natCast_add, Int.natCast_mul, pow_cast w]
  generalize ((2 ^ w : Nat) : Int) = B
  grind

/-- what one row of the division does to the segment -/
theorem row_turn {V S S1 S2 q ret c N : Int} (hV : 0 < V) (hN : V ≤ N) (hq : S < (q + 1) * V ∧ (q - 1) * V ≤ S) (h1 : S1 = S - q * V + N * ret) (b1 : 0 ≤ S1 ∧ S1 < N) (hr : ret = 0 ∨ ret = 1) :
    (ret = 0 → 0 ≤ S - q * V ∧ S - q * V < V ∧ S1 = S - q * V) ∧
    (ret = 1 → S2 = S1 + V - N * c → (0 ≤ S2 ∧ S2 < N) → 0 ≤ S - (q - 1) * V ∧ S - (q - 1) * V < V ∧ S2 = S - (q - 1) * V) := by
  have e1 : (q + 1) * V = q * V + V := by rw [Int.add_mul, Int.one_mul]
  have e2 : (q - 1) * V = q * V - V := by rw [Int.sub_mul, Int.one_mul]
  rw [e1, e2] at hq
  rw [e2]
  clear e1 e2
  refine ⟨fun h => ?_, fun h h2 b2 => ?_⟩
  · subst h; simp at h1; walk_at "om"
  · subst h; rw [Int.mul_one] at h1
    have hc : c = 1 := by
      rcases Int.lt_or_le c 1 with q1 | q1
      · have := Int.mul_le_mul_of_nonneg_left (show c ≤ 0 by walk_at "om") (show 0 ≤ N by walk_at "om")
        walk_at "om"
      · rcases Int.lt_or_le 1 c with q2 | q2
        · have := Int.mul_le_mul_of_nonneg_left (show 2 ≤ c by walk_at "om") (show 0 ≤ N by walk_at "om")
          walk_at "om"
        · walk_at "om"
    subst hc
    walk_at "om"

theorem seg_lin {P x0 a N r : Int} : P * (x0 - a + N * r) = P * x0 - P * a + P * N * r := by rw [Int.mul_add, Int.mul_sub, Int.mul_assoc]
theorem seg_lin2 {P x0 a N r : Int} : P * (x0 + a - N * r) = P * x0 + P * a - P * N * r := by rw [Int.mul_sub, Int.mul_add, Int.mul_assoc]

theorem row_math {w t : Nat} {gs Y : List Int} {F S : Nat} (hw : 0 < w) (a4 : Dg (2 ^ w) gs) (dY : Dg (2 ^ w) Y) (hY : 2 ≤ Y.length) (hl : t + Y.length + 1 ≤ gs.length) (hf0 : 0 < F) (lF : F < 2 ^ w) (lS : S < 2 ^ w)
    (hV2 : val (2 ^ w) (Y.drop (Y.length - 2)) = (F : Int) * 2 ^ w + S) (hV0 : 0 < val (2 ^ w) Y) (a9 : val (2 ^ w) (gs.drop (t + 1)) < val (2 ^ w) Y) :
    ∃ t0 t1 t2 q : Nat, (gs.drop (t + (Y.length - 2))).take 3 = [(t0 : Int), (t1 : Int), (t2 : Int)] ∧ (t0 < 2 ^ w ∧ t1 < 2 ^ w ∧ t2 < 2 ^ w) ∧ q < 2 ^ w ∧ min (((t2 * 2 ^ w + t1) * 2 ^ w + t0) / (F * 2 ^ w + S)) (2 ^ w - 1) = q ∧
      ∀ (g1 : List Int) (ret : Int), Dg (2 ^ w) g1 → g1.length = gs.length → (ret = 0 ∨ ret = 1) → val (2 ^ w) g1 = val (2 ^ w) gs - (2 ^ w) ^ t * (q * val (2 ^ w) Y) + (2 ^ w) ^ (t + Y.length + 1) * ret → g1.take t = gs.take t → g1.drop (t + Y.length + 1) = gs.drop (t + Y.length + 1) →
        (ret = 0 → val (2 ^ w) g1 = val (2 ^ w) gs - (2 ^ w) ^ t * (q * val (2 ^ w) Y) ∧ val (2 ^ w) (g1.drop t) < val (2 ^ w) Y) ∧
        (ret = 1 → 1 ≤ q ∧ ∀ (g2 : List Int) (c : Int), Dg (2 ^ w) g2 → g2.length = g1.length → val (2 ^ w) g2 = val (2 ^ w) g1 + (2 ^ w) ^ t * val (2 ^ w) Y - (2 ^ w) ^ (t + Y.length + 1) * c → g2.take t = g1.take t → g2.drop (t + Y.length + 1) = g1.drop (t + Y.length + 1) →
          val (2 ^ w) g2 = val (2 ^ w) gs - (2 ^ w) ^ t * (((q - 1 : Int)) * val (2 ^ w) Y) ∧ val (2 ^ w) (g2.drop t) < val (2 ^ w) Y) := by
  have hB := B_pos w
  have hB1 := B_gt1 hw
  have hVN := val_lt' dY
  obtain ⟨g, eg⟩ : ∃ g, gs[t]? = some g := ⟨_, List.getElem?_eq_getElem (by walk_at "om")⟩
  have hgd := a4.get eg
  have eS := val_drop_pred (B := 2 ^ w) gs t eg
  have hSV : val (2 ^ w) (gs.drop t) < 2 ^ w * val (2 ^ w) Y := by
    have h1 : 2 ^ w * (val (2 ^ w) (gs.drop (t + 1)) + 1) ≤ 2 ^ w * val (2 ^ w) Y := Int.mul_le_mul_of_nonneg_left (by walk_at "om") (by walk_at "om")
    rw [Int.mul_add, Int.mul_one] at h1
    walk_at "om"
  have hz : val (2 ^ w) (gs.drop (t + (Y.length + 1))) = 0 := by
    have h1 := val_take_drop (B := 2 ^ w) (gs.drop t) (Y.length + 1) (by rw [List.length_drop]; walk_at "om")
    rw [List.drop_drop] at h1
    have h2 := val_nonneg hB (a4.drop (t + (Y.length + 1)))
    have h3 := val_nonneg hB ((a4.drop t).take (Y.length + 1))
    rcases Int.lt_or_le 0 (val (2 ^ w) (gs.drop (t + (Y.length + 1)))) with h4 | h4
    · have h5 : (2 ^ w : Int) ^ (Y.length + 1) * 1 ≤ (2 ^ w) ^ (Y.length + 1) * val (2 ^ w) (gs.drop (t + (Y.length + 1))) := Int.mul_le_mul_of_nonneg_left (by walk_at "om") (Int.le_of_lt (Int.pow_pos hB))
      have h6 : 2 ^ w * val (2 ^ w) Y ≤ 2 ^ w * (2 ^ w : Int) ^ Y.length := Int.mul_le_mul_of_nonneg_left (by walk_at "om") (by walk_at "om")
      have hp : (2 ^ w : Int) ^ (Y.length + 1) = 2 ^ w * (2 ^ w) ^ Y.length := by rw [Int.pow_succ, Int.mul_comm]
      walk_at "om"
    · walk_at "om"
  obtain ⟨t0, t1, t2, e3, ⟨l0, l1, l2⟩, v3⟩ := three a4 (i := t + (Y.length - 2)) (by walk_at "om")
  rw [show t + (Y.length - 2) + 3 = t + (Y.length + 1) by walk_at "om", hz, Int.mul_zero, Int.add_zero] at v3
  have eS2 := val_take_drop (B := 2 ^ w) (gs.drop t) (Y.length - 2) (by rw [List.length_drop]; walk_at "om")
  rw [List.drop_drop, v3] at eS2
  have eV2 := val_take_drop (B := 2 ^ w) Y (Y.length - 2) (by walk_at "om")
  rw [hV2] at eV2
  have bS := val_lt hB ((a4.drop t).take (Y.length - 2))
  rw [List.length_take, List.length_drop, Nat.min_eq_left (by walk_at "om")] at bS
  have bV := val_lt hB (dY.take (Y.length - 2))
  rw [List.length_take, Nat.min_eq_left (by walk_at "om")] at bV
  obtain ⟨q0, q1, q2⟩ := div_guess hB1 (show (0 : Int) < (2 ^ w) ^ (Y.length - 2) from Int.pow_pos hB) eS2 ⟨val_nonneg hB ((a4.drop t).take _), bS⟩ eV2 ⟨val_nonneg hB (dY.take _), bV⟩
    (by have : (1 : Int) * 2 ^ w ≤ (F : Int) * 2 ^ w := Int.mul_le_mul_of_nonneg_right (by walk_at "om") (by walk_at "om")
        omega) hSV (by walk_at "om") (q := ((min (((t2 * 2 ^ w + t1) * 2 ^ w + t0) / (F * 2 ^ w + S)) (2 ^ w - 1) : Nat) : Int)) (by
        have h1 := Nat.two_pow_pos w
        have h2 : (((2 ^ w - 1 : Nat)) : Int) = (2 : Int) ^ w - 1 := by rw [pow_cast]; walk_at "om"
        have h3 : ((F * 2 ^ w + S : Nat) : Int) = (F : Int) * 2 ^ w + S := by rw [pow_cast]; simp
        rw [← h2, ← h3, ← Int.natCast_ediv]
        omega)
  have hkB : min (((t2 * 2 ^ w + t1) * 2 ^ w + t0) / (F * 2 ^ w + S)) (2 ^ w - 1) < 2 ^ w := by have h1 := Nat.two_pow_pos w; walk_at "om"
  generalize hqd : min (((t2 * 2 ^ w + t1) * 2 ^ w + t0) / (F * 2 ^ w + S)) (2 ^ w - 1) = q at *
  have hVV : val (2 ^ w) Y ≤ (2 ^ w) ^ (Y.length + 1) := by
    have h1 : (2 ^ w : Int) ^ Y.length ≤ (2 ^ w) ^ (Y.length + 1) := pow_mono_int (by walk_at "om")
    walk_at "om"
  refine ⟨t0, t1, t2, q, e3, ⟨l0, l1, l2⟩, hkB, hqd, fun g1 ret d1 n1 hr v1 k1 r1 => ?_⟩
  have hz' : val (2 ^ w) (g1.drop (t + (Y.length + 1))) = 0 := by rw [← Nat.add_assoc, r1, Nat.add_assoc]; exact hz
  have b1 := seg_bounds hB d1 hz' (by walk_at "om")
  have w1 := val_take_drop (B := 2 ^ w) g1 t (by walk_at "om")
  have w0 := val_take_drop (B := 2 ^ w) gs t (by walk_at "om")
  rw [k1] at w1
  have hP : (0 : Int) < (2 ^ w) ^ t := Int.pow_pos hB
  have hN : (2 ^ w : Int) ^ (t + Y.length + 1) = (2 ^ w) ^ t * (2 ^ w) ^ (Y.length + 1) := by rw [Nat.add_assoc, Int.pow_add]
  rw [hN] at v1
  clear eS2 eV2 bS bV v3 eS hgd
  have s1 : val (2 ^ w) (g1.drop t) = val (2 ^ w) (gs.drop t) - q * val (2 ^ w) Y + (2 ^ w) ^ (Y.length + 1) * ret := by
    refine Int.eq_of_mul_eq_mul_left (Int.ne_of_gt hP) ?_
    rw [seg_lin]
    walk_at "om"
  have fin := fun (S2 c : Int) => row_turn (S2 := S2) (c := c) hV0 hVV ⟨q1, q2⟩ s1 b1 hr
  refine ⟨fun h => ?_, fun h => ⟨?_, fun g2 c d2 n2 v2 k2 r2 => ?_⟩⟩
  · obtain ⟨x1, x2, x3⟩ := (fin 0 0).1 h
    refine ⟨?_, by walk_at "om"⟩
    rw [v1, h]; simp
  · rcases Nat.eq_zero_or_pos q with hq | hq
    · subst hq
      subst h
      have := val_nonneg hB (a4.drop t)
      simp only [Int.natCast_zero, Int.zero_mul, Int.mul_one, Int.sub_zero] at s1
      walk_at "om"
    · exact hq
  · have hz2 : val (2 ^ w) (g2.drop (t + (Y.length + 1))) = 0 := by rw [← Nat.add_assoc, r2, Nat.add_assoc]; exact hz'
    have b2 := seg_bounds hB d2 hz2 (by walk_at "om")
    rw [hN] at v2
    have w2 := val_take_drop (B := 2 ^ w) g2 t (by walk_at "om")
    rw [k2, k1] at w2
    have s2 : val (2 ^ w) (g2.drop t) = val (2 ^ w) (g1.drop t) + val (2 ^ w) Y - (2 ^ w) ^ (Y.length + 1) * c := by
      refine Int.eq_of_mul_eq_mul_left (Int.ne_of_gt hP) ?_
      rw [seg_lin2]
      walk_at "om"
    obtain ⟨x1, x2, x3⟩ := (fin _ c).2 h s2 b2
    refine ⟨?_, by walk_at "om"⟩
    rw [w2, x3, w0]
    generalize val (2 ^ w) (gs.drop t) = x0 at *
    grind

set_option maxHeartbeats 2000000 in
theorem ok_rows {w : Nat} {D rb : Addr} {R Y : List Int} {f : Int} (hw : 0 < w) (hw9 : w ≤ 20) (O : e.c.Ok) (hA : Rm A 2) (hD : H D = some ⟨true, false, iv R⟩) (hb : At H rb false (iv Y)) (hne : rb ≠ D)
    (dR : Dg (2 ^ w) R) (dY : Dg (2 ^ w) Y) (hR : R.length ≤ 200) (hY : 2 ≤ Y.length) (hYR : Y.length ≤ R.length) (hf : Y[Y.length - 1]? = some f) (hf0 : 0 < f) (hv : val (2 ^ w) (R.drop (R.length - Y.length)) < val (2 ^ w) Y)
    (k : ∀ (H' : Hp) (d : Addr) (qs R' : List Int), (∀ r o, r ≠ D → H r = some o → H' r = some o) → H' D = some ⟨true, false, iv R'⟩ → At H' d false (iv qs) → Dg (2 ^ w) qs → Dg (2 ^ w) R' → R'.length = R.length → qs.length = R.length - Y.length →
      val (2 ^ w) R = val (2 ^ w) Y * val (2 ^ w) qs + val (2 ^ w) R' → val (2 ^ w) R' < val (2 ^ w) Y → Q (.ref d) H') :
    CALL e.c A 224 [.ref D, .ref rb, .int w] H Q := by
  refine CALL_frz (· = D) ?_
  refine CALL_enter [Str.ofString "rest", Str.ofString "b", Str.ofString "w"] O hA.room rfl rfl (fun us hl => ?_) rfl (by decide) (by decide) (by decide) (fun L => ?_)
  · obtain ⟨u, v, x, rfl⟩ := len3 hl; rfl
  have hrb := frz_other hb hne
  have hrD : frz (· = D) H D = some ⟨true, false, iv R⟩ := by rw [frz_self]; exact hD
  have hk : ∀ (H' : Hp) (d : Addr) (qs R' : List Int), (∀ r o, r ≠ D → frz (· = D) H r = some o → H' r = some o) → H' D = some ⟨true, false, iv R'⟩ → d ≠ D → H' d = some ⟨true, false, iv qs⟩ → frz (· = D) H d = none → Dg (2 ^ w) qs → Dg (2 ^ w) R' → R'.length = R.length → qs.length = R.length - Y.length →
      val (2 ^ w) R = val (2 ^ w) Y * val (2 ^ w) qs + val (2 ^ w) R' → val (2 ^ w) R' < val (2 ^ w) Y → Q (.ref d) (rst (· = D) H H') := by
    intro H' d qs R' a1 a2 a3 a4 a4' a5 a6 a7 a8 a9 a10
    refine k _ d qs R' (fun r o hr e => ?_) ?_ ⟨true, ?_⟩ a5 a6 a7 a8 a9 a10
    · simp [rst, hr, e]
    · simp [rst, a2]
    · have : H d = none := by
        unfold frz at a4'; rw [if_neg a3] at a4'
        cases q : H d with
        | none => rfl
        | some o => rw [q] at a4'; cases a4'
      simp [rst, a3, this, a4]
  generalize rst (· = D) H = rs at *
  generalize frz (· = D) H = H0 at *
  clear hD hb k
  have hh := hA.h
  have hB := B_pos w
  have hB1 := B_gt1 hw
  have hB20 : (2 ^ w : Int) ≤ 2 ^ 20 := by
    rw [pow_cast]; exact Int.ofNat_le.mpr (Nat.pow_le_pow_right (by decide) hw9)
  -- the divisor
  have hV0 : 0 < val (2 ^ w) Y := by
    have h1 := val_take_drop (B := 2 ^ w) Y (Y.length - 1) (by walk_at "om")
    rw [val_drop_pred Y _ hf] at h1
    have h2 := val_nonneg hB (dY.take (Y.length - 1))
    have h3 := val_nonneg hB (dY.drop (Y.length - 1 + 1))
    have h4 := Int.mul_nonneg (Int.le_of_lt hB) h3
    have h5 := Int.mul_pos (show (0 : Int) < (2 ^ w) ^ (Y.length - 1) from Int.pow_pos hB) (show 0 < f + 2 ^ w * val (2 ^ w) (Y.drop (Y.length - 1 + 1)) by walk_at "om")
    walk_at "om"
  have hVN := val_lt' dY
  obtain ⟨s, es⟩ : ∃ s, Y[Y.length - 2]? = some s := ⟨_, List.getElem?_eq_getElem (by walk_at "om")⟩
  have hV2 : val (2 ^ w) (Y.drop (Y.length - 2)) = f * 2 ^ w + s := by
    rw [val_drop_pred Y _ es, show Y.length - 2 + 1 = Y.length - 1 by walk_at "om", val_drop_pred Y _ hf, show Y.length - 1 + 1 = Y.length by walk_at "om", List.drop_length, val_nil, Int.mul_zero, Int.add_zero, Int.mul_comm]
    walk_at "om"
  have ds := dY.get es
  have df := dY.get hf
  obtain ⟨F, rfl⟩ := Int.eq_ofNat_of_zero_le df.1
  obtain ⟨S, rfl⟩ := Int.eq_ofNat_of_zero_le ds.1
  have lF : F < 2 ^ w := by have := df.2; rw [pow_cast] at this; exact Int.ofNat_lt.mp this
  have lS : S < 2 ^ w := by have := ds.2; rw [pow_cast] at this; exact Int.ofNat_lt.mp this
  repeat' walk_at "mv"
  refine ⟨_, _, _, rfl, hrb, by rw [iv_len]; walk_at "om", ?_⟩
  rw [iv_len]
  repeat' walk_at "mv"
  refine ⟨by simp, fun z hz => ?_⟩
  repeat' walk_at "mv"
  refine ⟨_, _, _, rfl, set_old hz hrD, by rw [iv_len]; walk_at "om", ?_⟩
  rw [iv_len]
  repeat' walk_at "mv"
  refine ⟨z, .int 0, _, rfl, rfl, Hp.set_same, by walk_at "om", fun d hd => ?_⟩
  have hdz : d ≠ z := fun q => by rw [q, Hp.set_same] at hd; cases hd
  have hd0 : H0 d = none := by rwa [Hp.set_ne hdz] at hd
  have hdD : d ≠ D := fun q => by rw [q, hrD] at hd0; cases hd0
  have fr0 : ∀ r o, r ≠ D → H0 r = some o → (H0.set z ⟨true, false, [.int 0]⟩).set d ⟨true, false, List.replicate (((R.length : Int) - Y.length).toNat) (.int 0)⟩ r = some o := fun r o _ e => set_old hd (set_old hz e)
  have hD0 : (H0.set z ⟨true, false, [.int 0]⟩).set d ⟨true, false, List.replicate (((R.length : Int) - Y.length).toNat) (.int 0)⟩ D = some ⟨true, false, iv R⟩ := set_old hd (set_old hz hrD)
  have hdd : (H0.set z ⟨true, false, [.int 0]⟩).set d ⟨true, false, List.replicate (((R.length : Int) - Y.length).toNat) (.int 0)⟩ d = some ⟨true, false, iv (List.replicate (R.length - Y.length) 0)⟩ := by
    rw [Hp.set_same, show ((R.length : Int) - Y.length).toNat = R.length - Y.length by walk_at "om", iv_rep]
  generalize (H0.set z ⟨true, false, [.int 0]⟩).set d ⟨true, false, List.replicate (((R.length : Int) - Y.length).toNat) (.int 0)⟩ = H1 at *
  refine EX_cut (fun m H' => ∃ gs qs, Le [(Str.ofString "quotient", .ref d)] m ∧ (∀ r o, r ≠ D → H0 r = some o → H' r = some o) ∧ H' D = some ⟨true, false, iv gs⟩ ∧ H' d = some ⟨true, false, iv qs⟩ ∧ Dg (2 ^ w) gs ∧ gs.length = R.length ∧ Dg (2 ^ w) qs ∧ qs.length = R.length - Y.length ∧
    val (2 ^ w) R = val (2 ^ w) Y * val (2 ^ w) qs + val (2 ^ w) gs ∧ val (2 ^ w) gs < val (2 ^ w) Y) ?_ ?_
  · refine EX_range3 O hh (g_range _) ?_
    repeat' walk_at "mv"
    refine ⟨_, _, _, rfl, hD0, by rw [iv_len]; walk_at "om", ?_⟩
    rw [iv_len]
    repeat' walk_at "mv"
    refine ⟨_, _, fun i m H' => ∃ gs qs, Le [(Str.ofString "rest", .ref D), (Str.ofString "b", .ref rb), (Str.ofString "w", .int w), (Str.ofString "size", .int Y.length), (Str.ofString "quotient", .ref d)] m ∧ (∀ r o, r ≠ D → H0 r = some o → H' r = some o) ∧ H' D = some ⟨true, false, iv gs⟩ ∧ H' d = some ⟨true, false, iv qs⟩ ∧ Dg (2 ^ w) gs ∧ gs.length = R.length ∧ Dg (2 ^ w) qs ∧ qs.length = R.length - Y.length ∧
      val (2 ^ w) R = val (2 ^ w) Y * ((2 ^ w) ^ (R.length - Y.length - i) * val (2 ^ w) (qs.drop (R.length - Y.length - i))) + val (2 ^ w) gs ∧ val (2 ^ w) (gs.drop (R.length - Y.length - i)) < val (2 ^ w) Y, rfl, by walk_at "om",
      ⟨R, List.replicate (R.length - Y.length) 0, .of ⟨by with_unfolding_all rfl, by with_unfolding_all rfl, by with_unfolding_all rfl, by with_unfolding_all rfl, by with_unfolding_all rfl, trivial⟩, fr0, hD0, hdd, dR, rfl, .rep hB _, by simp, by simp [val_nil], hv⟩, ?_, ?_⟩
    · rintro i m H' hi ⟨gs, qs, hm, a1, a2, a3, a4, a5, a6, a7, a8, a9⟩
      refine EX_weak ?_ (hm.put _ _)
      obtain ⟨t, ht⟩ : ∃ t, R.length - Y.length - i = t + 1 := ⟨R.length - Y.length - i - 1, by walk_at "om"⟩
      have et : (R.length : Int) - Y.length - 1 - i = (t : Int) := by walk_at "om"
      rw [et]
      rw [ht] at a8 a9
      have ek : R.length - Y.length - (i + 1) = t := by walk_at "om"
      have hb1 := a1 _ _ (by exact hne) hrb
      obtain ⟨t0, t1, t2, q, e3, ⟨l0, l1, l2⟩, lq, hq, hrow⟩ := row_math hw a4 dY hY (t := t) (by walk_at "om") (by walk_at "om") lF lS hV2 hV0 a9
      repeat' walk_at "mv"
      refine ⟨_, _, _, _, _, rfl, rfl, rfl, a2, ⟨by walk_at "om", by walk_at "om", by rw [iv_len]; walk_at "om", by rw [iv_len]; walk_at "om"⟩, fun x hx => ?_⟩
      have hL : List.take (((t : Int) + Y.length + 1).toNat - ((t : Int) + Y.length - 2).toNat) (List.drop ((t : Int) + Y.length - 2).toNat (iv gs)) = iv [(t0 : Int), (t1 : Int), (t2 : Int)] := by
        rw [show ((t : Int) + Y.length + 1).toNat - ((t : Int) + Y.length - 2).toNat = 3 by walk_at "om", show ((t : Int) + Y.length - 2).toNat = t + (Y.length - 2) by walk_at "om", iv_drop, iv_take, e3]
      rw [hL]
      have sx : Sub H' (H'.set x ⟨false, false, iv [(t0 : Int), (t1 : Int), (t2 : Int)]⟩) := Sub.set hx
      have hxx : At (H'.set x ⟨false, false, iv [(t0 : Int), (t1 : Int), (t2 : Int)]⟩) x false (iv [(t0 : Int), (t1 : Int), (t2 : Int)]) := At.set
      generalize H'.set x ⟨false, false, iv [(t0 : Int), (t1 : Int), (t2 : Int)]⟩ = H2 at *
      repeat' walk_at "mv"
      refine ⟨_, _, _, _, (F : Int), rfl, rfl, sx _ _ hb1, ⟨by walk_at "om", by walk_at "om"⟩, by rw [show ((Y.length : Int) - 1).toNat = Y.length - 1 by walk_at "om"]; exact hf, ?_⟩
      repeat' walk_at "mv"
      refine ⟨_, _, _, _, (S : Int), rfl, rfl, sx _ _ hb1, ⟨by walk_at "om", by walk_at "om"⟩, by rw [show ((Y.length : Int) - 2).toNat = Y.length - 2 by walk_at "om"]; exact es, ?_⟩
      repeat' walk_at "mv"
      refine ok_guess hw hw9 O (hA.deeper.le (by walk_at "om")) hxx l0 l1 l2 ⟨by walk_at "om", lF⟩ lS _ ?_
      rintro _ H3 s3 rfl
      rw [hq]
      have f3 : ∀ r o, r ≠ D → H0 r = some o → H3 r = some o := fun r o h1 h2 => s3 _ _ (sx _ _ (a1 r o h1 h2))
      have D3 := s3 _ _ (sx _ _ a2)
      have d3 := s3 _ _ (sx _ _ a3)
      clear sx hxx s3 a1 a2 a3 hx hb1
      refine EX_cut (fun m H' => ∃ (q' : Nat) (g2 : List Int), Le [(Str.ofString "rest", .ref D), (Str.ofString "b", .ref rb), (Str.ofString "w", .int w), (Str.ofString "size", .int Y.length), (Str.ofString "quotient", .ref d), (Str.ofString "at", .int t), (Str.ofString "limb", .int q')] m ∧
        (∀ r o, r ≠ D → H0 r = some o → H' r = some o) ∧ H' D = some ⟨true, false, iv g2⟩ ∧ H' d = some ⟨true, false, iv qs⟩ ∧ q' < 2 ^ w ∧ Dg (2 ^ w) g2 ∧ g2.length = gs.length ∧ val (2 ^ w) g2 = val (2 ^ w) gs - (2 ^ w) ^ t * (q' * val (2 ^ w) Y) ∧ val (2 ^ w) (g2.drop t) < val (2 ^ w) Y) ?_ ?_
      · refine EX_if2 (fun b H' => ∃ g1 ret, b = decide (ret = 1) ∧ H' = H3.set D ⟨true, false, iv g1⟩ ∧ Dg (2 ^ w) g1 ∧ g1.length = gs.length ∧ (ret = 0 ∨ ret = 1) ∧ val (2 ^ w) g1 = val (2 ^ w) gs - (2 ^ w) ^ t * (q * val (2 ^ w) Y) + (2 ^ w) ^ (t + Y.length + 1) * ret ∧ g1.take t = gs.take t ∧ g1.drop (t + Y.length + 1) = gs.drop (t + Y.length + 1)) ?_ ?_ ?_
        · repeat' walk_at "mv"
          refine ok_take hw hw9 O (hA.deeper.le (by walk_at "om")) D3 ⟨_, f3 _ _ hne hrb⟩ hne a4 dY (by walk_at "om") (by walk_at "om") lq ?_
          intro g1 ret b1 b2 b3 b4 b5 b6
          repeat' walk_at "mv"
          exact ⟨g1, ret, rfl, rfl, b1, b2, b3, b4, b5, b6⟩
        · rintro H' ⟨g1, ret, hb, rfl, b1, b2, b3, b4, b5, b6⟩
          have hb := of_decide_eq_true hb.symm
          obtain ⟨hq1, hrow2⟩ := (hrow g1 ret b1 b2 b3 b4 b5 b6).2 hb
          repeat' walk_at "mv"
          refine EX_expr ?_
          repeat' walk_at "mv"
          refine ok_put hw hw9 O (hA.deeper.le (by walk_at "om")) Hp.set_same ⟨_, by rw [Hp.set_ne hne]; exact f3 _ _ hne hrb⟩ hne b1 dY (by walk_at "om") (by walk_at "om") ?_
          intro g2 c c1 c2 c3 c4 c5
          obtain ⟨z1, z2⟩ := hrow2 g2 c c1 c2 c3 c4 c5
          rw [Hp.set_set]
          refine ⟨rfl, ?_⟩
          repeat' walk_at "mv"
          refine ⟨q - 1, g2, .of ⟨by with_unfolding_all rfl, by with_unfolding_all rfl, by with_unfolding_all rfl, by with_unfolding_all rfl, by with_unfolding_all rfl, by with_unfolding_all rfl, ?_, trivial⟩, fun r o h1 h2 => by rw [Hp.set_ne h1]; exact f3 r o h1 h2, Hp.set_same, by rw [Hp.set_ne hdD]; exact d3, by walk_at "om", c1, by walk_at "om", ?_, z2⟩
          · have : ((q - 1 : Nat) : Int) = (q : Int) - 1 := by walk_at "om"
            rw [this]; with_unfolding_all rfl
          · rw [z1, show ((q - 1 : Nat) : Int) = (q : Int) - 1 by walk_at "om"]
        · rintro H' ⟨g1, ret, hb, rfl, b1, b2, b3, b4, b5, b6⟩
          have hb := of_decide_eq_false hb.symm
          obtain ⟨z1, z2⟩ := (hrow g1 ret b1 b2 b3 b4 b5 b6).1 (by walk_at "om")
          repeat' walk_at "mv"
          exact ⟨q, g1, .of ⟨by with_unfolding_all rfl, by with_unfolding_all rfl, by with_unfolding_all rfl, by with_unfolding_all rfl, by with_unfolding_all rfl, by with_unfolding_all rfl, by with_unfolding_all rfl, trivial⟩, fun r o h1 h2 => by rw [Hp.set_ne h1]; exact f3 r o h1 h2, Hp.set_same, by rw [Hp.set_ne hdD]; exact d3, lq, b1, b2, z1, z2⟩
      · rintro m H' ⟨q', g2, hm, c1, c2, c3, c4, c5, c6, c7, c8⟩
        refine EX_weak ?_ hm
        repeat' walk_at "mv"
        refine EX_setitem ?_
        repeat' walk_at "mv"
        refine ⟨_, _, _, rfl, rfl, c3, ⟨by walk_at "om", by rw [iv_len]; walk_at "om", by walk_at "om"⟩, ?_⟩
        rw [iv_set, Int.toNat_natCast]
        repeat' walk_at "mv"
        show ∃ gs qs, _
        rw [ek]
        refine ⟨g2, qs.set t q', .of ⟨by with_unfolding_all rfl, by with_unfolding_all rfl, by with_unfolding_all rfl, by with_unfolding_all rfl, by with_unfolding_all rfl, trivial⟩, fun r o h1 h2 => ?_, by rw [Hp.set_ne (Ne.symm hdD)]; exact c2, Hp.set_same, c5, by walk_at "om", a6.set ⟨by walk_at "om", by rw [pow_cast]; exact Int.ofNat_lt.mpr c4⟩, by simpa using a7, ?_, c8⟩
        · rw [Hp.set_ne (fun h => by rw [h, hd0] at h2; cases h2)]; exact c1 r o h1 h2
        · rw [drop_set_here (by walk_at "om"), val_cons, c7, a8, Int.pow_succ]
          generalize val (2 ^ w) (List.drop (t + 1) qs) = x0
          generalize val (2 ^ w) gs = x1
          generalize val (2 ^ w) Y = V
          generalize (2 ^ w : Int) ^ t = P
          generalize (2 : Int) ^ w = B
          grind
    · rintro m H' ⟨gs, qs, hm, a1, a2, a3, a4, a5, a6, a7, a8, a9⟩
      rw [show R.length - Y.length - ((R.length : Int) - Y.length - 1 - -1).toNat = 0 by walk_at "om", List.drop_zero, Int.pow_zero, Int.one_mul] at a8
      rw [show R.length - Y.length - ((R.length : Int) - Y.length - 1 - -1).toNat = 0 by walk_at "om", List.drop_zero] at a9
      exact ⟨gs, qs, hm.trans' ⟨by with_unfolding_all rfl, trivial⟩, a1, a2, a3, a4, a5, a6, a7, a8, a9⟩
  · rintro m H' ⟨gs, qs, hm, a1, a2, a3, a4, a5, a6, a7, a8, a9⟩
    refine EX_weak ?_ hm
    repeat' walk_at "mv"
    exact hk _ _ qs gs a1 a2 hdD a3 hd0 a6 a4 a5 a7 a8 a9
end
section
open PySem PySem.W PySem.Calls PyProof.Rows

variable {e : Ev} {A : Around} {H : Hp}

theorem bl_zero : bl 0 = 0 := rfl
theorem bl_lt (n : Nat) : n < 2 ^ bl n := by
  unfold bl
  split
  · subst_vars; decide
  · exact Nat.lt_log2_self
theorem bl_le {n k : Nat} (h : n < 2 ^ k) : bl n ≤ k := by
  unfold bl
  split
  · walk_at "om"
  · rename_i h0; exact (Nat.log2_lt h0).mpr h
theorem bl_pos {n : Nat} (h : 0 < n) : 0 < bl n := by unfold bl; split <;> walk_at "om"
theorem bl_ge {n : Nat} (h : 0 < n) : 2 ^ (bl n - 1) ≤ n := by
  unfold bl
  rw [if_neg (by walk_at "om")]
  exact Nat.log2_self_le (by walk_at "om")

theorem lim_top {w n : Nat} (hw : 0 < w) (h : 0 < n) : ∃ x t : Nat, (lim w n)[(lim w n).length - 1]? = some (x : Int) ∧ 0 < x ∧ x < 2 ^ w ∧ t < 2 ^ (w * ((lim w n).length - 1)) ∧ n = t + 2 ^ (w * ((lim w n).length - 1)) * x := by
  have dx := lim_dg hw n
  have hB := B_pos w
  have vx := lim_val hw n
  have hlen : 0 < (lim w n).length := by
    rcases Nat.eq_zero_or_pos (lim w n).length with h1 | h1
    · exact absurd ((lim_nil_iff hw).mp (List.length_eq_zero_iff.mp h1)) (by walk_at "om")
    · exact h1
  have hbig := lim_big hw h
  obtain ⟨x, ex⟩ : ∃ x, (lim w n)[(lim w n).length - 1]? = some x := ⟨_, List.getElem?_eq_getElem (by walk_at "om")⟩
  have hx := dx.get ex
  rw [ex]
  generalize hk : (lim w n).length - 1 = k at *
  have hk2 : (lim w n).length = k + 1 := by walk_at "om"
  have h1 := val_take_drop (B := 2 ^ w) (lim w n) k (by walk_at "om")
  rw [vx, val_drop_pred _ _ ex, List.drop_of_length_le (by walk_at "om"), val_nil, Int.mul_zero, Int.add_zero] at h1
  have h2 := val_lt hB (dx.take k)
  rw [List.length_take, Nat.min_eq_left (by walk_at "om")] at h2
  have h3 := val_nonneg hB (dx.take k)
  obtain ⟨y, rfl⟩ := Int.eq_ofNat_of_zero_le hx.1
  have hp : (2 ^ w : Int) ^ k = ((2 ^ (w * k) : Nat) : Int) := by rw [pow_cast, ← Int.natCast_pow, Nat.pow_mul]
  rw [hp] at h1 h2 hbig
  obtain ⟨t, ht⟩ := Int.eq_ofNat_of_zero_le h3
  rw [ht] at h1 h2
  have h1' : n = t + 2 ^ (w * k) * y := by
    have : ((n : Nat) : Int) = ((t + 2 ^ (w * k) * y : Nat) : Int) := by rw [h1]; simp
    exact Int.ofNat.inj this
  have h2' : t < 2 ^ (w * k) := Int.ofNat_lt.mp h2
  refine ⟨y, t, rfl, ?_, by have := hx.2; rw [pow_cast] at this; exact Int.ofNat_lt.mp this, h2', h1'⟩
  rcases Nat.eq_zero_or_pos y with hy | hy
  · subst hy
    simp only [Nat.mul_zero, Nat.add_zero] at h1'
    have := Int.ofNat_le.mp hbig
    walk_at "om"
  · exact hy

theorem shift_len {w b x t s : Nat} (hw : 0 < w) (hlen : 0 < (lim w b).length) (hs : s + bl x ≤ w) (ht : t < 2 ^ (w * ((lim w b).length - 1))) (e : b = t + 2 ^ (w * ((lim w b).length - 1)) * x) : (lim w (b * 2 ^ s)).length ≤ (lim w b).length := by
  refine lim_len_le hw ?_
  generalize hk : (lim w b).length = k at *
  obtain ⟨j, rfl⟩ : ∃ j, k = j + 1 := ⟨k - 1, by walk_at "om"⟩
  rw [Nat.add_sub_cancel] at *
  have h1 : b < 2 ^ (w * j) * (x + 1) := by rw [Nat.mul_add, Nat.mul_one]; walk_at "om"
  have h2 : b * 2 ^ s < 2 ^ (w * j) * (x + 1) * 2 ^ s := Nat.mul_lt_mul_of_pos_right h1 (Nat.two_pow_pos s)
  have h3 : (x + 1) * 2 ^ s ≤ 2 ^ bl x * 2 ^ s := Nat.mul_le_mul_right _ (bl_lt x)
  have h4 : 2 ^ bl x * 2 ^ s ≤ 2 ^ w := by rw [← Nat.pow_add]; exact Nat.pow_le_pow_right (by decide) (by walk_at "om")
  have h5 : 2 ^ (w * j) * ((x + 1) * 2 ^ s) ≤ 2 ^ (w * j) * 2 ^ w := Nat.mul_le_mul_left _ (by walk_at "om")
  rw [Nat.mul_add, Nat.mul_one, Nat.pow_add]
  rw [Nat.mul_assoc] at h2
  walk_at "om"

/-- the leading rows stay below the divisor -/
theorem rest_top {w a b s : Nat} {R : List Int} (hw : 0 < w) (hb : 0 < b) (dR : Dg (2 ^ w) R) (vR : val (2 ^ w) R = ((a * 2 ^ s : Nat) : Int)) (lR : R.length = (lim w a).length + 1) (hlb : (lim w (b * 2 ^ s)).length ≤ (lim w b).length) (hba : (lim w b).length ≤ (lim w a).length) :
    val (2 ^ w) (R.drop (R.length - (lim w (b * 2 ^ s)).length)) < ((b * 2 ^ s : Nat) : Int) := by
  have hB := B_pos w
  generalize hn : (lim w (b * 2 ^ s)).length = n at *
  have h1 := val_take_drop (B := 2 ^ w) R (R.length - n) (by walk_at "om")
  have h2 := val_nonneg hB (dR.take (R.length - n))
  rw [vR] at h1
  have h3 := lim_lt hw a
  have h4 := lim_big hw hb
  rcases Int.lt_or_le (val (2 ^ w) (R.drop (R.length - n))) ((b * 2 ^ s : Nat) : Int) with h | h
  · exact h
  · exfalso
    have hp : (0 : Int) < (2 ^ w) ^ (R.length - n) := Int.pow_pos hB
    have h5 : (2 ^ w : Int) ^ (R.length - n) * ((b * 2 ^ s : Nat) : Int) ≤ (2 ^ w) ^ (R.length - n) * val (2 ^ w) (R.drop (R.length - n)) := Int.mul_le_mul_of_nonneg_left h (by walk_at "om")
    have h6 : (2 ^ w : Int) ^ (lim w a).length ≤ (2 ^ w : Int) ^ (R.length - n) * (b : Int) := by
      have e1 : (2 ^ w : Int) ^ (lim w a).length ≤ (2 ^ w) ^ ((R.length - n) + ((lim w b).length - 1)) := pow_mono_int (by walk_at "om")
      rw [Int.pow_add] at e1
      have e2 : (2 ^ w : Int) ^ (R.length - n) * (2 ^ w) ^ ((lim w b).length - 1) ≤ (2 ^ w) ^ (R.length - n) * (b : Int) := Int.mul_le_mul_of_nonneg_left h4 (by walk_at "om")
      walk_at "om"
    have h7 : (0 : Int) < ((2 ^ s : Nat) : Int) := by have := Nat.two_pow_pos s; walk_at "om"
    have h8 : (2 ^ w : Int) ^ (R.length - n) * (b : Int) * ((2 ^ s : Nat) : Int) ≤ (a : Int) * ((2 ^ s : Nat) : Int) := by
      rw [Int.mul_assoc]
      simp only [Int.natCast_mul] at *
      walk_at "om"
    have h9 := Int.le_of_mul_le_mul_right h8 h7
    walk_at "om"

theorem div_of {a b s : Nat} {q r : Int} (hb : 0 < b) (hq : 0 ≤ q) (hr : 0 ≤ r) (h : ((a * 2 ^ s : Nat) : Int) = ((b * 2 ^ s : Nat) : Int) * q + r) (hl : r < ((b * 2 ^ s : Nat) : Int)) : q.toNat = a / b ∧ r.toNat / 2 ^ s = a % b := by
  obtain ⟨q, rfl⟩ := Int.eq_ofNat_of_zero_le hq
  obtain ⟨r, rfl⟩ := Int.eq_ofNat_of_zero_le hr
  have hp := Nat.two_pow_pos s
  have hbs := Nat.mul_pos hb hp
  have h1 : a * 2 ^ s = b * 2 ^ s * q + r := by rw [← Int.natCast_mul, ← Int.natCast_add] at h; exact Int.ofNat.inj h
  have h2 : r < b * 2 ^ s := Int.ofNat_lt.mp hl
  rw [Int.toNat_natCast, Int.toNat_natCast]
  have e1 : a * 2 ^ s / (b * 2 ^ s) = q := by rw [h1, Nat.mul_add_div hbs, Nat.div_eq_of_lt h2, Nat.add_zero]
  have e2 : a * 2 ^ s % (b * 2 ^ s) = r := by rw [h1, Nat.mul_add_mod, Nat.mod_eq_of_lt h2]
  rw [Nat.mul_div_mul_right _ _ hp] at e1
  rw [Nat.mul_mod_mul_right] at e2
  exact ⟨e1.symm, by rw [← e2, Nat.mul_div_cancel _ hp]⟩

theorem ok_divrem {w a b : Nat} (hw : 0 < w) (hw9 : w ≤ 20) (O : e.c.Ok) (hA : Rm A 4) {ra rb : Addr} (ha : At H ra false (iv (lim w a))) (hb : At H rb false (iv (lim w b))) (la : a < 2 ^ 40) (lb : b < 2 ^ 40) (hb0 : 0 < b) :
    PURE e.c A 231 [.ref ra, .ref rb, .int w] H (fun v H' => ∃ t q r, v = .ref t ∧ At H' t true [q, r] ∧ Num w H' q (a / b) ∧ Num w H' r (a % b)) := by
  refine PURE_of (by rintro v H1 H2 h ⟨t, q, r, e1, e2, n, n2⟩; exact ⟨t, q, r, e1, h _ _ _ e2, n.up h, n2.up h⟩) ?_
  refine CALL_enter [Str.ofString "a", Str.ofString "b", Str.ofString "w"] O hA.room rfl rfl (fun us hl => ?_) rfl (by decide) (by decide) (by decide) (fun L => ?_)
  · obtain ⟨u, v, x, rfl⟩ := len3 hl; rfl
  have hra := fr_at ha
  have hrb := fr_at hb
  have hh := hA.h
  generalize fr H = H at *
  have lena := len64 hw (n := a) (by walk_at "om")
  have lenb := len64 hw (n := b) (by walk_at "om")
  have lenb0 : 0 < (lim w b).length := by
    rcases Nat.eq_zero_or_pos (lim w b).length with h1 | h1
    · exact absurd ((lim_nil_iff hw).mp (List.length_eq_zero_iff.mp h1)) (by walk_at "om")
    · exact h1
  repeat' walk_at "mv"
  refine ⟨_, _, _, rfl, hrb, by rw [iv_len]; walk_at "om", ?_⟩
  rw [iv_len]
  repeat' walk_at "mv"
  refine ⟨fun h => absurd (of_decide_eq_true h) (by walk_at "om"), fun _ => ?_⟩
  repeat' walk_at "mv"
  refine ok_compare hw O (hA.deeper.le (by walk_at "om")) ⟨_, hra⟩ ⟨_, hrb⟩ (by walk_at "om") (by walk_at "om") _ ?_
  rintro _ H1 s1 rfl
  repeat' walk_at "mv"
  have hra1 := s1 _ _ hra
  have hrb1 := s1 _ _ hrb
  refine ⟨fun h => ?_, fun h => ?_⟩
  · have h := of_decide_eq_true h
    have hlt : a < b := by
      unfold cmpN at h
      split at h
      · assumption
      · split at h <;> walk_at "om"
    repeat' walk_at "mv"
    refine ⟨by simp, fun z hz => ?_⟩
    repeat' walk_at "mv"
    refine ⟨_, _, _, rfl, set_old hz hra1, by rw [iv_len]; walk_at "om", fun y hy => ?_⟩
    repeat' walk_at "mv"
    refine ⟨by simp, fun t ht => ⟨s1.trans ((Sub.set hz).trans ((Sub.set hy).trans (Sub.set ht))), t, _, _, rfl, At.set, ?_, ?_⟩⟩
    · rw [Nat.div_eq_of_lt hlt]
      refine ⟨z, rfl, At.old ht (At.old hy ?_)⟩
      rw [lim_zero]; exact At.set
    · rw [Nat.mod_eq_of_lt hlt]
      exact ⟨y, rfl, At.old ht At.set⟩
  · have h := of_decide_eq_false h
    have hle : b ≤ a := by
      unfold cmpN at h
      split at h
      · walk_at "om"
      · walk_at "om"
    have hlm := lim_len_mono hw hle
    repeat' walk_at "mv"
    refine ⟨_, _, _, rfl, hrb1, by rw [iv_len]; walk_at "om", ?_⟩
    rw [iv_len]
    repeat' walk_at "mv"
    obtain ⟨x, t, ex, x0, xB, tB, eb⟩ := lim_top hw hb0
    refine ⟨fun h2 => ?_, fun h2 => ?_⟩
    · have h2 := of_decide_eq_true h2
      have h2 : (lim w b).length = 1 := by walk_at "om"
      have hbB : b < 2 ^ w := by
        have := lim_lt hw b
        rw [h2, Int.pow_one, pow_cast] at this
        exact Int.ofNat_lt.mp this
      repeat' walk_at "mv"
      refine ok_divrem_small hw hw9 O (hA.deeper.le (by walk_at "om")) ⟨_, hra1⟩ ⟨_, hrb1⟩ (by walk_at "om") hb0 hbB _ ?_
      rintro v H2 s2 h
      repeat' walk_at "mv"
      exact ⟨s1.trans s2, h⟩
    · have h2 := of_decide_eq_false h2
      refine EX_nil ?_
      refine EX_cons ?_
      refine EX_assign ?_
      refine EV_sub ?_
      refine EV_local (by with_unfolding_all rfl) ?_
      refine d_bits O ?_
      refine EVl_cons ?_
      refine EV_list ?_
      refine EVl_cons ?_
      refine EV_last ?_
      repeat' walk_at "mv"
      refine ⟨_, _, _, (x : Int), rfl, rfl, hrb1, ⟨by walk_at "om", by walk_at "om"⟩, ex, ?_⟩
      repeat' walk_at "mv"
      refine ⟨by simp, fun z hz => ?_⟩
      have hz1 : At (H1.set z ⟨true, false, [.int x]⟩) z false (iv (lim w x)) := by rw [lim_one hw x0 xB]; exact At.set
      have sz : Sub H1 (H1.set z ⟨true, false, [.int x]⟩) := Sub.set hz
      have hra2 := sz _ _ hra1
      have hrb2 := sz _ _ hrb1
      have s2 := s1.trans sz
      clear sz hra1 hrb1 s1 hra hrb
      generalize H1.set z ⟨true, false, [.int x]⟩ = H2 at *
      repeat' walk_at "mv"
      have xB20 : x < 2 ^ 60 := Nat.lt_of_lt_of_le xB (Nat.pow_le_pow_right (by decide) (by walk_at "om"))
      refine ok_bits hw (by walk_at "om") O (hA.deeper.le (by walk_at "om")) hz1 xB20 _ ?_
      rintro _ H3 s3 rfl
      have hblw := bl_le xB
      have hblp := bl_pos x0
      obtain ⟨s, hs⟩ : ∃ s, w = s + bl x := ⟨w - bl x, by walk_at "om"⟩
      have es : ((w : Int) - (bl x : Int)) = (s : Int) := by walk_at "om"
      have hs20 : s < 20 := by walk_at "om"
      have p2 : 2 ^ s ≤ 2 ^ 19 := Nat.pow_le_pow_right (by decide) (by walk_at "om")
      have la2 : a * 2 ^ s < 2 ^ 60 := Nat.lt_of_le_of_lt (Nat.mul_le_mul_left a p2) (by walk_at "om")
      have lb2 : b * 2 ^ s < 2 ^ 60 := Nat.lt_of_le_of_lt (Nat.mul_le_mul_left b p2) (by walk_at "om")
      have bs0 : 0 < b * 2 ^ s := Nat.mul_pos hb0 (Nat.two_pow_pos s)
      repeat' walk_at "mv"
      rw [es]
      refine ok_shift_left hw (by walk_at "om") O (hA.deeper.le (by walk_at "om")) ⟨_, s3 _ _ hrb2⟩ (by walk_at "om") (by walk_at "om") _ ?_
      rintro _ H4 s4 ⟨D, rfl, wD, hD⟩
      repeat' walk_at "mv"
      refine ok_shift_left hw (by walk_at "om") O (hA.deeper.le (by walk_at "om")) ⟨_, s4 _ _ (s3 _ _ hra2)⟩ (by walk_at "om") (by walk_at "om") _ ?_
      rintro _ H5 s5 ⟨E, rfl, wE, hE⟩
      have hra5 := s5 _ _ (s4 _ _ (s3 _ _ hra2))
      have hD5 := s5 _ _ hD
      have s6 := s2.trans (s3.trans (s4.trans s5))
      clear s2 s3 s4 s5 hra2 hrb2 hz1 hD
      have lenE := len64 hw (n := a * 2 ^ s) (by walk_at "om")
      have hlb := shift_len hw lenb0 (by walk_at "om" : s + bl x ≤ w) tB eb
      have lenD2 : 2 ≤ (lim w (b * 2 ^ s)).length := by
        have := lim_len_mono hw (Nat.le_mul_of_pos_right b (Nat.two_pow_pos s))
        walk_at "om"
      have lenE2 : (lim w (a * 2 ^ s)).length ≤ (lim w a).length + 1 := by
        refine lim_len_le hw ?_
        have h1 := lim_lt hw a
        rw [pow_cast, ← Int.natCast_pow, ← Nat.pow_mul] at h1
        have h1 := Int.ofNat_lt.mp h1
        rw [Nat.mul_add, Nat.mul_one, Nat.pow_add]
        have h3 : 2 ^ s ≤ 2 ^ w := Nat.pow_le_pow_right (by decide) (by walk_at "om")
        have h4 : a * 2 ^ s < 2 ^ (w * (lim w a).length) * 2 ^ s := Nat.mul_lt_mul_of_pos_right h1 (Nat.two_pow_pos s)
        have h5 : 2 ^ (w * (lim w a).length) * 2 ^ s ≤ 2 ^ (w * (lim w a).length) * 2 ^ w := Nat.mul_le_mul_left _ h3
        walk_at "om"
      obtain ⟨f, t', ef, f0, fB, _, _⟩ := lim_top hw bs0
      repeat' walk_at "mv"
      refine ⟨by simp, fun y hy => ?_⟩
      repeat' walk_at "mv"
      refine ⟨_, _, _, rfl, set_old hy hra5, by rw [iv_len]; walk_at "om", ?_⟩
      rw [iv_len]
      repeat' walk_at "mv"
      refine ⟨_, _, _, rfl, set_old hy hE, by rw [iv_len]; walk_at "om", ?_⟩
      rw [iv_len]
      repeat' walk_at "mv"
      refine ⟨y, .int 0, _, rfl, rfl, Hp.set_same, by walk_at "om", fun c hc => ?_⟩
      repeat' walk_at "mv"
      refine ⟨_, _, _, _, _, _, rfl, rfl, set_old hc (set_old hy hE), Hp.set_same, by rw [iv_len, List.length_replicate]; walk_at "om", fun D' hD' => ?_⟩
      have eR : iv (lim w (a * 2 ^ s)) ++ List.replicate (((lim w a).length : Int) + 1 - (lim w (a * 2 ^ s)).length).toNat (.int 0) = iv (lim w (a * 2 ^ s) ++ List.replicate ((lim w a).length + 1 - (lim w (a * 2 ^ s)).length) 0) := by
        rw [iv_rep, iv_app, show (((lim w a).length : Int) + 1 - (lim w (a * 2 ^ s)).length).toNat = (lim w a).length + 1 - (lim w (a * 2 ^ s)).length by walk_at "om"]
      rw [eR]
      have hB := B_pos w
      have dR : Dg (2 ^ w) (lim w (a * 2 ^ s) ++ List.replicate ((lim w a).length + 1 - (lim w (a * 2 ^ s)).length) 0) := (lim_dg hw _).append (.rep hB _)
      have vR : val (2 ^ w) (lim w (a * 2 ^ s) ++ List.replicate ((lim w a).length + 1 - (lim w (a * 2 ^ s)).length) 0) = ((a * 2 ^ s : Nat) : Int) := by
        rw [val_app, val_rep, Int.mul_zero, Int.add_zero, lim_val hw]
      have lR : (lim w (a * 2 ^ s) ++ List.replicate ((lim w a).length + 1 - (lim w (a * 2 ^ s)).length) 0).length = (lim w a).length + 1 := by
        rw [List.length_append, List.length_replicate]; walk_at "om"
      have topR := rest_top hw hb0 dR vR lR hlb hlm
      clear eR
      generalize lim w (a * 2 ^ s) ++ List.replicate ((lim w a).length + 1 - (lim w (a * 2 ^ s)).length) 0 = R at *
      have hDD : D ≠ D' := ne_fresh hD' (set_old hc (set_old hy hD5))
      have hD6 : ((H5.set y ⟨true, false, [.int 0]⟩).set c ⟨true, false, List.replicate (((lim w a).length : Int) + 1 - (lim w (a * 2 ^ s)).length).toNat (.int 0)⟩).set D' ⟨true, false, iv R⟩ D = some ⟨wD, false, iv (lim w (b * 2 ^ s))⟩ := set_old hD' (set_old hc (set_old hy hD5))
      have hR6 : ((H5.set y ⟨true, false, [.int 0]⟩).set c ⟨true, false, List.replicate (((lim w a).length : Int) + 1 - (lim w (a * 2 ^ s)).length).toNat (.int 0)⟩).set D' ⟨true, false, iv R⟩ D' = some ⟨true, false, iv R⟩ := Hp.set_same
      have s7 : Sub H (((H5.set y ⟨true, false, [.int 0]⟩).set c ⟨true, false, List.replicate (((lim w a).length : Int) + 1 - (lim w (a * 2 ^ s)).length).toNat (.int 0)⟩).set D' ⟨true, false, iv R⟩) := s6.trans ((Sub.set hy).trans ((Sub.set hc).trans (Sub.set hD')))
      have hfresh : H D' = none := by
        cases q : H D' with
        | none => rfl
        | some o =>
          have := set_old (o' := ⟨true, false, List.replicate (((lim w a).length : Int) + 1 - (lim w (a * 2 ^ s)).length).toNat (.int 0)⟩) hc (set_old (o' := ⟨true, false, [.int 0]⟩) hy (s6 _ _ q))
          rw [this] at hD'; cases hD'
      clear hD' hc hy hD5 hra5 hE s6
      generalize ((H5.set y ⟨true, false, [.int 0]⟩).set c ⟨true, false, List.replicate (((lim w a).length : Int) + 1 - (lim w (a * 2 ^ s)).length).toNat (.int 0)⟩).set D' ⟨true, false, iv R⟩ = H6 at *
      have vD := lim_val hw (b * 2 ^ s)
      have dD := lim_dg hw (b * 2 ^ s)
      repeat' walk_at "mv"
      refine ok_rows hw hw9 O (hA.deeper.le (by walk_at "om")) hR6 ⟨_, hD6⟩ hDD dR dD (by walk_at "om") lenD2 (by walk_at "om") ef (by walk_at "om") (by rw [vD]; exact topR) ?_
      intro H7 d qs R' f7 r7 q7 dq dR' lR' lq v7 b7
      rw [vR, vD] at v7
      rw [vD] at b7
      have nq := val_nonneg hB dq
      have nr := val_nonneg hB dR'
      obtain ⟨eq, er⟩ := div_of hb0 nq nr v7 b7
      have s8 : Sub H H7 := fun r o h => f7 r o (fun q => by rw [q, hfresh] at h; cases h) (s7 _ _ h)
      have hrsmall : (val (2 ^ w) R').toNat < 2 ^ 60 := by walk_at "om"
      repeat' walk_at "mv"
      refine ok_normal O (hA.deeper.le (by walk_at "om")) q7 (by walk_at "om") _ ?_
      rintro _ H8 s9 ⟨d1, rfl, hd1⟩
      rw [trim_lim hw dq, eq] at hd1
      repeat' walk_at "mv"
      refine ok_normal O (hA.deeper.le (by walk_at "om")) ⟨_, s9 _ _ r7⟩ (by walk_at "om") _ ?_
      rintro _ H9 s10 ⟨d2, rfl, hd2⟩
      rw [trim_lim hw dR'] at hd2
      repeat' walk_at "mv"
      refine ok_shift_right hw hw9 O (hA.deeper.le (by walk_at "om")) hd2 hrsmall (by walk_at "om") _ ?_
      rintro v H10 s11 h11
      rw [er] at h11
      repeat' walk_at "mv"
      refine ⟨by simp, fun t ht => ⟨s8.trans (s9.trans (s10.trans (s11.trans (Sub.set ht)))), t, _, _, rfl, At.set, ⟨d1, rfl, At.old ht ((hd1.sub s10).sub s11)⟩, h11.sub (Sub.set ht)⟩⟩
end
section
open PySem PySem.W PySem.Calls PyProof.Rows

section
variable {e : Ev} {A : Around} {f : Fm} {m : List (Str × V)} {H : Hp} {Q : V → Hp → Prop} {np pos : Pos} {x : Expr} {rest : List Expr}
theorem v_mul (O : e.c.Ok) (hv : lkp m (Str.ofString "mul") = some (.ref 189)) (h : EVl e.c A f pos (x :: rest) m H (fun vs H2 => CALL e.c A 189 vs H2 Q)) (hf : f.sc.kind = .function := by with_unfolding_all rfl) (hx : f.env.kindOf (Str.ofString "mul") = some .local := by with_unfolding_all rfl)
    (he : starEach (x :: rest) f.env = (false, eval x f.env) :: starEach rest f.env := by with_unfolding_all rfl) (hplain : (backTo pos (starEach rest f.env)).any (·.1) = false := by with_unfolding_all rfl) :
    EV e.c A f (.Call (.Name (Str.ofString "mul") np) (x :: rest) [] pos) m H Q := EV_fvar O hv (k_mul_school _) h hf hx (by decide) he hplain
theorem v_divrem (O : e.c.Ok) (hv : lkp m (Str.ofString "divrem") = some (.ref 231)) (h : EVl e.c A f pos (x :: rest) m H (fun vs H2 => CALL e.c A 231 vs H2 Q)) (hf : f.sc.kind = .function := by with_unfolding_all rfl) (hx : f.env.kindOf (Str.ofString "divrem") = some .local := by with_unfolding_all rfl)
    (he : starEach (x :: rest) f.env = (false, eval x f.env) :: starEach rest f.env := by with_unfolding_all rfl) (hplain : (backTo pos (starEach rest f.env)).any (·.1) = false := by with_unfolding_all rfl) :
    EV e.c A f (.Call (.Name (Str.ofString "divrem") np) (x :: rest) [] pos) m H Q := EV_fvar O hv (k_divrem_school _) h hf hx (by decide) he hplain
end

/-- a matrix of numbers -/
inductive Mat (w : Nat) (H : Hp) (v : V) (m n p q : Nat) : Prop
  | mk (r : Addr) (v1 v2 v3 v4 : V) (e : v = .ref r) (a : At H r true [v1, v2, v3, v4]) (h1 : Num w H v1 m) (h2 : Num w H v2 n) (h3 : Num w H v3 p) (h4 : Num w H v4 q) : Mat w H v m n p q
theorem Mat.up {w : Nat} {H1 H2 : Hp} {v : V} {m n p q : Nat} (h : Mat w H1 v m n p q) (ha : ∀ r t xs, At H1 r t xs → At H2 r t xs) : Mat w H2 v m n p q :=
  let ⟨r, v1, v2, v3, v4, e, a, n1, n2, n3, n4⟩ := h; ⟨r, v1, v2, v3, v4, e, ha _ _ _ a, n1.up ha, n2.up ha, n3.up ha, n4.up ha⟩
theorem Mat.sub {w : Nat} {H1 H2 : Hp} {v : V} {m n p q : Nat} (h : Mat w H1 v m n p q) (s : Sub H1 H2) : Mat w H2 v m n p q := h.up fun _ _ _ a => a.sub s
/-- a state: a matrix and two numbers -/
inductive St (w : Nat) (H : Hp) (v : V) (m n p q a b : Nat) : Prop
  | mk (r : Addr) (v1 v2 v3 : V) (e : v = .ref r) (at_ : At H r true [v1, v2, v3]) (h1 : Mat w H v1 m n p q) (h2 : Num w H v2 a) (h3 : Num w H v3 b) : St w H v m n p q a b
theorem St.up {w : Nat} {H1 H2 : Hp} {v : V} {m n p q a b : Nat} (h : St w H1 v m n p q a b) (ha : ∀ r t xs, At H1 r t xs → At H2 r t xs) : St w H2 v m n p q a b :=
  let ⟨r, v1, v2, v3, e, x, n1, n2, n3⟩ := h; ⟨r, v1, v2, v3, e, ha _ _ _ x, n1.up ha, n2.up ha, n3.up ha⟩
theorem St.sub {w : Nat} {H1 H2 : Hp} {v : V} {m n p q a b : Nat} (h : St w H1 v m n p q a b) (s : Sub H1 H2) : St w H2 v m n p q a b := h.up fun _ _ _ a => a.sub s
theorem up_fr {H : Hp} : ∀ r t xs, At H r t xs → At (fr H) r t xs := fun _ _ _ h => ⟨false, fr_at h⟩
theorem mul_bound {x y : Nat} (hx : x < 2 ^ 24) (hy : y < 2 ^ 24) : x * y < 2 ^ 48 := by have := Nat.mul_lt_mul'' hx hy; walk_at "om"

variable {e : Ev} {A : Around} {H : Hp}

theorem ok_matmul {w : Nat} {v1 v2 : V} {m n p q c d g h : Nat} (hw : 0 < w) (hw9 : w ≤ 20) (O : e.c.Ok) (hA : Rm A 3) (h1 : Mat w H v1 m n p q) (h2 : Mat w H v2 c d g h)
    (b1 : m < 2 ^ 24 ∧ n < 2 ^ 24 ∧ p < 2 ^ 24 ∧ q < 2 ^ 24) (b2 : c < 2 ^ 24 ∧ d < 2 ^ 24 ∧ g < 2 ^ 24 ∧ h < 2 ^ 24) :
    PURE e.c A 126 [v1, v2, .int w, .ref 189] H (fun v H' => Mat w H' v (m * c + n * g) (m * d + n * h) (p * c + q * g) (p * d + q * h)) := by
  obtain ⟨r1, x1, x2, x3, x4, rfl, a1, n1, n2, n3, n4⟩ := h1.up up_fr
  obtain ⟨r2, y1, y2, y3, y4, rfl, a2, k1, k2, k3, k4⟩ := h2.up up_fr
  refine PURE_of (fun v H1 H2 h n => n.up h) ?_
  refine CALL_enter [Str.ofString "one", Str.ofString "other", Str.ofString "w", Str.ofString "mul"] O hA.room rfl rfl (fun us hl => ?_) rfl (by decide) (by decide) (by decide) (fun L => ?_)
  · obtain ⟨u, v, x, y, rfl⟩ := len4 hl; rfl
  have hh := hA.h
  generalize fr H = H at *
  obtain ⟨z1, rfl, n1⟩ := n1
  obtain ⟨z2, rfl, n2⟩ := n2
  obtain ⟨z3, rfl, n3⟩ := n3
  obtain ⟨z4, rfl, n4⟩ := n4
  obtain ⟨u1, rfl, k1⟩ := k1
  obtain ⟨u2, rfl, k2⟩ := k2
  obtain ⟨u3, rfl, k3⟩ := k3
  obtain ⟨u4, rfl, k4⟩ := k4
  obtain ⟨w1, a1⟩ := a1
  obtain ⟨w2, a2⟩ := a2
  obtain ⟨bm, bn, bp, bq⟩ := b1
  obtain ⟨bc, bd, bg, bh⟩ := b2
  have B1 := mul_bound bm bc
  have B2 := mul_bound bn bg
  have B3 := mul_bound bm bd
  have B4 := mul_bound bn bh
  have B5 := mul_bound bp bc
  have B6 := mul_bound bq bg
  have B7 := mul_bound bp bd
  have B8 := mul_bound bq bh
  refine EX_cons (EX_unpack4 hh ?_)
  repeat' walk_at "mv"
  refine ⟨_, _, _, _, _, _, rfl, a1, ?_⟩
  refine EX_cons (EX_unpack4 hh ?_)
  repeat' walk_at "mv"
  refine ⟨_, _, _, _, _, _, rfl, a2, ?_⟩
  repeat' walk_at "mv"
  refine v_mul O (by with_unfolding_all rfl) ?_
  repeat' walk_at "mv"
  refine ok_mul hw hw9 O (hA.deeper.le (by walk_at "om")) n1 k1 (by walk_at "om") (by walk_at "om") _ ?_
  rintro _ H1 s1 ⟨t1, rfl, q1⟩
  repeat' walk_at "mv"
  refine v_mul O (by with_unfolding_all rfl) ?_
  repeat' walk_at "mv"
  refine ok_mul hw hw9 O (hA.deeper.le (by walk_at "om")) (n2.sub s1) (k3.sub s1) (by walk_at "om") (by walk_at "om") _ ?_
  rintro _ H2 s2 ⟨t2, rfl, q2⟩
  repeat' walk_at "mv"
  refine ok_add hw (by walk_at "om") O (hA.deeper.le (by walk_at "om")) (q1.sub s2) q2 (by walk_at "om") (by walk_at "om") _ ?_
  rintro V1 H3 s3 N1
  have s1 := s1.trans (s2.trans s3)
  clear s2 s3 q1 q2
  repeat' walk_at "mv"
  refine v_mul O (by with_unfolding_all rfl) ?_
  repeat' walk_at "mv"
  refine ok_mul hw hw9 O (hA.deeper.le (by walk_at "om")) (n1.sub s1) (k2.sub s1) (by walk_at "om") (by walk_at "om") _ ?_
  rintro _ H4 s4 ⟨t1, rfl, q1⟩
  have s1 := s1.trans s4
  repeat' walk_at "mv"
  refine v_mul O (by with_unfolding_all rfl) ?_
  repeat' walk_at "mv"
  refine ok_mul hw hw9 O (hA.deeper.le (by walk_at "om")) (n2.sub s1) (k4.sub s1) (by walk_at "om") (by walk_at "om") _ ?_
  rintro _ H5 s5 ⟨t2, rfl, q2⟩
  repeat' walk_at "mv"
  refine ok_add hw (by walk_at "om") O (hA.deeper.le (by walk_at "om")) (q1.sub s5) q2 (by walk_at "om") (by walk_at "om") _ ?_
  rintro V2 H6 s6 N2
  have s1 := s1.trans (s5.trans s6)
  have N1 := N1.sub (s4.trans (s5.trans s6))
  clear s4 s5 s6 q1 q2
  repeat' walk_at "mv"
  refine v_mul O (by with_unfolding_all rfl) ?_
  repeat' walk_at "mv"
  refine ok_mul hw hw9 O (hA.deeper.le (by walk_at "om")) (n3.sub s1) (k1.sub s1) (by walk_at "om") (by walk_at "om") _ ?_
  rintro _ H7 s4 ⟨t1, rfl, q1⟩
  have s1 := s1.trans s4
  repeat' walk_at "mv"
  refine v_mul O (by with_unfolding_all rfl) ?_
  repeat' walk_at "mv"
  refine ok_mul hw hw9 O (hA.deeper.le (by walk_at "om")) (n4.sub s1) (k3.sub s1) (by walk_at "om") (by walk_at "om") _ ?_
  rintro _ H8 s5 ⟨t2, rfl, q2⟩
  repeat' walk_at "mv"
  refine ok_add hw (by walk_at "om") O (hA.deeper.le (by walk_at "om")) (q1.sub s5) q2 (by walk_at "om") (by walk_at "om") _ ?_
  rintro V3 H9 s6 N3
  have s1 := s1.trans (s5.trans s6)
  have N1 := N1.sub (s4.trans (s5.trans s6))
  have N2 := N2.sub (s4.trans (s5.trans s6))
  clear s4 s5 s6 q1 q2
  repeat' walk_at "mv"
  refine v_mul O (by with_unfolding_all rfl) ?_
  repeat' walk_at "mv"
  refine ok_mul hw hw9 O (hA.deeper.le (by walk_at "om")) (n3.sub s1) (k2.sub s1) (by walk_at "om") (by walk_at "om") _ ?_
  rintro _ H10 s4 ⟨t1, rfl, q1⟩
  have s1 := s1.trans s4
  repeat' walk_at "mv"
  refine v_mul O (by with_unfolding_all rfl) ?_
  repeat' walk_at "mv"
  refine ok_mul hw hw9 O (hA.deeper.le (by walk_at "om")) (n4.sub s1) (k4.sub s1) (by walk_at "om") (by walk_at "om") _ ?_
  rintro _ H11 s5 ⟨t2, rfl, q2⟩
  repeat' walk_at "mv"
  refine ok_add hw (by walk_at "om") O (hA.deeper.le (by walk_at "om")) (q1.sub s5) q2 (by walk_at "om") (by walk_at "om") _ ?_
  rintro V4 H12 s6 N4
  have s1 := s1.trans (s5.trans s6)
  have N1 := N1.sub (s4.trans (s5.trans s6))
  have N2 := N2.sub (s4.trans (s5.trans s6))
  have N3 := N3.sub (s4.trans (s5.trans s6))
  clear s4 s5 s6 q1 q2
  repeat' walk_at "mv"
  refine ⟨by simp, fun z hz => ?_⟩
  have sz := Sub.set (o := ⟨false, true, [V1, V2, V3, V4]⟩) hz
  repeat' walk_at "mv"
  exact ⟨s1.trans sz, z, V1, V2, V3, V4, rfl, At.set, N1.sub sz, N2.sub sz, N3.sub sz, N4.sub sz⟩
end
section
open PySem PySem.W PySem.Calls PyProof.Rows

variable {e : Ev} {A : Around} {H : Hp}

theorem ok_led {w : Nat} {v1 vt : V} {ra rb : Addr} {m n p q a b k c d : Nat} (hw : 0 < w) (hw9 : w ≤ 20) (O : e.c.Ok) (hA : Rm A 3) (h1 : Mat w H v1 m n p q) (ha : At H ra false (iv (lim w a))) (hb : At H rb false (iv (lim w b)))
    (hv : ∃ t vc vd, vt = .ref t ∧ At H t true [vc, vd] ∧ Num w H vc c ∧ Num w H vd d)
    (b1 : m < 2 ^ 24 ∧ n < 2 ^ 24 ∧ p < 2 ^ 24 ∧ q < 2 ^ 24) (b2 : a < 2 ^ 24 ∧ b < 2 ^ 24 ∧ c < 2 ^ 24 ∧ d < 2 ^ 24) (hk : k ≤ 24) (g1 : n * b ≤ c * 2 ^ k + q * a) (g2 : p * a ≤ d * 2 ^ k + m * b) :
    PURE e.c A 133 [v1, .ref ra, .ref rb, .int k, vt, .int w, .ref 189] H (fun v H' => ∃ t x y, v = .ref t ∧ At H' t true [x, y] ∧ Num w H' x (c * 2 ^ k + q * a - n * b) ∧ Num w H' y (d * 2 ^ k + m * b - p * a)) := by
  obtain ⟨r1, x1, x2, x3, x4, rfl, a1, n1, n2, n3, n4⟩ := h1.up up_fr
  obtain ⟨rt, vc, vd, rfl, at_, nc, nd⟩ := hv
  have at_ := up_fr _ _ _ at_
  have nc := nc.up up_fr
  have nd := nd.up up_fr
  refine PURE_of (by rintro v H1 H2 h ⟨t, q, r, e1, e2, n, n2⟩; exact ⟨t, q, r, e1, h _ _ _ e2, n.up h, n2.up h⟩) ?_
  refine CALL_enter [Str.ofString "matrix", Str.ofString "a", Str.ofString "b", Str.ofString "place", Str.ofString "high", Str.ofString "w", Str.ofString "mul"] O hA.room rfl rfl (fun us hl => ?_) rfl (by decide) (by decide) (by decide) (fun L => ?_)
  · obtain ⟨u1, u2, u3, u4, u5, u6, u7, rfl⟩ := len7 hl; rfl
  have hh := hA.h
  have ha := up_fr _ _ _ ha
  have hb := up_fr _ _ _ hb
  generalize fr H = H at *
  obtain ⟨z1, rfl, n1⟩ := n1
  obtain ⟨z2, rfl, n2⟩ := n2
  obtain ⟨z3, rfl, n3⟩ := n3
  obtain ⟨z4, rfl, n4⟩ := n4
  obtain ⟨u1, rfl, k1⟩ := nc
  obtain ⟨u2, rfl, k2⟩ := nd
  obtain ⟨w1, a1⟩ := a1
  obtain ⟨w2, at_⟩ := at_
  obtain ⟨bm, bn, bp, bq⟩ := b1
  obtain ⟨ba, bb, bc, bd⟩ := b2
  have B1 := mul_bound bq ba
  have B2 := mul_bound bn bb
  have B3 := mul_bound bm bb
  have B4 := mul_bound bp ba
  have hp : 2 ^ k ≤ 2 ^ 24 := Nat.pow_le_pow_right (by decide) hk
  have B5 : c * 2 ^ k < 2 ^ 48 := by
    have h1 := Nat.mul_le_mul_left c hp
    walk_at "om"
  have B6 : d * 2 ^ k < 2 ^ 48 := by
    have h1 := Nat.mul_le_mul_left d hp
    walk_at "om"
  refine EX_cons (EX_unpack4 hh ?_)
  repeat' walk_at "mv"
  refine ⟨_, _, _, _, _, _, rfl, a1, ?_⟩
  refine EX_cons ?_
  refine EX_swap2 hh ?_
  refine EVl_cons ?_
  refine d_shift_left O ?_
  refine EVl_cons ?_
  refine EV_titem ?_
  repeat' walk_at "mv"
  refine ⟨_, _, _, 0, _, rfl, rfl, at_, by decide, rfl, ?_⟩
  repeat' walk_at "mv"
  refine ok_shift_left hw (by walk_at "om") O (hA.deeper.le (by walk_at "om")) k1 (by walk_at "om") (by walk_at "om") _ ?_
  rintro _ H1 s1 ⟨t1, rfl, q1⟩
  refine EVl_cons ?_
  refine d_shift_left O ?_
  refine EVl_cons ?_
  refine EV_titem ?_
  repeat' walk_at "mv"
  refine ⟨_, _, _, 1, _, rfl, rfl, s1 _ _ at_, by decide, rfl, ?_⟩
  repeat' walk_at "mv"
  refine ok_shift_left hw (by walk_at "om") O (hA.deeper.le (by walk_at "om")) (k2.sub s1) (by walk_at "om") (by walk_at "om") _ ?_
  rintro _ H2 s2 ⟨t2, rfl, q2⟩
  repeat' walk_at "mv"
  refine ⟨_, _, rfl, ?_⟩
  have q1 := q1.sub s2
  have s1 := s1.trans s2
  clear s2
  repeat' walk_at "mv"
  refine v_mul O (by with_unfolding_all rfl) ?_
  repeat' walk_at "mv"
  refine ok_mul hw hw9 O (hA.deeper.le (by walk_at "om")) (n4.sub s1) (ha.sub s1) (by walk_at "om") (by walk_at "om") _ ?_
  rintro _ H3 s3 ⟨t3, rfl, q3⟩
  repeat' walk_at "mv"
  refine ok_add hw (by walk_at "om") O (hA.deeper.le (by walk_at "om")) (q1.sub s3) q3 (by walk_at "om") (by walk_at "om") _ ?_
  rintro _ H4 s4 ⟨t4, rfl, q4⟩
  have s1 := s1.trans (s3.trans s4)
  repeat' walk_at "mv"
  refine v_mul O (by with_unfolding_all rfl) ?_
  repeat' walk_at "mv"
  refine ok_mul hw hw9 O (hA.deeper.le (by walk_at "om")) (n2.sub s1) (hb.sub s1) (by walk_at "om") (by walk_at "om") _ ?_
  rintro _ H5 s5 ⟨t5, rfl, q5⟩
  repeat' walk_at "mv"
  refine ok_sub hw (by walk_at "om") O (hA.deeper.le (by walk_at "om")) (q4.sub s5) q5 (by walk_at "om") g1 _ ?_
  rintro V1 H6 s6 N1
  have q2 := ((q2.sub (s3.trans s4)).sub s5).sub s6
  have s1 := s1.trans (s5.trans s6)
  clear s3 s4 s5 s6 q3 q4 q5 q1
  repeat' walk_at "mv"
  refine v_mul O (by with_unfolding_all rfl) ?_
  repeat' walk_at "mv"
  refine ok_mul hw hw9 O (hA.deeper.le (by walk_at "om")) (n1.sub s1) (hb.sub s1) (by walk_at "om") (by walk_at "om") _ ?_
  rintro _ H3 s3 ⟨t3, rfl, q3⟩
  repeat' walk_at "mv"
  refine ok_add hw (by walk_at "om") O (hA.deeper.le (by walk_at "om")) (q2.sub s3) q3 (by walk_at "om") (by walk_at "om") _ ?_
  rintro _ H4 s4 ⟨t4, rfl, q4⟩
  have s1 := s1.trans (s3.trans s4)
  repeat' walk_at "mv"
  refine v_mul O (by with_unfolding_all rfl) ?_
  repeat' walk_at "mv"
  refine ok_mul hw hw9 O (hA.deeper.le (by walk_at "om")) (n3.sub s1) (ha.sub s1) (by walk_at "om") (by walk_at "om") _ ?_
  rintro _ H5 s5 ⟨t5, rfl, q5⟩
  repeat' walk_at "mv"
  refine ok_sub hw (by walk_at "om") O (hA.deeper.le (by walk_at "om")) (q4.sub s5) q5 (by walk_at "om") g2 _ ?_
  rintro V2 H6 s6 N2
  have s1 := s1.trans (s5.trans s6)
  have N1 := N1.sub (s3.trans (s4.trans (s5.trans s6)))
  repeat' walk_at "mv"
  refine ⟨by simp, fun z hz => ?_⟩
  have sz := Sub.set (o := ⟨false, true, [V1, V2]⟩) hz
  repeat' walk_at "mv"
  exact ⟨s1.trans sz, z, V1, V2, rfl, At.set, N1.sub sz, N2.sub sz⟩

theorem ok_great {w : Nat} {ra rb : Addr} {a b s : Nat} (hw : 0 < w) (hw9 : w ≤ 20) (O : e.c.Ok) (hA : Rm A 5) (ha : At H ra false (iv (lim w a))) (hb : At H rb false (iv (lim w b))) (la : a < 2 ^ 40) (hb0 : 0 < b) (hba : b ≤ a) :
    PURE e.c A 140 [.ref ra, .ref rb, .int s, .int w, .ref 231] H (fun v H' => ∃ t x y, v = .ref t ∧ At H' t true [x, y] ∧ Num w H' x (if bl (a % b) ≤ s then a / b - 1 else a / b) ∧ Num w H' y (if bl (a % b) ≤ s then a % b + b else a % b)) := by
  refine PURE_of (by rintro v H1 H2 h ⟨t, q, r, e1, e2, n, n2⟩; exact ⟨t, q, r, e1, h _ _ _ e2, n.up h, n2.up h⟩) ?_
  refine CALL_enter [Str.ofString "a", Str.ofString "b", Str.ofString "size", Str.ofString "w", Str.ofString "divrem"] O hA.room rfl rfl (fun us hl => ?_) rfl (by decide) (by decide) (by decide) (fun L => ?_)
  · obtain ⟨u1, u2, u3, u4, u5, rfl⟩ := len5 hl; rfl
  have hh := hA.h
  have ha := up_fr _ _ _ ha
  have hb := up_fr _ _ _ hb
  generalize fr H = H at *
  have hmod := Nat.mod_lt a hb0
  have hdiv : 1 ≤ a / b := Nat.div_pos hba hb0
  have hdivle := Nat.div_le_self a b
  refine EX_cons ?_
  refine EX_unpack2 hh ?_
  refine v_divrem O (by with_unfolding_all rfl) ?_
  repeat' walk_at "mv"
  refine ok_divrem hw hw9 O (hA.deeper.le (by walk_at "om")) ha hb la (by walk_at "om") hb0 _ ?_
  rintro _ H1 s1 ⟨t, _, _, rfl, ⟨wt, ht⟩, ⟨q, rfl, hq⟩, ⟨r, rfl, hr⟩⟩
  refine ⟨_, _, _, _, rfl, ht, ?_⟩
  repeat' walk_at "mv"
  refine ok_bits hw (by walk_at "om") O (hA.deeper.le (by walk_at "om")) hr (by walk_at "om") _ ?_
  rintro _ H2 s2 rfl
  have hq := hq.sub s2
  have hr := hr.sub s2
  have s1 := s1.trans s2
  repeat' walk_at "mv"
  refine ⟨fun h => ?_, fun h => ?_⟩
  · have h := of_decide_eq_true h
    have h : bl (a % b) ≤ s := by walk_at "om"
    rw [if_pos h, if_pos h]
    repeat' walk_at "mv"
    refine ⟨by simp, fun z hz => ?_⟩
    have sz := Sub.set (o := ⟨true, false, [.int 1]⟩) hz
    have hz1 : At (H2.set z ⟨true, false, [.int 1]⟩) z false (iv (lim w 1)) := by rw [lim_one hw (by decide) (Nat.one_lt_two_pow (by walk_at "om"))]; exact At.set
    repeat' walk_at "mv"
    refine ok_sub hw (by walk_at "om") O (hA.deeper.le (by walk_at "om")) (hq.sub sz) hz1 (by walk_at "om") hdiv _ ?_
    rintro V1 H3 s3 N1
    repeat' walk_at "mv"
    refine ok_add hw (by walk_at "om") O (hA.deeper.le (by walk_at "om")) ((hr.sub sz).sub s3) (hb.sub (s1.trans (sz.trans s3))) (by walk_at "om") (by walk_at "om") _ ?_
    rintro V2 H4 s4 N2
    repeat' walk_at "mv"
    refine ⟨_, _, rfl, ?_⟩
    repeat' walk_at "mv"
    refine ⟨by simp, fun y hy => ?_⟩
    have sy := Sub.set (o := ⟨false, true, [V1, V2]⟩) hy
    repeat' walk_at "mv"
    exact ⟨(s1.trans (sz.trans (s3.trans s4))).trans sy, y, V1, V2, rfl, At.set, (N1.sub s4).sub sy, N2.sub sy⟩
  · have h := of_decide_eq_false h
    have h : ¬ bl (a % b) ≤ s := by walk_at "om"
    rw [if_neg h, if_neg h]
    repeat' walk_at "mv"
    refine ⟨by simp, fun y hy => ?_⟩
    have sy := Sub.set (o := ⟨false, true, [.ref q, .ref r]⟩) hy
    repeat' walk_at "mv"
    exact ⟨s1.trans sy, y, _, _, rfl, At.set, ⟨q, rfl, hq.sub sy⟩, ⟨r, rfl, hr.sub sy⟩⟩

theorem ok_least {w : Nat} {ra rb : Addr} {a b : Nat} (hw : 0 < w) (hw9 : w ≤ 20) (O : e.c.Ok) (hA : Rm A 2) (ha : At H ra false (iv (lim w a))) (hb : At H rb false (iv (lim w b))) (la : a < 2 ^ 60) (lb : b < 2 ^ 60) :
    PURE e.c A 161 [.ref ra, .ref rb, .int w] H (fun v H' => v = .int ((min (bl a) (bl b) : Nat))) := by
  refine PURE_of (fun v H1 H2 h n => n) ?_
  refine CALL_enter [Str.ofString "a", Str.ofString "b", Str.ofString "w"] O hA.room rfl rfl (fun us hl => ?_) rfl (by decide) (by decide) (by decide) (fun L => ?_)
  · obtain ⟨u1, u2, u3, rfl⟩ := len3 hl; rfl
  have ha := up_fr _ _ _ ha
  have hb := up_fr _ _ _ hb
  generalize fr H = H at *
  repeat' walk_at "mv"
  refine ok_bits hw (by walk_at "om") O (hA.deeper.le (by walk_at "om")) ha la _ ?_
  rintro _ H1 s1 rfl
  repeat' walk_at "mv"
  refine ok_bits hw (by walk_at "om") O (hA.deeper.le (by walk_at "om")) (hb.sub s1) lb _ ?_
  rintro _ H2 s2 rfl
  repeat' walk_at "mv"
  refine ⟨s1.trans s2, ?_⟩
  congr 1
  split <;> walk_at "om"

theorem ok_most {w : Nat} {ra rb : Addr} {a b : Nat} (hw : 0 < w) (hw9 : w ≤ 20) (O : e.c.Ok) (hA : Rm A 2) (ha : At H ra false (iv (lim w a))) (hb : At H rb false (iv (lim w b))) (la : a < 2 ^ 60) (lb : b < 2 ^ 60) :
    PURE e.c A 168 [.ref ra, .ref rb, .int w] H (fun v H' => v = .int ((max (bl a) (bl b) : Nat))) := by
  refine PURE_of (fun v H1 H2 h n => n) ?_
  refine CALL_enter [Str.ofString "a", Str.ofString "b", Str.ofString "w"] O hA.room rfl rfl (fun us hl => ?_) rfl (by decide) (by decide) (by decide) (fun L => ?_)
  · obtain ⟨u1, u2, u3, rfl⟩ := len3 hl; rfl
  have ha := up_fr _ _ _ ha
  have hb := up_fr _ _ _ hb
  generalize fr H = H at *
  repeat' walk_at "mv"
  refine ok_bits hw (by walk_at "om") O (hA.deeper.le (by walk_at "om")) ha la _ ?_
  rintro _ H1 s1 rfl
  repeat' walk_at "mv"
  refine ok_bits hw (by walk_at "om") O (hA.deeper.le (by walk_at "om")) (hb.sub s1) lb _ ?_
  rintro _ H2 s2 rfl
  repeat' walk_at "mv"
  refine ⟨s1.trans s2, ?_⟩
  congr 1
  split <;> walk_at "om"

/-- how far two numbers lie apart -/
def gap (a b : Nat) : Nat := (a - b) + (b - a)

theorem ok_diff {w : Nat} {ra rb : Addr} {a b : Nat} (hw : 0 < w) (hw9 : w ≤ 20) (O : e.c.Ok) (hA : Rm A 3) (ha : At H ra false (iv (lim w a))) (hb : At H rb false (iv (lim w b))) (la : a < 2 ^ 60) (lb : b < 2 ^ 60) :
    PURE e.c A 154 [.ref ra, .ref rb, .int w] H (fun v H' => v = .int (bl (gap a b))) := by
  refine PURE_of (fun v H1 H2 h n => n) ?_
  refine CALL_enter [Str.ofString "a", Str.ofString "b", Str.ofString "w"] O hA.room rfl rfl (fun us hl => ?_) rfl (by decide) (by decide) (by decide) (fun L => ?_)
  · obtain ⟨u1, u2, u3, rfl⟩ := len3 hl; rfl
  have ha := up_fr _ _ _ ha
  have hb := up_fr _ _ _ hb
  generalize fr H = H at *
  refine EX_cons ?_
  refine EX_return ?_
  refine d_bits O ?_
  refine EVl_cons ?_
  refine EV_post (fun v H2 => Sub H H2 ∧ Num w H2 v (gap a b)) ?_ ?_
  · refine EV_ifexp ?_
    repeat' walk_at "mv"
    refine ok_compare hw O (hA.deeper.le (by walk_at "om")) ha hb (by walk_at "om") (by walk_at "om") _ ?_
    rintro _ H1 s1 rfl
    repeat' walk_at "mv"
    refine ⟨fun h => ?_, fun h => ?_⟩
    · have h := of_decide_eq_true h
      have hlt : b < a := by
        unfold cmpN at h
        split at h
        · walk_at "om"
        · split at h <;> walk_at "om"
      repeat' walk_at "mv"
      refine ok_sub hw (by walk_at "om") O (hA.deeper.le (by walk_at "om")) (ha.sub s1) (hb.sub s1) la (by walk_at "om") _ ?_
      rintro v H2 s2 n
      exact ⟨s1.trans s2, by rw [show gap a b = a - b by unfold gap; walk_at "om"]; exact n⟩
    · have h := of_decide_eq_false h
      have hle : a ≤ b := by
        unfold cmpN at h
        split at h
        · walk_at "om"
        · split at h <;> walk_at "om"
      repeat' walk_at "mv"
      refine ok_sub hw (by walk_at "om") O (hA.deeper.le (by walk_at "om")) (hb.sub s1) (ha.sub s1) lb (by walk_at "om") _ ?_
      rintro v H2 s2 n
      exact ⟨s1.trans s2, by rw [show gap a b = b - a by unfold gap; walk_at "om"]; exact n⟩
  · rintro _ H2 ⟨s2, ⟨r, rfl, hr⟩⟩
    repeat' walk_at "mv"
    refine ok_bits hw (by walk_at "om") O (hA.deeper.le (by walk_at "om")) hr (by unfold gap; walk_at "om") _ ?_
    rintro _ H3 s3 rfl
    repeat' walk_at "mv"
    exact ⟨s2.trans s3, rfl⟩
end
section
open PySem PySem.W PySem.Calls PyProof.Rows

/-- the matrix leads the small pair back to the big one; both numbers stay at the floor or above -/
structure Rch (F a b m n p q c d : Nat) : Prop where
  det : m * q = n * p + 1
  e1 : m * c + n * d = a
  e2 : p * c + q * d = b
  hc : F ≤ c
  hd : F ≤ d

theorem Rch.id {F a b : Nat} (ha : F ≤ a) (hb : F ≤ b) : Rch F a b 1 0 0 1 a b := ⟨by simp, by simp, by simp, ha, hb⟩
theorem Rch.pos {F a b m n p q c d : Nat} (h : Rch F a b m n p q c d) : 0 < m ∧ 0 < q := by
  have := h.det
  refine ⟨Nat.pos_of_ne_zero fun e => ?_, Nat.pos_of_ne_zero fun e => ?_⟩ <;> subst e <;> simp at this
theorem Rch.bound {F a b m n p q c d : Nat} (h : Rch F a b m n p q c d) (hF : 0 < F) : (m ≤ a ∧ n ≤ a ∧ p ≤ b ∧ q ≤ b) ∧ c ≤ a ∧ d ≤ b := by
  obtain ⟨m0, q0⟩ := h.pos
  have hc := h.hc
  have hd := h.hd
  have e1 := h.e1
  have e2 := h.e2
  have a1 := Nat.le_mul_of_pos_right m (show 0 < c by walk_at "om")
  have a2 := Nat.le_mul_of_pos_right n (show 0 < d by walk_at "om")
  have a3 := Nat.le_mul_of_pos_right p (show 0 < c by walk_at "om")
  have a4 := Nat.le_mul_of_pos_right q (show 0 < d by walk_at "om")
  have a5 := Nat.le_mul_of_pos_left c m0
  have a6 := Nat.le_mul_of_pos_left d q0
  exact ⟨⟨by walk_at "om", by walk_at "om", by walk_at "om", by walk_at "om"⟩, by walk_at "om", by walk_at "om"⟩

theorem Rch.comp {F a b m n p q a1 b1 c d g h x y : Nat} (u : Rch F a b m n p q a1 b1) (v : Rch F a1 b1 c d g h x y) : Rch F a b (m * c + n * g) (m * d + n * h) (p * c + q * g) (p * d + q * h) x y := by
  have e1 := u.e1
  have e2 := u.e2
  have e3 := v.e1
  have e4 := v.e2
  have d1 := u.det
  have d2 := v.det
  refine ⟨?_, ?_, ?_, v.hc, v.hd⟩
  · have h1 : (m * q) * (c * h) = (n * p + 1) * (d * g + 1) := by rw [d1, d2]
    have h2 : (m * c + n * g) * (p * d + q * h) = (m * q) * (c * h) + (n * p) * (d * g) + (m * p * (c * d) + n * q * (g * h)) := by grind
    have h3 : (m * d + n * h) * (p * c + q * g) = (m * q) * (d * g) + (n * p) * (c * h) + (m * p * (c * d) + n * q * (g * h)) := by grind
    rw [h2, h3, d1, d2]
    generalize n * p = s
    generalize d * g = t
    have h4 : (s + 1) * (t + 1) = s * t + s + t + 1 := by grind
    have h5 : (s + 1) * t = s * t + t := by grind
    have h6 : s * (t + 1) = s * t + s := by grind
    walk_at "om"
  · rw [← e1, ← e3, ← e4]; grind
  · rw [← e2, ← e3, ← e4]; grind

theorem Rch.up {F a b m n p q c d k r : Nat} (u : Rch F a b m n p q c d) (e : c = k * d + r) (hr : F ≤ r) : Rch F a b (m * 1 + n * 0) (m * k + n * 1) (p * 1 + q * 0) (p * k + q * 1) r d :=
  u.comp ⟨by simp, by walk_at "om", by walk_at "om", hr, u.hd⟩
theorem Rch.dn {F a b m n p q c d k r : Nat} (u : Rch F a b m n p q c d) (e : d = k * c + r) (hr : F ≤ r) : Rch F a b (m * 1 + n * k) (m * 0 + n * 1) (p * 1 + q * k) (p * 0 + q * 1) c r :=
  u.comp ⟨by simp, by walk_at "om", by walk_at "om", u.hc, hr⟩

theorem Rch.peel {F a b m n p q c d : Nat} (u : Rch F a b m n p q c d) : (m = 1 ∧ n = 0 ∧ p = 0 ∧ q = 1) ∨ (p ≤ m ∧ q ≤ n) ∨ (m ≤ p ∧ n ≤ q) := by
  have h := u.det
  obtain ⟨m0, q0⟩ := u.pos
  rcases Nat.lt_or_ge m p with h1 | h1
  · rcases Nat.lt_or_ge q n with h2 | h2
    · have := Nat.mul_lt_mul'' h1 h2
      rw [Nat.mul_comm p n] at this
      walk_at "om"
    · exact .inr (.inr ⟨by walk_at "om", h2⟩)
  · rcases Nat.lt_or_ge n q with h2 | h2
    · have a1 : m * (n + 1) ≤ m * q := Nat.mul_le_mul_left m (by walk_at "om")
      have a2 : n * p ≤ n * m := Nat.mul_le_mul_left n h1
      rw [Nat.mul_add, Nat.mul_one, Nat.mul_comm m n] at a1
      have hm : m = 1 := by walk_at "om"
      subst hm
      have hp : p = 0 ∨ p = 1 := by walk_at "om"
      rcases hp with hp | hp
      · subst hp
        simp at h
        exact .inl ⟨rfl, by walk_at "om", rfl, h⟩
      · subst hp
        exact .inr (.inr ⟨by walk_at "om", by walk_at "om"⟩)
    · exact .inr (.inl ⟨h1, h2⟩)

theorem Rch.top {F a b m n p q c d : Nat} (u : Rch F a b m n p q c d) (h1 : p ≤ m) (h2 : q ≤ n) : b + F ≤ a ∧ Rch F (a - b) b (m - p) (n - q) p q c d := by
  obtain ⟨i, rfl⟩ : ∃ i, m = p + i := ⟨m - p, by walk_at "om"⟩
  obtain ⟨j, rfl⟩ : ∃ j, n = q + j := ⟨n - q, by walk_at "om"⟩
  have h := u.det
  have e1 := u.e1
  have e2 := u.e2
  rw [Nat.add_mul, Nat.add_mul, Nat.mul_comm q p] at h
  rw [Nat.add_mul, Nat.add_mul] at e1
  have hi : 0 < i := Nat.pos_of_ne_zero fun e => by subst e; simp at h; walk_at "om"
  have := Nat.le_mul_of_pos_left c hi
  have hc := u.hc
  rw [Nat.add_sub_cancel_left, Nat.add_sub_cancel_left]
  exact ⟨by walk_at "om", by walk_at "om", by walk_at "om", e2, u.hc, u.hd⟩
theorem Rch.flip {F a b m n p q c d : Nat} (u : Rch F a b m n p q c d) : Rch F b a q p n m d c :=
  ⟨by have := u.det; rw [Nat.mul_comm q m, Nat.mul_comm p n]; exact this, by have := u.e2; walk_at "om", by have := u.e1; walk_at "om", u.hd, u.hc⟩
theorem Rch.low {F a b m n p q c d : Nat} (u : Rch F a b m n p q c d) (h1 : m ≤ p) (h2 : n ≤ q) : a + F ≤ b ∧ Rch F a (b - a) m n (p - m) (q - n) c d := by
  obtain ⟨x, y⟩ := u.flip.top h2 h1
  exact ⟨x, y.flip⟩

theorem Rch.idl {F a b m n p q c d : Nat} (u : Rch F a b m n p q c d) (h : m = 1 ∧ n = 0 ∧ p = 0 ∧ q = 1) : c = a ∧ d = b := by
  obtain ⟨rfl, rfl, rfl, rfl⟩ := h
  have h1 := u.e1
  have h2 := u.e2
  rw [Nat.one_mul, Nat.zero_mul] at h1 h2
  exact ⟨h1, by rw [Nat.zero_add] at h2; exact h2⟩
theorem gap_lt1 {F a b : Nat} (h : b + F ≤ a) (g : gap a b < F) : False := by unfold gap at g; omega
theorem gap_lt2 {F a b : Nat} (h : a + F ≤ b) (g : gap a b < F) : False := by unfold gap at g; omega
theorem less1 {N F a b : Nat} (hF : 0 < F) (hb : F ≤ b) (hN : a + b ≤ N + 1) (y : b + F ≤ a) : a - b + b ≤ N := by omega
theorem less2 {N F a b : Nat} (hF : 0 < F) (hb : F ≤ a) (hN : a + b ≤ N + 1) (y : a + F ≤ b) : a + (b - a) ≤ N := by omega
theorem both {F a b : Nat} (hF : 0 < F) (x : b + F ≤ a) (y : a + F ≤ b) : False := by omega
theorem back {x y x' y' : Nat} (h : y ≤ x) (h' : y' ≤ x') (e : x - y = x' - y') (f : y = y') : x = x' := by omega
theorem Rch.low_b {F a b m n p q c d : Nat} (u : Rch F a b m n p q c d) (hF : 0 < F) : F ≤ a ∧ F ≤ b := by
  obtain ⟨_, x, y⟩ := u.bound hF
  exact ⟨Nat.le_trans u.hc x, Nat.le_trans u.hd y⟩

/-- the last state is the only one of its kind -/
theorem Rch.uniq {F : Nat} (hF : 0 < F) (N : Nat) : ∀ (a b m n p q c d m' n' p' q' c' d' : Nat), a + b ≤ N → Rch F a b m n p q c d → gap c d < F → Rch F a b m' n' p' q' c' d' → gap c' d' < F →
    m = m' ∧ n = n' ∧ p = p' ∧ q = q' ∧ c = c' ∧ d = d' := by
  induction N with
  | zero =>
    intro a b m n p q c d m' n' p' q' c' d' hN u g u' g'
    obtain ⟨x, y⟩ := u.low_b hF
    exact absurd (Nat.le_trans x (Nat.le_trans (Nat.le_add_right a b) hN)) (Nat.not_le.mpr hF)
  | succ N IH =>
    intro a b m n p q c d m' n' p' q' c' d' hN u g u' g'
    obtain ⟨fa, fb⟩ := u.low_b hF
    rcases u.peel with i | ⟨t1, t2⟩ | ⟨t1, t2⟩
    · obtain ⟨rfl, rfl⟩ := u.idl i
      rcases u'.peel with i' | ⟨t1', t2'⟩ | ⟨t1', t2'⟩
      · obtain ⟨rfl, rfl⟩ := u'.idl i'
        obtain ⟨rfl, rfl, rfl, rfl⟩ := i
        obtain ⟨rfl, rfl, rfl, rfl⟩ := i'
        exact ⟨rfl, rfl, rfl, rfl, rfl, rfl⟩
      · exact (gap_lt1 (u'.top t1' t2').1 g).elim
      · exact (gap_lt2 (u'.low t1' t2').1 g).elim
    · obtain ⟨y, z⟩ := u.top t1 t2
      rcases u'.peel with i' | ⟨t1', t2'⟩ | ⟨t1', t2'⟩
      · obtain ⟨rfl, rfl⟩ := u'.idl i'
        exact (gap_lt1 y g').elim
      · obtain ⟨y', z'⟩ := u'.top t1' t2'
        obtain ⟨e1, e2, e3, e4, e5, e6⟩ := IH _ _ _ _ _ _ _ _ _ _ _ _ _ _ (less1 hF fb hN y) z g z' g'
        exact ⟨back t1 t1' e1 e3, back t2 t2' e2 e4, e3, e4, e5, e6⟩
      · exact (both hF y (u'.low t1' t2').1).elim
    · obtain ⟨y, z⟩ := u.low t1 t2
      rcases u'.peel with i' | ⟨t1', t2'⟩ | ⟨t1', t2'⟩
      · obtain ⟨rfl, rfl⟩ := u'.idl i'
        exact (gap_lt2 y g').elim
      · exact (both hF (u'.top t1' t2').1 y).elim
      · obtain ⟨y', z'⟩ := u'.low t1' t2'
        obtain ⟨e1, e2, e3, e4, e5, e6⟩ := IH _ _ _ _ _ _ _ _ _ _ _ _ _ _ (less2 hF fa hN y) z g z' g'
        exact ⟨e1, e2, back t1 t1' e3 e1, back t2 t2' e4 e2, e5, e6⟩

/-- what a great step does to the numbers -/
def nextc (F c d : Nat) : Nat := if d < c then F + (c - F) % d else c
def nextd (F c d : Nat) : Nat := if d < c then d else F + (d - F) % c

theorem bl_gt {s n : Nat} : s < bl n ↔ 2 ^ s ≤ n := by
  constructor
  · intro h
    rcases Nat.lt_or_ge n (2 ^ s) with q | q
    · have := bl_le q; walk_at "om"
    · exact q
  · intro h
    rcases Nat.lt_or_ge s (bl n) with q | q
    · exact q
    · have h1 := bl_lt n
      have h2 : 2 ^ bl n ≤ 2 ^ s := Nat.pow_le_pow_right (by decide) q
      walk_at "om"

theorem great_math {s c d : Nat} (hd : 2 ^ s ≤ d) (hg : d + 2 ^ s ≤ c) :
    c = (if bl (c % d) ≤ s then c / d - 1 else c / d) * d + (if bl (c % d) ≤ s then c % d + d else c % d) ∧ 2 ^ s ≤ (if bl (c % d) ≤ s then c % d + d else c % d) ∧
      (if bl (c % d) ≤ s then c % d + d else c % d) = 2 ^ s + (c - 2 ^ s) % d ∧ (if bl (c % d) ≤ s then c % d + d else c % d) < c := by
  have h0 := Nat.two_pow_pos s
  have hd0 : 0 < d := by walk_at "om"
  have h1 := Nat.div_add_mod c d
  have h2 := Nat.mod_lt c hd0
  have h3 : 1 ≤ c / d := Nat.div_pos (by walk_at "om") hd0
  have hb : bl (c % d) ≤ s ↔ c % d < 2 ^ s := by have := @bl_gt s (c % d); walk_at "om"
  generalize hq : c / d = q at *
  generalize c % d = r at *
  generalize 2 ^ s = F at *
  obtain ⟨k, rfl⟩ : ∃ k, q = k + 1 := ⟨q - 1, by walk_at "om"⟩
  rw [Nat.mul_add, Nat.mul_one] at h1
  by_cases h : bl r ≤ s
  · rw [if_pos h, if_pos h]
    have hr := hb.mp h
    rw [Nat.add_sub_cancel, Nat.mul_comm k d]
    have hk : k ≠ 0 := fun e => by subst e; simp at h1; walk_at "om"
    have hk2 : d ≤ d * k := Nat.le_mul_of_pos_right d (by walk_at "om")
    refine ⟨by walk_at "om", by walk_at "om", ?_, by walk_at "om"⟩
    have : c - F = (r + d - F) + d * k := by walk_at "om"
    rw [this, Nat.add_mul_mod_self_left, Nat.mod_eq_of_lt (by walk_at "om")]
    walk_at "om"
  · rw [if_neg h, if_neg h]
    have hr : F ≤ r := by walk_at "om"
    rw [Nat.add_mul, Nat.one_mul, Nat.mul_comm k d]
    refine ⟨by walk_at "om", by walk_at "om", ?_, by walk_at "om"⟩
    have : c - F = (r - F) + d * (k + 1) := by rw [Nat.mul_add, Nat.mul_one]; walk_at "om"
    rw [this, Nat.add_mul_mod_self_left, Nat.mod_eq_of_lt (by walk_at "om")]
    walk_at "om"

theorem bl_shift {n k : Nat} : bl (n / 2 ^ k) = bl n - k := by
  rcases Nat.lt_or_ge k (bl n) with h | h
  · have h1 : bl (n / 2 ^ k) ≤ bl n - k := by
      refine bl_le ?_
      rw [Nat.div_lt_iff_lt_mul (Nat.two_pow_pos k), ← Nat.pow_add, Nat.sub_add_cancel (by walk_at "om")]
      exact bl_lt n
    have h2 : bl n - k - 1 < bl (n / 2 ^ k) := by
      refine bl_gt.mpr ?_
      rw [Nat.le_div_iff_mul_le (Nat.two_pow_pos k), ← Nat.pow_add, show bl n - k - 1 + k = bl n - 1 by walk_at "om"]
      exact bl_gt.mp (by walk_at "om")
    walk_at "om"
  · have : n < 2 ^ k := Nat.lt_of_lt_of_le (bl_lt n) (Nat.pow_le_pow_right (by decide) h)
    rw [Nat.div_eq_of_lt this, bl_zero]; walk_at "om"

/-- the part found from the high digits leads the whole numbers as well -/
theorem lead_math {s h1 k sz a b m n p q c d : Nat} (u : Rch (2 ^ h1) (a / 2 ^ k) (b / 2 ^ k) m n p q c d) (ha : a / 2 ^ k < 2 ^ sz) (hb : b / 2 ^ k < 2 ^ sz) (hs : sz + 1 ≤ 2 * h1) (hh : 1 ≤ h1) (hk : s + 1 ≤ k + h1) :
    n * (b % 2 ^ k) ≤ c * 2 ^ k + q * (a % 2 ^ k) ∧ p * (a % 2 ^ k) ≤ d * 2 ^ k + m * (b % 2 ^ k) ∧
      Rch (2 ^ s) a b m n p q (c * 2 ^ k + q * (a % 2 ^ k) - n * (b % 2 ^ k)) (d * 2 ^ k + m * (b % 2 ^ k) - p * (a % 2 ^ k)) := by
  obtain ⟨g, rfl⟩ : ∃ g, h1 = g + 1 := ⟨h1 - 1, by walk_at "om"⟩
  have hsz : 2 ^ sz ≤ 2 ^ g * 2 ^ (g + 1) := by rw [← Nat.pow_add]; exact Nat.pow_le_pow_right (by decide) (by walk_at "om")
  have hF : 2 ^ s ≤ 2 ^ g * 2 ^ k := by rw [← Nat.pow_add]; exact Nat.pow_le_pow_right (by decide) (by walk_at "om")
  have hP := Nat.two_pow_pos k
  have ea := Nat.div_add_mod a (2 ^ k)
  have eb := Nat.div_add_mod b (2 ^ k)
  have la := Nat.mod_lt a hP
  have lb := Nat.mod_lt b hP
  have e1 := u.e1
  have e2 := u.e2
  have dt := u.det
  have hc := u.hc
  have hd := u.hd
  have small : ∀ x y z : Nat, 2 ^ (g + 1) ≤ y → x * y ≤ z → z < 2 ^ sz → x < 2 ^ g := fun x y z hy hz hl => by
    rcases Nat.lt_or_ge x (2 ^ g) with h | h
    · exact h
    · have := Nat.mul_le_mul h hy; walk_at "om"
  have hn : n < 2 ^ g := small n d _ hd (by walk_at "om") ha
  have hp : p < 2 ^ g := small p c _ hc (by walk_at "om") hb
  have eg : 2 ^ (g + 1) = 2 ^ g + 2 ^ g := by rw [Nat.pow_succ]; walk_at "om"
  rw [eg] at hc hd
  clear small hsz u
  generalize a / 2 ^ k = ah at *
  generalize b / 2 ^ k = bh at *
  generalize a % 2 ^ k = al at *
  generalize b % 2 ^ k = b0 at *
  generalize 2 ^ k = P at *
  generalize 2 ^ g = G at *
  generalize 2 ^ s = F at *
  have x1 : n * b0 ≤ n * P := Nat.mul_le_mul_left n (by walk_at "om")
  have x2 : p * al ≤ p * P := Nat.mul_le_mul_left p (by walk_at "om")
  have x3 : (n + G) * P ≤ c * P := Nat.mul_le_mul_right P (by walk_at "om")
  have x4 : (p + G) * P ≤ d * P := Nat.mul_le_mul_right P (by walk_at "om")
  rw [Nat.add_mul] at x3 x4
  obtain ⟨C, hC⟩ : ∃ C, c * P + q * al = C + n * b0 := ⟨c * P + q * al - n * b0, by walk_at "om"⟩
  obtain ⟨D, hD⟩ : ∃ D, d * P + m * b0 = D + p * al := ⟨d * P + m * b0 - p * al, by walk_at "om"⟩
  refine ⟨by walk_at "om", by walk_at "om", ?_⟩
  rw [hC, hD, Nat.add_sub_cancel, Nat.add_sub_cancel]
  refine ⟨dt, ?_, ?_, by walk_at "om", by walk_at "om"⟩
  · have y1 : m * (C + n * b0) + n * (D + p * al) = (m * c + n * d) * P + (m * q) * al + n * m * b0 := by rw [← hC, ← hD]; grind
    have y2 : m * (C + n * b0) + n * (D + p * al) = m * C + n * D + n * m * b0 + n * p * al := by grind
    rw [y2, e1, dt, Nat.add_mul (n * p), Nat.one_mul, Nat.mul_comm ah P] at y1
    walk_at "om"
  · have y1 : p * (C + n * b0) + q * (D + p * al) = (p * c + q * d) * P + (m * q) * b0 + p * q * al := by rw [← hC, ← hD]; grind
    have y2 : p * (C + n * b0) + q * (D + p * al) = p * C + q * D + n * p * b0 + p * q * al := by grind
    rw [y2, e2, dt, Nat.add_mul (n * p), Nat.one_mul, Nat.mul_comm bh P] at y1
    walk_at "om"

/-- what half_gcd answers -/
def HG (a b m n p q c d : Nat) : Prop :=
  (min (bl a) (bl b) ≤ max (bl a) (bl b) / 2 + 1 ∧ m = 1 ∧ n = 0 ∧ p = 0 ∧ q = 1 ∧ c = a ∧ d = b) ∨
  (max (bl a) (bl b) / 2 + 1 < min (bl a) (bl b) ∧ Rch (2 ^ (max (bl a) (bl b) / 2 + 1)) a b m n p q c d ∧ gap c d < 2 ^ (max (bl a) (bl b) / 2 + 1))

theorem HG.uniq {a b m n p q c d m' n' p' q' c' d' : Nat} (u : HG a b m n p q c d) (v : HG a b m' n' p' q' c' d') : m = m' ∧ n = n' ∧ p = p' ∧ q = q' ∧ c = c' ∧ d = d' := by
  rcases u with ⟨u1, u⟩ | ⟨u1, u, g⟩ <;> rcases v with ⟨v1, v⟩ | ⟨v1, v, g'⟩
  · walk_at "om"
  · walk_at "om"
  · walk_at "om"
  · exact Rch.uniq (Nat.two_pow_pos _) _ _ _ _ _ _ _ _ _ _ _ _ _ _ _ (Nat.le_refl _) u g v g'
end
section
open PySem PySem.W PySem.Calls PyProof.Rows

variable {e : Ev} {A : Around} {H : Hp}

theorem gap_pos {F c d : Nat} (h : F ≤ gap c d) (hl : d < c) : d + F ≤ c := by unfold gap at h; walk_at "om"
theorem gap_neg {F c d : Nat} (h : F ≤ gap c d) (hl : ¬ d < c) : c + F ≤ d := by unfold gap at h; walk_at "om"

theorem ok_onestep {w s : Nat} {v1 : V} {a b m n p q c d : Nat} (hw : 0 < w) (hw9 : w ≤ 20) (O : e.c.Ok) (hA : Rm A 6) (hS : St w H v1 m n p q c d) (u : Rch (2 ^ s) a b m n p q c d) (g : 2 ^ s ≤ gap c d) (la : a < 2 ^ 20) (lb : b < 2 ^ 20) :
    PURE e.c A 147 [v1, .int s, .int w, .ref 189, .ref 231] H (fun v H' => ∃ m' n' p' q', St w H' v m' n' p' q' (nextc (2 ^ s) c d) (nextd (2 ^ s) c d) ∧ Rch (2 ^ s) a b m' n' p' q' (nextc (2 ^ s) c d) (nextd (2 ^ s) c d)) := by
  obtain ⟨r, vm, _, _, rfl, at_, hM, ⟨rc, rfl, hc⟩, ⟨rd, rfl, hd⟩⟩ := hS.up up_fr
  refine PURE_of (by rintro v H1 H2 h ⟨m', n', p', q', x, y⟩; exact ⟨m', n', p', q', x.up h, y⟩) ?_
  refine CALL_enter [Str.ofString "state", Str.ofString "size", Str.ofString "w", Str.ofString "mul", Str.ofString "divrem"] O hA.room rfl rfl (fun us hl => ?_) rfl (by decide) (by decide) (by decide) (fun L => ?_)
  · obtain ⟨u1, u2, u3, u4, u5, rfl⟩ := len5 hl; rfl
  have hh := hA.h
  generalize fr H = H at *
  obtain ⟨w1, at_⟩ := at_
  have hF := Nat.two_pow_pos s
  obtain ⟨⟨bm, bn, bp, bq⟩, bc, bd⟩ := u.bound hF
  have uc := u.hc
  have ud := u.hd
  have one : lim w 1 = [1] := lim_one hw (by decide) (Nat.one_lt_two_pow (by walk_at "om"))
  refine EX_cons ?_
  refine EX_unpack3 hh ?_
  repeat' walk_at "mv"
  refine ⟨_, _, _, _, _, rfl, at_, ?_⟩
  repeat' walk_at "mv"
  refine ok_compare hw O (hA.deeper.le (by walk_at "om")) hc hd (by walk_at "om") (by walk_at "om") _ ?_
  rintro _ H1 s1 rfl
  have hM := hM.sub s1
  have hc := hc.sub s1
  have hd := hd.sub s1
  repeat' walk_at "mv"
  refine ⟨fun h => ?_, fun h => ?_⟩
  · have h := of_decide_eq_true h
    have hlt : d < c := by
      unfold cmpN at h
      split at h
      · walk_at "om"
      · split at h <;> walk_at "om"
    obtain ⟨g1, g2, g3, g4⟩ := great_math ud (gap_pos g hlt)
    have eC : nextc (2 ^ s) c d = (if bl (c % d) ≤ s then c % d + d else c % d) := by unfold nextc; rw [if_pos hlt, g3]
    have eD : nextd (2 ^ s) c d = d := by unfold nextd; rw [if_pos hlt]
    rw [eC, eD]
    clear eC eD g3
    have k1 : (if bl (c % d) ≤ s then c / d - 1 else c / d) < 2 ^ 24 := by
      have := Nat.div_le_self c d
      split <;> walk_at "om"
    refine EX_cons ?_
    refine EX_unpack2 hh ?_
    repeat' walk_at "mv"
    refine ok_great hw hw9 O (hA.deeper.le (by walk_at "om")) hc hd (by walk_at "om") (by walk_at "om") (by walk_at "om") _ ?_
    rintro _ H2 s2 ⟨t, vq, vr, rfl, ⟨wt, ht⟩, hq, hr⟩
    have U := u.up g1 g2
    generalize (if bl (c % d) ≤ s then c / d - 1 else c / d) = k at *
    generalize (if bl (c % d) ≤ s then c % d + d else c % d) = r' at *
    refine ⟨_, _, _, _, rfl, ht, ?_⟩
    repeat' walk_at "mv"
    refine ⟨by simp, fun y1 hy1 => ?_⟩
    have t1 := Sub.set (o := ⟨true, false, [.int 1]⟩) hy1
    have N1 : Num w (H2.set y1 ⟨true, false, [.int 1]⟩) (.ref y1) 1 := ⟨y1, rfl, by rw [one]; exact At.set⟩
    repeat' walk_at "mv"
    refine ⟨by simp, fun y2 hy2 => ?_⟩
    have t2 := Sub.set (o := ⟨true, false, []⟩) hy2
    have N2 : Num w ((H2.set y1 ⟨true, false, [.int 1]⟩).set y2 ⟨true, false, []⟩) (.ref y2) 0 := ⟨y2, rfl, by rw [lim_zero]; exact At.set⟩
    repeat' walk_at "mv"
    refine ⟨by simp, fun y3 hy3 => ?_⟩
    have t3 := Sub.set (o := ⟨true, false, [.int 1]⟩) hy3
    have N3 : Num w (((H2.set y1 ⟨true, false, [.int 1]⟩).set y2 ⟨true, false, []⟩).set y3 ⟨true, false, [.int 1]⟩) (.ref y3) 1 := ⟨y3, rfl, by rw [one]; exact At.set⟩
    repeat' walk_at "mv"
    refine ⟨by simp, fun y4 hy4 => ?_⟩
    have t4 := Sub.set (o := ⟨false, true, [.ref y1, vq, .ref y2, .ref y3]⟩) hy4
    have tt := t1.trans (t2.trans (t3.trans t4))
    have M4 : Mat w ((((H2.set y1 ⟨true, false, [.int 1]⟩).set y2 ⟨true, false, []⟩).set y3 ⟨true, false, [.int 1]⟩).set y4 ⟨false, true, [.ref y1, vq, .ref y2, .ref y3]⟩) (.ref y4) 1 k 0 1 :=
      ⟨y4, _, _, _, _, rfl, At.set, ((N1.sub t2).sub t3).sub t4, hq.sub tt, (N2.sub t3).sub t4, N3.sub t4⟩
    clear N1 N2 N3 t1 t2 t3 t4 hy1 hy2 hy3 hy4
    generalize (((H2.set y1 ⟨true, false, [.int 1]⟩).set y2 ⟨true, false, []⟩).set y3 ⟨true, false, [.int 1]⟩).set y4 ⟨false, true, [.ref y1, vq, .ref y2, .ref y3]⟩ = H3 at *
    repeat' walk_at "mv"
    refine ok_matmul hw hw9 O (hA.deeper.le (by walk_at "om")) (hM.sub (s2.trans tt)) M4 ⟨by walk_at "om", by walk_at "om", by walk_at "om", by walk_at "om"⟩ ⟨by walk_at "om", by walk_at "om", by walk_at "om", by walk_at "om"⟩ _ ?_
    rintro V H4 s4 M5
    repeat' walk_at "mv"
    refine ⟨by simp, fun z hz => ?_⟩
    have sz := Sub.set (o := ⟨false, true, [V, vr, .ref rd]⟩) hz
    have s5 := tt.trans (s4.trans sz)
    repeat' walk_at "mv"
    exact ⟨s1.trans (s2.trans s5), _, _, _, _, ⟨z, V, vr, .ref rd, rfl, At.set, M5.sub sz, hr.sub s5, ⟨rd, rfl, hd.sub (s2.trans s5)⟩⟩, U⟩
  · have h := of_decide_eq_false h
    have hle : ¬ d < c := by
      unfold cmpN at h
      split at h
      · walk_at "om"
      · split at h <;> walk_at "om"
    obtain ⟨g1, g2, g3, g4⟩ := great_math uc (gap_neg g hle)
    have eC : nextc (2 ^ s) c d = c := by unfold nextc; rw [if_neg hle]
    have eD : nextd (2 ^ s) c d = (if bl (d % c) ≤ s then d % c + c else d % c) := by unfold nextd; rw [if_neg hle, g3]
    rw [eC, eD]
    clear eC eD g3
    have k1 : (if bl (d % c) ≤ s then d / c - 1 else d / c) < 2 ^ 24 := by
      have := Nat.div_le_self d c
      split <;> walk_at "om"
    refine EX_nil ?_
    refine EX_cons ?_
    refine EX_unpack2 hh ?_
    repeat' walk_at "mv"
    refine ok_great hw hw9 O (hA.deeper.le (by walk_at "om")) hd hc (by walk_at "om") (by walk_at "om") (by walk_at "om") _ ?_
    rintro _ H2 s2 ⟨t, vq, vr, rfl, ⟨wt, ht⟩, hq, hr⟩
    have U := u.dn g1 g2
    generalize (if bl (d % c) ≤ s then d / c - 1 else d / c) = k at *
    generalize (if bl (d % c) ≤ s then d % c + c else d % c) = r' at *
    refine ⟨_, _, _, _, rfl, ht, ?_⟩
    repeat' walk_at "mv"
    refine ⟨by simp, fun y1 hy1 => ?_⟩
    have t1 := Sub.set (o := ⟨true, false, [.int 1]⟩) hy1
    have N1 : Num w (H2.set y1 ⟨true, false, [.int 1]⟩) (.ref y1) 1 := ⟨y1, rfl, by rw [one]; exact At.set⟩
    repeat' walk_at "mv"
    refine ⟨by simp, fun y2 hy2 => ?_⟩
    have t2 := Sub.set (o := ⟨true, false, []⟩) hy2
    have N2 : Num w ((H2.set y1 ⟨true, false, [.int 1]⟩).set y2 ⟨true, false, []⟩) (.ref y2) 0 := ⟨y2, rfl, by rw [lim_zero]; exact At.set⟩
    repeat' walk_at "mv"
    refine ⟨by simp, fun y3 hy3 => ?_⟩
    have t3 := Sub.set (o := ⟨true, false, [.int 1]⟩) hy3
    have N3 : Num w (((H2.set y1 ⟨true, false, [.int 1]⟩).set y2 ⟨true, false, []⟩).set y3 ⟨true, false, [.int 1]⟩) (.ref y3) 1 := ⟨y3, rfl, by rw [one]; exact At.set⟩
    repeat' walk_at "mv"
    refine ⟨by simp, fun y4 hy4 => ?_⟩
    have t4 := Sub.set (o := ⟨false, true, [.ref y1, .ref y2, vq, .ref y3]⟩) hy4
    have tt := t1.trans (t2.trans (t3.trans t4))
    have M4 : Mat w ((((H2.set y1 ⟨true, false, [.int 1]⟩).set y2 ⟨true, false, []⟩).set y3 ⟨true, false, [.int 1]⟩).set y4 ⟨false, true, [.ref y1, .ref y2, vq, .ref y3]⟩) (.ref y4) 1 0 k 1 :=
      ⟨y4, _, _, _, _, rfl, At.set, ((N1.sub t2).sub t3).sub t4, (N2.sub t3).sub t4, hq.sub tt, N3.sub t4⟩
    clear N1 N2 N3 t1 t2 t3 t4 hy1 hy2 hy3 hy4
    generalize (((H2.set y1 ⟨true, false, [.int 1]⟩).set y2 ⟨true, false, []⟩).set y3 ⟨true, false, [.int 1]⟩).set y4 ⟨false, true, [.ref y1, .ref y2, vq, .ref y3]⟩ = H3 at *
    repeat' walk_at "mv"
    refine ok_matmul hw hw9 O (hA.deeper.le (by walk_at "om")) (hM.sub (s2.trans tt)) M4 ⟨by walk_at "om", by walk_at "om", by walk_at "om", by walk_at "om"⟩ ⟨by walk_at "om", by walk_at "om", by walk_at "om", by walk_at "om"⟩ _ ?_
    rintro V H4 s4 M5
    repeat' walk_at "mv"
    refine ⟨by simp, fun z hz => ?_⟩
    have sz := Sub.set (o := ⟨false, true, [V, .ref rc, vr]⟩) hz
    have s5 := tt.trans (s4.trans sz)
    repeat' walk_at "mv"
    exact ⟨s1.trans (s2.trans s5), _, _, _, _, ⟨z, V, .ref rc, vr, rfl, At.set, M5.sub sz, ⟨rc, rfl, hc.sub (s2.trans s5)⟩, hr.sub s5⟩, U⟩
/-- what is known of a state between two steps -/
inductive JR0 (g : V → Nat → Nat → List (Str × V)) (H : Hp) (w : Nat) (Z : Nat → Nat → Nat → Nat → Nat → Nat → Prop) (m : List (Str × V)) (H' : Hp) : Prop
  | mk (vs : V) (m1 n p q c d : Nat) (e : m = g vs c d) (s : Sub H H') (S : St w H' vs m1 n p q c d) (R : Z m1 n p q c d) : JR0 g H w Z m H'
inductive JR (g : V → Nat → Nat → List (Str × V)) (H : Hp) (w : Nat) (Z : Nat → Nat → Nat → Nat → Nat → Nat → Prop) (K : Nat → Nat → Prop) (m : List (Str × V)) (H' : Hp) : Prop
  | mk (vs : V) (m1 n p q c d : Nat) (e : m = g vs c d) (s : Sub H H') (S : St w H' vs m1 n p q c d) (R : Z m1 n p q c d) (k : K c d) : JR g H w Z K m H'
end
section
open PySem PySem.W PySem.Calls PyProof.Rows

section
variable {c : Cx} {A : Around} {f : Fm} {m : List (Str × V)} {H : Hp} {Q : V → Hp → Prop}
theorem EV_tup {x : Str} {r : Addr} {w : Bool} {xs : List V} {v : V} {k j : Nat} {p1 p2 pos : Pos} (hv : lkp m x = some (.ref r)) (ht : H r = some ⟨w, true, xs⟩) (hk : k < 64) (hx : xs[k]? = some v) (q : Q v H)
    (hf : f.sc.kind = .function := by with_unfolding_all rfl) (hx2 : f.env.kindOf x = some .local := by with_unfolding_all rfl) (hd : (x == ("__debug__" : Str)) = false := by decide)
    (hs : ∀ a k' t, subscripted (.Constant (.int k) j p2) false (.ref a) (.int k' t) = operate [.ref a, .int k' t] (getItem (.ref a) (.int k' t)) := by intro _ _ _; with_unfolding_all rfl) :
    EV c A f (.Subscript (.Name x p1) (.Constant (.int k) j p2) pos) m H Q :=
  EV_titem (EV_local hv (EV_int ⟨r, w, xs, k, v, rfl, rfl, ht, hk, hx, q⟩) hf hx2 hd) hs
end

theorem max_sub (x y k : Nat) : max (x - k) (y - k) = max x y - k := by omega
theorem g_UNIT (P : Params) : nsIn (Kf P) mainGlobals (Str.ofString "UNIT") = some (some (.ref 119)) := by rfl

/-- half_gcd keeps its word for numbers of at most N bits -/
def HalfOk (e : Ev) (w N : Nat) : Prop := ∀ {A : Around} {H : Hp} {ra rb : Addr} {a b : Nat} (least : Int), Rm A (2 * N + 10) → At H ra false (iv (lim w a)) → At H rb false (iv (lim w b)) → a < 2 ^ 20 → b < 2 ^ 20 → max (bl a) (bl b) ≤ N → Mat w H (.ref 119) 1 0 0 1 →
  PURE e.c A 182 [.ref ra, .ref rb, .int w, .int least, .ref 189, .ref 231] H (fun v H' => ∃ m n p q c d, St w H' v m n p q c d ∧ HG a b m n p q c d)

variable {e : Ev} {A : Around} {H : Hp}

theorem high_math {s k a b m n p q c d : Nat} (hg : HG (a / 2 ^ k) (b / 2 ^ k) m n p q c d) (hk : s ≤ k + (max (bl a) (bl b) - k) / 2) (ha : 2 ^ s ≤ a) (hb : 2 ^ s ≤ b) (la : a < 2 ^ 20) (lb : b < 2 ^ 20) :
    (m < 2 ^ 24 ∧ n < 2 ^ 24 ∧ p < 2 ^ 24 ∧ q < 2 ^ 24) ∧ (c < 2 ^ 24 ∧ d < 2 ^ 24) ∧
    n * (b % 2 ^ k) ≤ c * 2 ^ k + q * (a % 2 ^ k) ∧ p * (a % 2 ^ k) ≤ d * 2 ^ k + m * (b % 2 ^ k) ∧
      Rch (2 ^ s) a b m n p q (c * 2 ^ k + q * (a % 2 ^ k) - n * (b % 2 ^ k)) (d * 2 ^ k + m * (b % 2 ^ k) - p * (a % 2 ^ k)) := by
  have hda := Nat.div_le_self a (2 ^ k)
  have hdb := Nat.div_le_self b (2 ^ k)
  rcases hg with ⟨_, rfl, rfl, rfl, rfl, rfl, rfl⟩ | ⟨h1, u, _⟩
  · have ea := Nat.div_add_mod a (2 ^ k)
    have eb := Nat.div_add_mod b (2 ^ k)
    rw [Nat.mul_comm] at ea eb
    refine ⟨by walk_at "om", by walk_at "om", by walk_at "om", by walk_at "om", ?_⟩
    rw [Nat.one_mul, Nat.one_mul, Nat.zero_mul, Nat.zero_mul, Nat.sub_zero, Nat.sub_zero, ea, eb]
    exact Rch.id ha hb
  · obtain ⟨⟨b1, b2, b3, b4⟩, b5, b6⟩ := u.bound (Nat.two_pow_pos _)
    have sa : a / 2 ^ k < 2 ^ (max (bl (a / 2 ^ k)) (bl (b / 2 ^ k))) := Nat.lt_of_lt_of_le (bl_lt _) (Nat.pow_le_pow_right (by decide) (by walk_at "om"))
    have sb : b / 2 ^ k < 2 ^ (max (bl (a / 2 ^ k)) (bl (b / 2 ^ k))) := Nat.lt_of_lt_of_le (bl_lt _) (Nat.pow_le_pow_right (by decide) (by walk_at "om"))
    have := lead_math (s := s) u sa sb (by walk_at "om") (by walk_at "om") (by rw [bl_shift, bl_shift, max_sub]; exact Nat.succ_le_succ hk)
    exact ⟨⟨by walk_at "om", by walk_at "om", by walk_at "om", by walk_at "om"⟩, ⟨by walk_at "om", by walk_at "om"⟩, this⟩

theorem ok_byhigh {w s k N : Nat} {v1 : V} {a0 b0 a b m n p q : Nat} (hw : 0 < w) (hw9 : w ≤ 20) (O : e.c.Ok) (least : Int) (IH : HalfOk e w N) (hA : Rm A (2 * N + 11)) (hS : St w H v1 m n p q a b) (u : Rch (2 ^ s) a0 b0 m n p q a b) (la : a0 < 2 ^ 20) (lb : b0 < 2 ^ 20)
    (hk : k ≤ 24) (hN : max (bl a) (bl b) - k ≤ N) (hs : s ≤ k + (max (bl a) (bl b) - k) / 2) (hU : Mat w H (.ref 119) 1 0 0 1) :
    PURE e.c A 175 [v1, .int k, .int least, .int w, .ref 189, .ref 231] H (fun v H' => ∃ m' n' p' q' c d, St w H' v m' n' p' q' c d ∧ Rch (2 ^ s) a0 b0 m' n' p' q' c d) := by
  obtain ⟨r, vm, _, _, rfl, at_, hM, ⟨rc, rfl, hc⟩, ⟨rd, rfl, hd⟩⟩ := hS.up up_fr
  have hU := hU.up up_fr
  refine PURE_of (by rintro v H1 H2 h ⟨m', n', p', q', c', d', x, y⟩; exact ⟨m', n', p', q', c', d', x.up h, y⟩) ?_
  refine CALL_enter [Str.ofString "state", Str.ofString "place", Str.ofString "least", Str.ofString "w", Str.ofString "mul", Str.ofString "divrem"] O hA.room rfl rfl (fun us hl => ?_) rfl (by decide) (by decide) (by decide) (fun L => ?_)
  · obtain ⟨u1, u2, u3, u4, u5, u6, rfl⟩ := len6 hl; rfl
  have hh := hA.h
  generalize fr H = H at *
  obtain ⟨w1, at_⟩ := at_
  have hF := Nat.two_pow_pos s
  obtain ⟨⟨bm, bn, bp, bq⟩, bc, bd⟩ := u.bound hF
  have uc := u.hc
  have ud := u.hd
  have hda := Nat.div_le_self a (2 ^ k)
  have hdb := Nat.div_le_self b (2 ^ k)
  have hma := Nat.mod_le a (2 ^ k)
  have hmb := Nat.mod_le b (2 ^ k)
  refine EX_cons ?_
  refine EX_unpack3 hh ?_
  repeat' walk_at "mv"
  refine ⟨_, _, _, _, _, rfl, at_, ?_⟩
  refine EX_cons ?_
  refine EX_unpack3 hh ?_
  repeat' walk_at "mv"
  refine ok_shift_right hw hw9 O (hA.deeper.le (by walk_at "om")) hc (by walk_at "om") (by walk_at "om") _ ?_
  rintro _ H1 s1 ⟨t1, rfl, q1⟩
  repeat' walk_at "mv"
  refine ok_shift_right hw hw9 O (hA.deeper.le (by walk_at "om")) (hd.sub s1) (by walk_at "om") (by walk_at "om") _ ?_
  rintro _ H2 s2 ⟨t2, rfl, q2⟩
  have s1 := s1.trans s2
  repeat' walk_at "mv"
  refine IH least hA.deeper (q1.sub s2) q2 (by walk_at "om") (by walk_at "om") (by rw [bl_shift, bl_shift, max_sub]; exact hN) (hU.sub s1) _ ?_
  rintro _ H3 s3 ⟨m1, n1, p1, q1', c, d, ⟨ts, vp, vc, vd, rfl, ⟨wt, ht⟩, hP, hvc, hvd⟩, hg⟩
  have s1 := s1.trans s3
  clear s2 s3 q1 q2
  obtain ⟨⟨l1, l2, l3, l4⟩, ⟨l5, l6⟩, g1, g2, R⟩ := high_math hg hs uc ud (by walk_at "om") (by walk_at "om")
  refine ⟨_, _, _, _, _, rfl, ht, ?_⟩
  refine EX_cons ?_
  refine EX_unpack2 hh ?_
  repeat' walk_at "mv"
  refine ok_low hw (by walk_at "om") O (hA.deeper.le (by walk_at "om")) (hc.sub s1) (by walk_at "om") (by walk_at "om") _ ?_
  rintro _ H4 s4 ⟨t4, rfl, q4⟩
  repeat' walk_at "mv"
  refine ok_low hw (by walk_at "om") O (hA.deeper.le (by walk_at "om")) (hd.sub (s1.trans s4)) (by walk_at "om") (by walk_at "om") _ ?_
  rintro _ H5 s5 ⟨t5, rfl, q5⟩
  repeat' walk_at "mv"
  refine ⟨by simp, fun z hz => ?_⟩
  have sz := Sub.set (o := ⟨false, true, [vc, vd]⟩) hz
  have s6 := s4.trans (s5.trans sz)
  repeat' walk_at "mv"
  refine ok_led hw hw9 O (hA.deeper.le (by walk_at "om")) (hP.sub s6) (q4.sub (s5.trans sz)) (q5.sub sz) ⟨z, vc, vd, rfl, At.set, hvc.sub s6, hvd.sub s6⟩ ⟨l1, l2, l3, l4⟩ ⟨by walk_at "om", by walk_at "om", l5, l6⟩ hk g1 g2 _ ?_
  rintro _ H7 s7 ⟨t7, vx, vy, rfl, ⟨w7, a7⟩, nx, ny⟩
  have s6 := s6.trans s7
  refine ⟨_, _, _, _, rfl, a7, ?_⟩
  repeat' walk_at "mv"
  refine ok_matmul hw hw9 O (hA.deeper.le (by walk_at "om")) (hM.sub (s1.trans s6)) (hP.sub s6) ⟨by walk_at "om", by walk_at "om", by walk_at "om", by walk_at "om"⟩ ⟨l1, l2, l3, l4⟩ _ ?_
  rintro V H8 s8 M8
  repeat' walk_at "mv"
  refine ⟨by simp, fun y hy => ?_⟩
  have sy := Sub.set (o := ⟨false, true, [V, vx, vy]⟩) hy
  repeat' walk_at "mv"
  exact ⟨s1.trans (s6.trans (s8.trans sy)), _, _, _, _, _, _, ⟨y, V, vx, vy, rfl, At.set, M8.sub sy, (nx.sub s8).sub sy, (ny.sub s8).sub sy⟩, u.comp R⟩
end
section
open PySem PySem.W PySem.Calls PyProof.Rows

variable {e : Ev} {A : Around} {H : Hp}

theorem next_less {s a b m n p q c d : Nat} (u : Rch (2 ^ s) a b m n p q c d) (g : 2 ^ s ≤ gap c d) : nextc (2 ^ s) c d + nextd (2 ^ s) c d < c + d := by
  unfold nextc nextd
  by_cases h : d < c
  · rw [if_pos h, if_pos h]
    obtain ⟨_, _, g3, g4⟩ := great_math u.hd (gap_pos g h)
    rw [g3] at g4; walk_at "om"
  · rw [if_neg h, if_neg h]
    obtain ⟨_, _, g3, g4⟩ := great_math u.hc (gap_neg g h)
    rw [g3] at g4; walk_at "om"

abbrev hgm (ra rb : Addr) (w : Nat) (least : Int) (z s : Nat) (vs : V) : List (Str × V) := [(Str.ofString "a", .ref ra), (Str.ofString "b", .ref rb), (Str.ofString "w", .int w), (Str.ofString "least", .int least), (Str.ofString "mul", .ref 189), (Str.ofString "divrem", .ref 231), (Str.ofString "size", .int z), (Str.ofString "half", .int s), (Str.ofString "state", vs)]
abbrev hg3 (w s : Nat) (vs : V) : List (Str × V) := [(Str.ofString "w", .int w), (Str.ofString "mul", .ref 189), (Str.ofString "divrem", .ref 231), (Str.ofString "half", .int s), (Str.ofString "state", vs)]

theorem ok_half {w : Nat} (hw : 0 < w) (hw9 : w ≤ 20) (O : e.c.Ok) (N : Nat) : HalfOk e w N := by
  induction N using Nat.strongRecOn with
  | _ N IH =>
  intro A H ra rb a b least hA ha hb la lb hN hU
  have hU := hU.up up_fr
  refine PURE_of (by rintro v H1 H2 h ⟨m', n', p', q', c', d', x, y⟩; exact ⟨m', n', p', q', c', d', x.up h, y⟩) ?_
  refine CALL_enter [Str.ofString "a", Str.ofString "b", Str.ofString "w", Str.ofString "least", Str.ofString "mul", Str.ofString "divrem"] O hA.room rfl rfl (fun us hl => ?_) rfl (by decide) (by decide) (by decide) (fun L => ?_)
  · obtain ⟨u1, u2, u3, u4, u5, u6, rfl⟩ := len6 hl; rfl
  have hh := hA.h
  have ha := up_fr _ _ _ ha
  have hb := up_fr _ _ _ hb
  generalize fr H = H at *
  unfold HG
  have hba : bl a ≤ 20 := bl_le la
  have hbb : bl b ≤ 20 := bl_le lb
  repeat' walk_at "mv"
  refine ok_most hw hw9 O (hA.deeper.le (by walk_at "om")) ha hb (by walk_at "om") (by walk_at "om") _ ?_
  rintro _ H1 s1 rfl
  generalize hz : max (bl a) (bl b) = z at *
  generalize hs : z / 2 + 1 = s at *
  repeat' walk_at "mv"
  refine ⟨_, _, rfl, rfl, by walk_at "om", ?_⟩
  repeat' walk_at "mv"
  rw [show ((z : Int) / 2 + 1) = (s : Int) by walk_at "om"]
  refine EV_glob O (g_UNIT _) ?_
  repeat' walk_at "mv"
  refine ⟨by simp, fun y hy => ?_⟩
  have s2 := Sub.set (o := ⟨false, true, [.ref 119, .ref ra, .ref rb]⟩) hy
  have S0 : St w (H1.set y ⟨false, true, [.ref 119, .ref ra, .ref rb]⟩) (.ref y) 1 0 0 1 a b :=
    ⟨y, .ref 119, .ref ra, .ref rb, rfl, At.set, hU.sub (s1.trans s2), ⟨ra, rfl, ha.sub (s1.trans s2)⟩, ⟨rb, rfl, hb.sub (s1.trans s2)⟩⟩
  have s1 := s1.trans s2
  clear hy s2
  generalize H1.set y ⟨false, true, [.ref 119, .ref ra, .ref rb]⟩ = H2 at *
  repeat' walk_at "mv"
  refine ok_least hw hw9 O (hA.deeper.le (by walk_at "om")) (ha.sub s1) (hb.sub s1) (by walk_at "om") (by walk_at "om") _ ?_
  rintro _ H3 s3 rfl
  have s1 := s1.trans s3
  have S0 := S0.sub s3
  clear s3
  repeat' walk_at "mv"
  refine ⟨fun h => ?_, fun h => ?_⟩
  · have h := of_decide_eq_true h
    repeat' walk_at "mv"
    exact ⟨s1, _, _, _, _, _, _, S0, .inl ⟨by walk_at "om", rfl, rfl, rfl, rfl, rfl, rfl⟩⟩
  have h := of_decide_eq_false h
  have hlow : s < min (bl a) (bl b) := by walk_at "om"
  have Fa : 2 ^ s ≤ a := bl_gt.mp (by walk_at "om")
  have Fb : 2 ^ s ≤ b := bl_gt.mp (by walk_at "om")
  have IHr : HalfOk e w (N - 1) := IH (N - 1) (by walk_at "om")
  have R0 := Rch.id Fa Fb
  -- what the numbers of a state are bounded by
  have bnd : ∀ {m n p q c d : Nat}, Rch (2 ^ s) a b m n p q c d → c ≤ a ∧ d ≤ b := fun u => (u.bound (Nat.two_pow_pos s)).2
  have small : ∀ {m n p q c d : Nat}, Rch (2 ^ s) a b m n p q c d → (c < 2 ^ 20 ∧ d < 2 ^ 20) := fun u => by have := bnd u; walk_at "om"
  refine EX_nil ?_
  -- first look at the high digits
  refine EX_cut (fun m H' => JR0 (fun vs _ _ => hgm ra rb w least z s vs) H w (Rch (2 ^ s) a b) m H') ?_ ?_
  · refine EX_if2 (fun b' H' => Sub H3 H' ∧ (b' = true → 3 * z / 4 + 2 < min (bl a) (bl b))) ?_ ?_ ?_
    · repeat' walk_at "mv"
      refine ⟨fun _ => ?_, fun _ => ⟨.refl, fun h => by cases h⟩⟩
      repeat' walk_at "mv"
      refine ok_least hw hw9 O (hA.deeper.le (by walk_at "om")) (ha.sub s1) (hb.sub s1) (by walk_at "om") (by walk_at "om") _ ?_
      rintro _ H4 s4 rfl
      repeat' walk_at "mv"
      refine ⟨_, _, rfl, rfl, by walk_at "om", ?_⟩
      repeat' walk_at "mv"
      refine ⟨_, _, rfl, rfl, by walk_at "om", ?_⟩
      repeat' walk_at "mv"
      refine ⟨fun h => ?_, fun _ => ⟨s4, fun h => by cases h⟩⟩
      have h := of_decide_eq_true h
      repeat' walk_at "mv"
      exact ⟨s4, fun _ => by walk_at "om"⟩
    · rintro H4 ⟨s4, h4⟩
      have h4 := h4 rfl
      repeat' walk_at "mv"
      refine ⟨_, _, rfl, rfl, by walk_at "om", ?_⟩
      repeat' walk_at "mv"
      rw [show ((z : Int) / 2) = ((z / 2 : Nat) : Int) by walk_at "om"]
      refine ok_byhigh (N := N - 1) hw hw9 O least IHr (hA.deeper.le (by walk_at "om")) (S0.sub s4) R0 la lb (by walk_at "om") (by walk_at "om") (by walk_at "om") (hU.sub (s1.trans s4)) _ ?_
      rintro v H5 s5 ⟨m1, n, p, q, c, d, S5, R5⟩
      repeat' walk_at "mv"
      exact ⟨v, m1, n, p, q, c, d, rfl, s1.trans (s4.trans s5), S5, R5⟩
    · rintro H4 ⟨s4, _⟩
      repeat' walk_at "mv"
      exact ⟨_, _, _, _, _, _, _, rfl, s1.trans s4, S0.sub s4, R0⟩
  rintro m H' ⟨vs, m1, n, p, q, c, d, rfl, s1, S1, R1⟩
  clear S0 R0
  -- down to three quarters
  refine EX_cut (fun m H' => JR (fun vs _ _ => hgm ra rb w least z s vs) H w (Rch (2 ^ s) a b) (fun c d => (max (bl c) (bl d) ≤ 3 * z / 4 + 1 ∨ bl (gap c d) ≤ s)) m H') ?_ ?_
  · refine EX_while2 (fun k m H' => JR (fun vs _ _ => hgm ra rb w least z s vs) H w (Rch (2 ^ s) a b) (fun c d => k = c + d) m H')
      (fun k m H' b' => JR (fun vs _ _ => hgm ra rb w least z s vs) H w (Rch (2 ^ s) a b) (fun c d => k = c + d ∧ (b' = true → s < bl (gap c d)) ∧ (b' = false → (max (bl c) (bl d) ≤ 3 * z / 4 + 1 ∨ bl (gap c d) ≤ s))) m H')
      (n0 := c + d) ⟨vs, m1, n, p, q, c, d, rfl, s1, S1, R1, rfl⟩ ?_ ?_ ?_
    · rintro k m H' ⟨vs, m1, n, p, q, c, d, rfl, s1, S1, R1, rfl⟩
      obtain ⟨r, vm, _, _, rfl, ⟨w1, at_⟩, hM, ⟨rc, rfl, hc⟩, ⟨rd, rfl, hd⟩⟩ := S1
      obtain ⟨lc, ld⟩ := small R1
      have S1 : St w H' (.ref r) m1 n p q c d := ⟨r, vm, _, _, rfl, ⟨w1, at_⟩, hM, ⟨rc, rfl, hc⟩, ⟨rd, rfl, hd⟩⟩
      refine TV_bools ?_
      refine TB_and ?_
      refine TV_gt ?_
      refine d_most_bits O ?_
      refine EVl_cons ?_
      refine EV_tup (k := 1) (by with_unfolding_all rfl) at_ (by decide) rfl ?_
      refine EVl_cons ?_
      refine EV_tup (k := 2) (by with_unfolding_all rfl) at_ (by decide) rfl ?_
      repeat' walk_at "mv"
      refine ok_most hw hw9 O (hA.deeper.le (by walk_at "om")) hc hd (by walk_at "om") (by walk_at "om") _ ?_
      rintro _ H4 s4 rfl
      repeat' walk_at "mv"
      refine ⟨_, _, rfl, rfl, by walk_at "om", ?_⟩
      repeat' walk_at "mv"
      refine ⟨_, _, rfl, rfl, by walk_at "om", ?_⟩
      repeat' walk_at "mv"
      refine ⟨fun h => ?_, fun h => ?_⟩
      · refine TB_and ?_
        refine TV_gt ?_
        refine d_difference_bits O ?_
        refine EVl_cons ?_
        refine EV_tup (k := 1) (by with_unfolding_all rfl) (s4 _ _ at_) (by decide) rfl ?_
        refine EVl_cons ?_
        refine EV_tup (k := 2) (by with_unfolding_all rfl) (s4 _ _ at_) (by decide) rfl ?_
        repeat' walk_at "mv"
        refine ok_diff hw hw9 O (hA.deeper.le (by walk_at "om")) (hc.sub s4) (hd.sub s4) (by walk_at "om") (by walk_at "om") _ ?_
        rintro _ H5 s5 rfl
        repeat' walk_at "mv"
        refine ⟨fun h => ?_, fun h => ?_⟩
        · have h := of_decide_eq_true h
          repeat' walk_at "mv"
          exact ⟨_, m1, n, p, q, c, d, rfl, s1.trans (s4.trans s5), S1.sub (s4.trans s5), R1, rfl, fun _ => by walk_at "om", fun h => by cases h⟩
        · have h := of_decide_eq_false h
          exact ⟨_, m1, n, p, q, c, d, rfl, s1.trans (s4.trans s5), S1.sub (s4.trans s5), R1, rfl, fun h => (by cases h), fun _ => by walk_at "om"⟩
      · have h := of_decide_eq_false h
        exact ⟨_, m1, n, p, q, c, d, rfl, s1.trans s4, S1.sub s4, R1, rfl, fun h => (by cases h), fun _ => by walk_at "om"⟩
    · rintro k m H' ⟨vs, m1, n, p, q, c, d, rfl, s1, S1, R1, rfl, hb, _⟩
      have hg := bl_gt.mp (hb rfl)
      repeat' walk_at "mv"
      refine ok_onestep hw hw9 O (hA.deeper.le (by walk_at "om")) S1 R1 hg la lb _ ?_
      rintro v H4 s4 ⟨m', n', p', q', S4, R4⟩
      repeat' walk_at "mv"
      exact ⟨_, next_less R1 hg, v, m', n', p', q', _, _, rfl, s1.trans s4, S4, R4, rfl⟩
    · rintro k m H' ⟨vs, m1, n, p, q, c, d, rfl, s1, S1, R1, rfl, _, hb⟩
      exact ⟨vs, m1, n, p, q, c, d, rfl, s1, S1, R1, hb rfl⟩
  clear S1 R1 s1
  rintro m H' ⟨vs, m1, n, p, q, c, d, rfl, s1, S1, R1, hq⟩
  obtain ⟨r, vm, _, _, rfl, ⟨w1, at_⟩, hM, ⟨rc, rfl, hc⟩, ⟨rd, rfl, hd⟩⟩ := S1
  obtain ⟨lc, ld⟩ := small R1
  have S1 : St w H' (.ref r) m1 n p q c d := ⟨r, vm, _, _, rfl, ⟨w1, at_⟩, hM, ⟨rc, rfl, hc⟩, ⟨rd, rfl, hd⟩⟩
  refine EX_cons ?_
  refine EX_assign ?_
  refine EV_gt ?_
  refine d_difference_bits O ?_
  refine EVl_cons ?_
  refine EV_tup (k := 1) (by with_unfolding_all rfl) at_ (by decide) rfl ?_
  refine EVl_cons ?_
  refine EV_tup (k := 2) (by with_unfolding_all rfl) at_ (by decide) rfl ?_
  repeat' walk_at "mv"
  refine ok_diff hw hw9 O (hA.deeper.le (by walk_at "om")) hc hd (by walk_at "om") (by walk_at "om") _ ?_
  rintro _ H4 s4 rfl
  have s1 := s1.trans s4
  have S1 := S1.sub s4
  have at_ := s4 _ _ at_
  have hc := hc.sub s4
  have hd := hd.sub s4
  clear s4
  have lbc : bl c ≤ 20 := bl_le lc
  have lbd : bl d ≤ 20 := bl_le ld
  refine EV_local (by with_unfolding_all rfl) ?_
  refine ⟨_, _, rfl, rfl, trivial, ?_⟩
  -- a second look at the high digits
  refine EX_cut (fun m H' => ∃ vs m1 n p q c d, Le (hg3 w s vs) m ∧ Sub H H' ∧ St w H' vs m1 n p q c d ∧ Rch (2 ^ s) a b m1 n p q c d) ?_ ?_
  · refine EX_if2 (fun b' H' => Sub H4 H' ∧ (b' = true → s < bl (gap c d) ∧ s + 2 < min (bl c) (bl d))) ?_ ?_ ?_
    · repeat' walk_at "mv"
      refine ⟨fun _ => ?_, fun _ => ⟨.refl, fun h => by cases h⟩⟩
      refine TB_and ?_
      refine TV_value ?_
      repeat' walk_at "mv"
      refine ⟨_, rfl, fun hf => ?_, fun _ => ⟨.refl, fun h => by cases h⟩⟩
      have hf := of_decide_eq_true hf
      refine TB_and ?_
      refine TV_gt ?_
      refine d_least_bits O ?_
      refine EVl_cons ?_
      refine EV_tup (k := 1) (by with_unfolding_all rfl) at_ (by decide) rfl ?_
      refine EVl_cons ?_
      refine EV_tup (k := 2) (by with_unfolding_all rfl) at_ (by decide) rfl ?_
      repeat' walk_at "mv"
      refine ok_least hw hw9 O (hA.deeper.le (by walk_at "om")) hc hd (by walk_at "om") (by walk_at "om") _ ?_
      rintro _ H5 s5 rfl
      repeat' walk_at "mv"
      refine ⟨fun h => ?_, fun _ => ⟨s5, fun h => by cases h⟩⟩
      have h := of_decide_eq_true h
      repeat' walk_at "mv"
      exact ⟨s5, fun _ => ⟨by walk_at "om", by walk_at "om"⟩⟩
    · rintro H5 ⟨s5, h5⟩
      obtain ⟨h6, h7⟩ := h5 rfl
      have hq : max (bl c) (bl d) ≤ 3 * z / 4 + 1 := by walk_at "om"
      have bcd := bnd R1
      refine EX_cons ?_
      refine EX_assign ?_
      refine d_most_bits O ?_
      refine EVl_cons ?_
      refine EV_tup (k := 1) (by with_unfolding_all rfl) (s5 _ _ at_) (by decide) rfl ?_
      refine EVl_cons ?_
      refine EV_tup (k := 2) (by with_unfolding_all rfl) (s5 _ _ at_) (by decide) rfl ?_
      repeat' walk_at "mv"
      refine ok_most hw hw9 O (hA.deeper.le (by walk_at "om")) (hc.sub s5) (hd.sub s5) (by walk_at "om") (by walk_at "om") _ ?_
      rintro _ H6 s6 rfl
      repeat' walk_at "mv"
      refine ⟨_, _, rfl, rfl, by walk_at "om", ?_⟩
      repeat' walk_at "mv"
      generalize hmx : max (bl c) (bl d) = mx at *
      obtain ⟨k, hk⟩ : ∃ k, 2 * s + 1 = mx + k := ⟨2 * s + 1 - mx, by walk_at "om"⟩
      rw [show (2 * (s : Int) - (mx : Int) + 1) = (k : Int) by walk_at "om"]
      have s7 := s5.trans s6
      refine ok_byhigh (N := N - 1) hw hw9 O least IHr (hA.deeper.le (by walk_at "om")) (S1.sub s7) R1 la lb (by walk_at "om") (by rw [hmx]; walk_at "om") (by rw [hmx]; walk_at "om") (hU.sub (s1.trans s7)) _ ?_
      rintro v H8 s8 ⟨m2, n2, p2, q2, c2, d2, S8, R8⟩
      repeat' walk_at "mv"
      exact ⟨v, m2, n2, p2, q2, c2, d2, .of ⟨by with_unfolding_all rfl, by with_unfolding_all rfl, by with_unfolding_all rfl, by with_unfolding_all rfl, by with_unfolding_all rfl, trivial⟩, s1.trans (s7.trans s8), S8, R8⟩
    · rintro H5 ⟨s5, _⟩
      repeat' walk_at "mv"
      exact ⟨_, _, _, _, _, _, _, .of ⟨by with_unfolding_all rfl, by with_unfolding_all rfl, by with_unfolding_all rfl, by with_unfolding_all rfl, by with_unfolding_all rfl, trivial⟩, s1.trans s5, S1.sub s5, R1⟩
  clear S1 R1 s1 hc hd at_ hM
  rintro m H' ⟨vs, m1, n, p, q, c, d, hm, s1, S1, R1⟩
  refine EX_weak ?_ hm
  clear hm
  -- and down to the end
  refine EX_cut (fun m H' => JR (fun vs _ _ => hg3 w s vs) H w (Rch (2 ^ s) a b) (fun c d => bl (gap c d) ≤ s) m H') ?_ ?_
  · refine EX_while2 (fun k m H' => JR (fun vs _ _ => hg3 w s vs) H w (Rch (2 ^ s) a b) (fun c d => k = c + d) m H')
      (fun k m H' b' => JR (fun vs _ _ => hg3 w s vs) H w (Rch (2 ^ s) a b) (fun c d => k = c + d ∧ b' = decide (s < bl (gap c d))) m H')
      (n0 := c + d) ⟨vs, m1, n, p, q, c, d, rfl, s1, S1, R1, rfl⟩ ?_ ?_ ?_
    · rintro k m H' ⟨vs, m1, n, p, q, c, d, rfl, s1, S1, R1, rfl⟩
      obtain ⟨r, vm, _, _, rfl, ⟨w1, at_⟩, hM, ⟨rc, rfl, hc⟩, ⟨rd, rfl, hd⟩⟩ := S1
      obtain ⟨lc, ld⟩ := small R1
      have S1 : St w H' (.ref r) m1 n p q c d := ⟨r, vm, _, _, rfl, ⟨w1, at_⟩, hM, ⟨rc, rfl, hc⟩, ⟨rd, rfl, hd⟩⟩
      refine TV_gt ?_
      refine d_difference_bits O ?_
      refine EVl_cons ?_
      refine EV_tup (k := 1) (by with_unfolding_all rfl) at_ (by decide) rfl ?_
      refine EVl_cons ?_
      refine EV_tup (k := 2) (by with_unfolding_all rfl) at_ (by decide) rfl ?_
      repeat' walk_at "mv"
      refine ok_diff hw hw9 O (hA.deeper.le (by walk_at "om")) hc hd (by walk_at "om") (by walk_at "om") _ ?_
      rintro _ H5 s5 rfl
      repeat' walk_at "mv"
      exact ⟨_, m1, n, p, q, c, d, rfl, s1.trans s5, S1.sub s5, R1, rfl, by rw [decide_eq_decide]; walk_at "om"⟩
    · rintro k m H' ⟨vs, m1, n, p, q, c, d, rfl, s1, S1, R1, rfl, hb⟩
      have hg := bl_gt.mp (of_decide_eq_true hb.symm)
      repeat' walk_at "mv"
      refine ok_onestep hw hw9 O (hA.deeper.le (by walk_at "om")) S1 R1 hg la lb _ ?_
      rintro v H4 s4 ⟨m', n', p', q', S4, R4⟩
      repeat' walk_at "mv"
      exact ⟨_, next_less R1 hg, v, m', n', p', q', _, _, rfl, s1.trans s4, S4, R4, rfl⟩
    · rintro k m H' ⟨vs, m1, n, p, q, c, d, rfl, s1, S1, R1, rfl, hb⟩
      have hb := of_decide_eq_false hb.symm
      exact ⟨vs, m1, n, p, q, c, d, rfl, s1, S1, R1, by walk_at "om"⟩
  rintro m H' ⟨vs, m1, n, p, q, c, d, rfl, s1, S1, R1, hg⟩
  repeat' walk_at "mv"
  refine ⟨s1, m1, n, p, q, c, d, S1, .inr ⟨hlow, R1, ?_⟩⟩
  rcases Nat.lt_or_ge (gap c d) (2 ^ s) with g | g
  · exact g
  · have := bl_gt.mpr g
    walk_at "om"
end
section
open PySem PySem.W PySem.Calls PyProof.Rows

section
variable {c : Cx} {A : Around} {f : Fm} {m : List (Str × V)} {H : Hp} {Q : V → Hp → Prop}
/-- an item of a list of mixed values -/
theorem EV_gitem {value slice : Expr} {pos : Pos} (h : EV c A f value m H (fun a H1 => EV c A f slice m H1 (fun b H2 => ∃ r w xs, ∃ (k : Int), ∃ v, a = .ref r ∧ b = .int k ∧ H2 r = some ⟨w, false, xs⟩ ∧ (0 ≤ k ∧ k < 2 ^ 62) ∧ xs[k.toNat]? = some v ∧ Q v H2)))
    (hs : ∀ a k t, subscripted slice false (.ref a) (.int k t) = operate [.ref a, .int k t] (getItem (.ref a) (.int k t)) := by intro _ _ _; with_unfolding_all rfl) : EV c A f (.Subscript value slice pos) m H Q :=
  EV_sub_ (h.mono fun _ _ q1 => q1.mono fun _ _ ⟨r, w, xs, k, x, e1, e2, e, hk, hx, q⟩ => by
    subst e1; subst e2
    exact fun _ _ r1 r2 => SM_item e hk.1 hk.2 hx q r1 r2 (hs _ _))
end

variable {e : Ev} {A : Around} {H : Hp} {Q : V → Hp → Prop}

theorem ok_limbs {w n : Nat} (hw : 0 < w) (hw9 : w ≤ 20) (O : e.c.Ok) (hA : Rm A 1) (ln : n < 2 ^ 60) : PURE e.c A 245 [.int n, .int w] H (fun v H' => Num w H' v n) := by
  refine PURE_of (fun v H1 H2 h n => n.up h) ?_
  refine CALL_enter [Str.ofString "number", Str.ofString "w"] O hA.room rfl rfl (fun us hl => ?_) rfl (by decide) (by decide) (by decide) (fun L => ?_)
  · obtain ⟨u1, u2, rfl⟩ := len2 hl; rfl
  generalize fr H = H at *
  have hB := Nat.two_pow_pos w
  have len0 := len64 hw (n := n) (by walk_at "om")
  repeat' walk_at "mv"
  refine ⟨by simp, fun d hd => ?_⟩
  refine EX_cut (fun m H' => m = [(Str.ofString "number", .int (0 : Nat)), (Str.ofString "w", .int w), (Str.ofString "found", .ref d)] ∧ H' = H.set d ⟨true, false, iv (lim w n)⟩) ?_ ?_
  · refine EX_while2 (fun k m H' => ∃ fs, m = [(Str.ofString "number", .int k), (Str.ofString "w", .int w), (Str.ofString "found", .ref d)] ∧ H' = H.set d ⟨true, false, iv fs⟩ ∧ fs ++ lim w k = lim w n)
      (fun k m H' b => ∃ fs, m = [(Str.ofString "number", .int k), (Str.ofString "w", .int w), (Str.ofString "found", .ref d)] ∧ H' = H.set d ⟨true, false, iv fs⟩ ∧ fs ++ lim w k = lim w n ∧ b = decide (0 < k)) (n0 := n) ⟨[], rfl, rfl, rfl⟩ ?_ ?_ ?_
    · rintro k m H' ⟨fs, rfl, rfl, hf⟩
      repeat' walk_at "mv"
      exact ⟨fs, rfl, rfl, hf, by rw [decide_eq_decide]; walk_at "om"⟩
    · rintro k m H' ⟨fs, rfl, rfl, hf, hb⟩
      have hb := of_decide_eq_true hb.symm
      rw [lim_pos hw hb] at hf
      have hlen : fs.length + 1 ≤ 64 := by
        have := congrArg List.length hf
        simp only [List.length_append, List.length_cons] at this
        walk_at "om"
      have hBi : (2 : Int) ^ w = ((2 ^ w : Nat) : Int) := pow_cast w
      repeat' walk_at "mv"
      refine EX_append (by with_unfolding_all rfl) Hp.set_same ?_
      repeat' walk_at "mv"
      refine ⟨_, w, rfl, rfl, ⟨by walk_at "om", by decide⟩, ?_⟩
      repeat' walk_at "mv"
      refine ⟨_, _, rfl, rfl, by rw [hBi]; walk_at "om", ?_⟩
      refine ⟨_, Hp.set_same, by rw [iv_len]; walk_at "om", ?_⟩
      rw [Hp.set_set, iv_snoc]
      repeat' walk_at "mv"
      refine ⟨_, w, rfl, rfl, ⟨by walk_at "om", by decide⟩, ?_⟩
      repeat' walk_at "mv"
      refine ⟨_, _, rfl, rfl, ⟨by walk_at "om", ?_⟩, ?_⟩
      · rw [hBi]
        have : 2 ^ w ≤ 2 ^ 20 := Nat.pow_le_pow_right (by decide) hw9
        walk_at "om"
      repeat' walk_at "mv"
      refine ⟨k / 2 ^ w, Nat.div_lt_self hb (Nat.one_lt_two_pow (by walk_at "om")), fs ++ [((k % 2 ^ w : Nat) : Int)], ?_, ?_, ?_⟩
      · rw [hBi, ← Int.natCast_ediv]; rfl
      · rw [hBi, ← Int.natCast_emod]
      · rw [List.append_assoc]; exact hf
    · rintro k m H' ⟨fs, rfl, rfl, hf, hb⟩
      have hb := of_decide_eq_false hb.symm
      have : k = 0 := by walk_at "om"
      subst this
      rw [lim_zero, List.append_nil] at hf
      exact ⟨rfl, by rw [hf]⟩
  · rintro m H' ⟨rfl, rfl⟩
    repeat' walk_at "mv"
    exact ⟨Sub.set hd, d, rfl, At.set⟩

theorem ok_whole {w a : Nat} {r : Addr} (hw : 0 < w) (hw9 : w ≤ 20) (O : e.c.Ok) (hA : Rm A 1) (ha : At H r false (iv (lim w a))) (la : a < 2 ^ 40) : PURE e.c A 252 [.ref r, .int w] H (fun v H' => v = .int a) := by
  refine PURE_of (fun v H1 H2 h n => n) ?_
  refine CALL_enter [Str.ofString "row", Str.ofString "w"] O hA.room rfl rfl (fun us hl => ?_) rfl (by decide) (by decide) (by decide) (fun L => ?_)
  · obtain ⟨u1, u2, rfl⟩ := len2 hl; rfl
  have hh := hA.h
  have hr := fr_at ha
  generalize fr H = H at *
  have hB := B_pos w
  have hB20 : (2 ^ w : Int) ≤ 2 ^ 20 := by rw [pow_cast]; exact Int.ofNat_le.mpr (Nat.pow_le_pow_right (by decide) hw9)
  have len0 := len64 hw (n := a) (by walk_at "om")
  have dx := lim_dg hw a
  have vx := lim_val hw a
  generalize lim w a = X at *
  have bnd : ∀ k, k ≤ X.length → 0 ≤ val (2 ^ w) (X.drop k) ∧ val (2 ^ w) (X.drop k) ≤ a := fun k hk => by
    have h1 := val_take_drop (B := 2 ^ w) X k hk
    have h2 := val_nonneg hB (dx.take k)
    have h3 := val_nonneg hB (dx.drop k)
    have h4 : 1 * val (2 ^ w) (X.drop k) ≤ (2 ^ w) ^ k * val (2 ^ w) (X.drop k) := Int.mul_le_mul_of_nonneg_right (by have : (0 : Int) < (2 ^ w) ^ k := Int.pow_pos hB; walk_at "om") h3
    walk_at "om"
  repeat' walk_at "mv"
  refine EX_mid (fun m H' => Sub H H' ∧ Le [(Str.ofString "found", .int a)] m) ?_ ?_
  · refine EX_forlist hh ?_
    refine EV_back ?_
    repeat' walk_at "mv"
    refine ⟨_, _, _, rfl, rfl, hr, by rw [iv_len]; walk_at "om", fun y hy => ?_⟩
    rw [iv_rev]
    refine ⟨y, _, fun i m H' => Sub H H' ∧ i ≤ X.length ∧ Le [(Str.ofString "w", .int w), (Str.ofString "found", .int (val (2 ^ w) (X.drop (X.length - i))))] m, rfl, Hp.set_same, ⟨Sub.set hy, by walk_at "om", .of ⟨by with_unfolding_all rfl, ?_, trivial⟩⟩, ?_, ?_⟩
    · rw [Nat.sub_zero, List.drop_length, val_nil]; with_unfolding_all rfl
    · rintro i m H' v hv ⟨s, hi, hm⟩
      obtain ⟨x, ex, rfl⟩ := iv_get_inv hv
      have hi2 : i < X.length := by
        rcases Nat.lt_or_ge i X.length with q | q
        · exact q
        · rw [List.getElem?_eq_none (by simpa using q)] at ex; cases ex
      rw [List.getElem?_reverse hi2] at ex
      have h1 := val_drop_pred (B := 2 ^ w) X _ ex
      rw [show X.length - 1 - i + 1 = X.length - i by walk_at "om"] at h1
      have h2 := bnd (X.length - i) (by walk_at "om")
      refine EX_weak ?_ (hm.put _ _)
      repeat' walk_at "mv"
      refine ⟨_, w, rfl, rfl, ⟨by walk_at "om", by decide⟩, ?_⟩
      repeat' walk_at "mv"
      refine ⟨_, _, rfl, rfl, ⟨by walk_at "om", by walk_at "om"⟩, ?_⟩
      repeat' walk_at "mv"
      refine ⟨s, by walk_at "om", .of ⟨by with_unfolding_all rfl, ?_, trivial⟩⟩
      rw [show X.length - (i + 1) = X.length - 1 - i by walk_at "om", h1, show x + 2 ^ w * val (2 ^ w) (X.drop (X.length - i)) = val (2 ^ w) (X.drop (X.length - i)) * 2 ^ w + x by rw [Int.mul_comm]; walk_at "om"]
      with_unfolding_all rfl
    · rintro m H' ⟨s, hi, hm⟩
      rw [iv_len, List.length_reverse, Nat.sub_self, List.drop_zero, vx] at hm
      exact ⟨s, hm.trans' ⟨by with_unfolding_all rfl, trivial⟩⟩
  · rintro m H' ⟨s, hm⟩
    refine EX_weak ?_ hm
    repeat' walk_at "mv"
    exact ⟨s, rfl⟩

theorem ok_shared {x y : Nat} (O : e.c.Ok) (hA : Rm A 1) : PURE e.c A 259 [.int x, .int y] H (fun v H' => v = .int (Nat.gcd x y)) := by
  refine PURE_of (fun v H1 H2 h n => n) ?_
  refine CALL_enter [Str.ofString "x", Str.ofString "y"] O hA.room rfl rfl (fun us hl => ?_) rfl (by decide) (by decide) (by decide) (fun L => ?_)
  · obtain ⟨u1, u2, rfl⟩ := len2 hl; rfl
  generalize fr H = H at *
  refine EX_cut (fun m H' => m = [(Str.ofString "x", .int (Nat.gcd x y)), (Str.ofString "y", .int (0 : Nat))] ∧ H' = H) ?_ ?_
  · refine EX_while2 (fun k m H' => ∃ a : Nat, m = [(Str.ofString "x", .int a), (Str.ofString "y", .int k)] ∧ H' = H ∧ Nat.gcd a k = Nat.gcd x y)
      (fun k m H' b => ∃ a : Nat, m = [(Str.ofString "x", .int a), (Str.ofString "y", .int k)] ∧ H' = H ∧ Nat.gcd a k = Nat.gcd x y ∧ b = decide (0 < k)) (n0 := y) ⟨x, rfl, rfl, rfl⟩ ?_ ?_ ?_
    · rintro k m H' ⟨a, rfl, rfl, hg⟩
      repeat' walk_at "mv"
      exact ⟨a, rfl, rfl, hg, by rw [decide_eq_decide]; walk_at "om"⟩
    · rintro k m H' ⟨a, rfl, rfl, hg, hb⟩
      have hb := of_decide_eq_true hb.symm
      repeat' walk_at "mv"
      refine ⟨_, _, rfl, rfl, by walk_at "om", ?_⟩
      repeat' walk_at "mv"
      refine ⟨_, _, rfl, ?_⟩
      repeat' walk_at "mv"
      refine ⟨a % k, Nat.mod_lt _ hb, k, ?_, rfl, ?_⟩
      · rw [← Int.natCast_emod]; rfl
      · rw [← hg, Nat.gcd_comm k, ← Nat.gcd_rec, Nat.gcd_comm]
    · rintro k m H' ⟨a, rfl, rfl, hg, hb⟩
      have hb := of_decide_eq_false hb.symm
      have : k = 0 := by walk_at "om"
      subst this
      rw [Nat.gcd_zero_right] at hg
      exact ⟨by rw [hg], rfl⟩
  · rintro m H' ⟨rfl, rfl⟩
    repeat' walk_at "mv"
    exact ⟨.refl, rfl⟩
end
section
open PySem PySem.W PySem.Calls PyProof.Rows

variable {e : Ev} {A : Around} {H : Hp} {Q : V → Hp → Prop}

theorem ok_cut {D l : Addr} {i : Nat} {cs : List Int} {many : Int} (O : e.c.Ok) (hA : Rm A 1) (hD : H D = some ⟨true, false, [.int i, .ref l]⟩) (hl : At H l false (iv cs)) (hne : l ≠ D) (hi : i < 1000) (hc : cs.length ≤ 100) (hm : 0 < many)
    (k : ∀ x : Int, 0 ≤ x → x < many → Q (.int x) (H.set D ⟨true, false, [.int (i + 1 : Nat), .ref l]⟩)) :
    CALL e.c A 238 [.ref D, .int many] H Q := by
  refine CALL_frz (· = D) ?_
  refine CALL_enter [Str.ofString "loaf", Str.ofString "many"] O hA.room rfl rfl (fun us hl => ?_) rfl (by decide) (by decide) (by decide) (fun L => ?_)
  · obtain ⟨u1, u2, rfl⟩ := len2 hl; rfl
  have hrl := frz_other hl hne
  have hrD : frz (· = D) H D = some ⟨true, false, [.int i, .ref l]⟩ := by rw [frz_self]; exact hD
  have hk : ∀ x : Int, 0 ≤ x → x < many → Q (.int x) (rst (· = D) H ((frz (· = D) H).set D ⟨true, false, [.int (i + 1 : Nat), .ref l]⟩)) := by
    intro x a b; rw [rst_set]; exact k x a b
  generalize rst (· = D) H = rs at *
  generalize frz (· = D) H = H0 at *
  clear hD hl k
  have fin : ∀ x : Int, Q (.int (x % many)) (rs (H0.set D ⟨true, false, [.int (i + 1 : Nat), .ref l]⟩)) := fun x => hk _ (Int.emod_nonneg _ (by walk_at "om")) (Int.emod_lt_of_pos _ hm)
  refine EX_cons ?_
  refine EX_setitem ?_
  refine EV_add ?_
  refine EV_gitem ?_
  repeat' walk_at "mv"
  refine ⟨_, _, _, _, _, rfl, rfl, hrD, ⟨by walk_at "om", by decide⟩, rfl, ?_⟩
  repeat' walk_at "mv"
  refine ⟨_, _, _, rfl, rfl, hrD, ⟨by walk_at "om", by simp, by decide⟩, ?_⟩
  show EX _ _ _ _ _ (H0.set D ⟨true, false, [.int (i + 1 : Nat), .ref l]⟩) _ _
  have hr1 : (H0.set D ⟨true, false, [.int (i + 1 : Nat), .ref l]⟩) l = some ⟨false, false, iv cs⟩ := by rw [Hp.set_ne hne]; exact hrl
  have hr2 : (H0.set D ⟨true, false, [.int (i + 1 : Nat), .ref l]⟩) D = some ⟨true, false, [.int (i + 1 : Nat), .ref l]⟩ := Hp.set_same
  generalize H0.set D ⟨true, false, [.int (i + 1 : Nat), .ref l]⟩ = H1 at *
  refine EX_cons ?_
  refine EX_if ?_
  refine TV_le ?_
  refine EV_gitem ?_
  repeat' walk_at "mv"
  refine ⟨_, _, _, _, _, rfl, rfl, hr2, ⟨by walk_at "om", by decide⟩, rfl, ?_⟩
  refine d_len O ?_
  refine EV_gitem ?_
  repeat' walk_at "mv"
  refine ⟨_, _, _, _, _, rfl, rfl, hr2, ⟨by walk_at "om", by decide⟩, rfl, ?_⟩
  refine ⟨_, _, _, rfl, hr1, by rw [iv_len]; walk_at "om", ?_⟩
  rw [iv_len]
  refine ⟨_, _, rfl, rfl, trivial, fun h => ?_, fun h => ?_⟩
  · have h := of_decide_eq_true h
    refine EX_cons ?_
    refine EX_return ?_
    refine EV_mod ?_
    refine EV_item ?_
    refine EV_gitem ?_
    repeat' walk_at "mv"
    refine ⟨_, _, _, _, _, rfl, rfl, hr2, ⟨by walk_at "om", by decide⟩, rfl, ?_⟩
    refine EV_sub ?_
    refine EV_gitem ?_
    repeat' walk_at "mv"
    refine ⟨_, _, _, _, _, rfl, rfl, hr2, ⟨by walk_at "om", by decide⟩, rfl, ?_⟩
    repeat' walk_at "mv"
    refine ⟨_, _, _, _, _, rfl, rfl, hr1, ⟨by walk_at "om", by walk_at "om"⟩, List.getElem?_eq_getElem (show (((i + 1 : Nat) : Int) - 1).toNat < cs.length by walk_at "om"), ?_⟩
    repeat' walk_at "mv"
    exact ⟨_, _, rfl, rfl, hm, fin _⟩
  · refine EX_nil ?_
    refine EX_cons ?_
    refine EX_return ?_
    refine EV_mod ?_
    refine EV_add ?_
    refine EV_add ?_
    refine EV_mul ?_
    refine EV_int ?_
    refine EV_gitem ?_
    repeat' walk_at "mv"
    refine ⟨_, _, _, _, _, rfl, rfl, hr2, ⟨by walk_at "om", by decide⟩, rfl, ?_⟩
    refine ⟨_, _, rfl, rfl, ⟨by walk_at "om", by walk_at "om"⟩, ?_⟩
    refine EV_floordiv ?_
    refine EV_gitem ?_
    repeat' walk_at "mv"
    refine ⟨_, _, _, _, _, rfl, rfl, hr2, ⟨by walk_at "om", by decide⟩, rfl, ?_⟩
    repeat' walk_at "mv"
    refine ⟨_, _, rfl, rfl, by walk_at "om", ?_⟩
    repeat' walk_at "mv"
    exact ⟨_, _, rfl, rfl, hm, fin _⟩
end
section
open PySem PySem.W PySem.Calls PyProof.Rows

/-! ## a heap cut down to some addresses -/
def cutHeap (h : Heap) (k : Addr → Bool) : Heap := ⟨h.objs.mapIdx fun i o => if k i then o else { o with data := .freed }, h.life⟩

theorem cut_get {h : Heap} {k : Addr → Bool} {a : Addr} : (cutHeap h k).get? a = if k a then h.get? a else none := by
  unfold cutHeap Heap.get?
  simp only [Array.getElem?_mapIdx]
  cases e : h.objs[a]? with
  | none => simp
  | some o =>
    cases hk : k a with
    | true => simp [hk]
    | false => simp [hk]

/-- the start heap with one cell more -/
noncomputable def Ev.more (e : Ev) (h : Heap) (c : Addr) : Ev := { e with hs := cutHeap h fun i => i == c || (e.hs.get? i).isSome }

theorem more_get {e : Ev} {h : Heap} {c a : Addr} {o : Obj} (q : (e.more h c).hs.get? a = some o) : (a = c ∨ ∃ o', e.hs.get? a = some o') ∧ h.get? a = some o := by
  unfold Ev.more at q
  simp only [cut_get] at q
  split at q
  · rename_i hk
    refine ⟨?_, q⟩
    rw [Bool.or_eq_true] at hk
    rcases hk with hk | hk
    · exact .inl (by simpa using hk)
    · exact .inr (Option.isSome_iff_exists.mp hk)
  · cases q
theorem more_old {e : Ev} {h : Heap} {c a : Addr} {o : Obj} (hk : ∀ b o, e.hs.get? b = some o → h.get? b = some o) (q : e.hs.get? a = some o) : (e.more h c).hs.get? a = some o := by
  unfold Ev.more
  simp only [cut_get]
  rw [if_pos (by simp [q])]
  exact hk _ _ q
theorem more_cell {e : Ev} {h : Heap} {c : Addr} {o : Obj} (q : h.get? c = some o) : (e.more h c).hs.get? c = some o := by
  unfold Ev.more
  simp only [cut_get]
  rw [if_pos (by simp)]
  exact q
theorem more_ok {e : Ev} {h : Heap} {c : Addr} (O : e.c.Ok) (hk : ∀ b o, e.hs.get? b = some o → h.get? b = some o) : (e.more h c).c.Ok :=
  ⟨O.k.keeps fun _ _ q => more_old hk q, O.t.keeps fun _ _ q => more_old hk q⟩
theorem HS.less {e : Ev} {h : Heap} {c : Addr} {H : Hp} {s : Shared} (hk : ∀ b o, e.hs.get? b = some o → h.get? b = some o) (S : HS (e.more h c).c H s) : HS e.c H s where
  obj := S.obj
  wr := fun a o q w => by
    cases r : e.hs.get? a with
    | none => rfl
    | some o' =>
      have := S.wr a o q w
      have t : (e.more h c).hs.get? a = some o' := more_old hk r
      rw [show (e.more h c).c.hs = (e.more h c).hs from rfl] at this
      rw [t] at this; cases this
  keeps := fun b o q => S.keeps b o (more_old hk q)
theorem HS.more {e : Ev} {c : Addr} {H : Hp} {s : Shared} {o : Obj} {v : Option Value} (S : HS e.c H s) (q : s.heap.get? c = some o) (hd : o.data = .cell v) : HS (e.more s.heap c).c H s where
  obj := S.obj
  wr := fun a o' r w => by
    cases t : (e.more s.heap c).hs.get? a with
    | none => rfl
    | some ob =>
      exfalso
      obtain ⟨x, y⟩ := more_get t
      rcases x with x | ⟨o2, x⟩
      · subst x
        obtain ⟨us, n, _, z⟩ := S.obj a o' r
        rw [q] at z; cases z; cases hd
      · have := S.wr a o' r w
        rw [show e.c.hs = e.hs from rfl, x] at this; cases this
  keeps := fun b o' r => (more_get r).2

section
variable {e : Ev} {A : Around} {f : Fm} {m : List (Str × V)} {H : Hp} {Q : V → Hp → Prop}
/-- a name held in a cell, read from inside and from a frame within -/
theorem EV_cell {x : Str} {pos : Pos} {v : V} {uc : Value} {c : Addr} (hc : e.hs.IsCell c (some uc)) (r : VR v uc) (q : Q v H) (hcl : f.cl.lookup x = some c := by with_unfolding_all rfl)
    (hk : f.sc.kind = .function := by with_unfolding_all rfl) (hx : f.env.kindOf x = some .cell := by with_unfolding_all rfl) (hd : (x == ("__debug__" : Str)) = false := by decide) : EV e.c A f (.Name x pos) m H Q := fun s S =>
  wpAny_Name (wpAny_loadName_cell (env := f.env) hk hx hcl (hc.keeps S.keeps) ⟨v, H, r, S, .refl, q⟩) hd
end

abbrev Fm.ofC (nm : Str) (sc : Scope) (L a : Addr) (cd : Value) (cn : Str) : Fm := ⟨sc, L, [(cn, L + 1)], nm ++ ".<locals>.", some a, cd, some L⟩

theorem CALL_enterC {e : Ev} {A : Around} {g : Addr} {vs : List V} {H : Hp} {Q : V → Hp → Prop} {nm qual : Str} {params : Arguments} {body : List Stmt} {sc : Scope} {dV kV doc pm cdv ct oc : Value} {an od : Option Addr} {osl : Array (Option Value)} (names : List Str) (m : List (Str × V)) (cn : Str) (vc : V)
    (O : e.c.Ok) (hroom : A.depth < recursionLimit)
    (ho : e.c.K.lookup g = some ⟨oc, od, .func (fnOf nm qual params body sc dV kV doc pm an cdv ct), osl⟩) (hcd : codeIn e.c.K cdv qual = true)
    (hb : ∀ us : List Value, us.length = names.length → bindArgs (fnOf nm qual params body sc dV kV doc pm an cdv ct) ⟨us, []⟩ = pure (names.zip us))
    (hlen : vs.length = names.length)
    (hcl : ∀ L, cellsFrom (L + 1) sc.names [] = [(cn, L + 1)])
    (hkd : ∀ x ∈ names, sc.names.lookup x = some .local ∨ (sc.names.lookup x = some .cell ∧ x = cn))
    (hm : ∀ us, VsR vs us → ∀ x, MR (lkp m x) (bindL (fun y => sc.names.lookup y) (names.zip us) (fun _ => none) x))
    (hc : ∀ us, VsR vs us → ∃ uc, VR vc uc ∧ bindC (fun y => sc.names.lookup y) (names.zip us) (fun _ => none) cn = some uc)
    (h : ∀ (L : Addr) (e' : Ev) (uc : Value), e'.prog = e.prog → e'.w = e.w → VR vc uc → e'.hs.IsCell (L + 1) (some uc) → e'.c.Ok → EX e'.c (A.deeper (Fm.ofC qual sc L g cdv cn).env) (Fm.ofC qual sc L g cdv cn) (execs body (Fm.ofC qual sc L g cdv cn).env) m H (fun _ H' => Q .none H') Q)
    (hco : sc.isCoroutine = false := by with_unfolding_all rfl) (hgen : sc.isGenerator = false := by with_unfolding_all rfl) (hk : sc.kind = .function := by with_unfolding_all rfl) : CALL e.c A g vs H Q := fun s args S r => by
  have ul : args.length = names.length := r.length.trans hlen
  have henv : callEnvC (fnOf nm qual params body sc dV kV doc pm an cdv ct) s.heap.objs.size g = (Fm.ofC qual sc s.heap.objs.size g cdv cn).env := by
    unfold callEnvC newEnv
    show Env.mk .. = Env.mk ..
    simp only [fnOf, hcl]
  refine codeAny_call_cells (fd := fnOf nm qual params body sc dV kV doc pm an cdv ct) (body := body) (binds := names.zip args) hroom (S.keeps _ _ (O.k _ _ ho)) rfl (O.t.nolimit.keeps S.keeps) ((codeRec_of O.k hcd).keeps S.keeps) rfl
    (hb args ul) rfl (fun y hy => ?_) (fun s₁ X => ?_) hco hgen hk
  · have h1 := (List.of_mem_zip (a := y.1) (b := y.2) hy).1
    rcases hkd _ h1 with h2 | ⟨h2, h3⟩
    · exact .inl h2
    · refine .inr ⟨h2, ?_⟩
      show ((cellsFrom (s.heap.objs.size + 1) sc.names []).lookup y.1).isSome = true
      rw [hcl, h3]; simp
  rw [henv] at X ⊢
  obtain ⟨h', tk, rfl, hkeep⟩ := X.done
  obtain ⟨uc, rc, ec⟩ := hc args r
  have hcell : h'.IsCell (s.heap.objs.size + 1) (some uc) := by
    have := X.cell cn (s.heap.objs.size + 1) (by simp)
    rwa [show bindC (Env.kindOf (Fm.ofC qual sc s.heap.objs.size g cdv cn).env) (names.zip args) (fun _ => none) cn = some uc from ec] at this
  obtain ⟨oc', hoc, hdc⟩ := hcell
  have S1 : HS e.c H { s with heap := h', toks := tk } := S.grow hkeep
  have hk1 : ∀ b o, e.hs.get? b = some o → h'.get? b = some o := S1.keeps
  have S2 := S1.more hoc hdc
  have fresh1 := S.fresh (size_fresh s.heap)
  have S0 : FS (e.more h' (s.heap.objs.size + 1)).c s.heap.objs.size m H { s with heap := h', toks := tk } := by
    refine { toHS := S2, ns := ⟨_, X.toInCall.ns, hm args r⟩, hL := fresh1, hsL := ?_ }
    cases t : (e.more h' (s.heap.objs.size + 1)).hs.get? s.heap.objs.size with
    | none => rfl
    | some ob =>
      exfalso
      obtain ⟨x, y⟩ := more_get t
      rcases x with x | ⟨o2, x⟩
      · exact Nat.ne_of_lt (Nat.lt_succ_self _) x
      · have := S.freshS (size_fresh s.heap)
        rw [show e.c.hs = e.hs from rfl, x] at this; cases this
  have done : ∀ {m' H' s' v v'}, VR v' v → FS (e.more h' (s.heap.objs.size + 1)).c s.heap.objs.size m' H' s' → SC (· = s.heap.objs.size) H { s with heap := h', toks := tk } H' s' → Q v' H' →
      ∃ w w' H', (Except.ok (Flow.ret v) : Result) = .ok (.ret w) ∧ VR w' w ∧ HS e.c H' s' ∧ SC (fun _ => False) H s H' s' ∧ Q w' H' := by
    intro m' H' s' v v' rv S' T q
    refine ⟨v, v', H', rfl, rv, S'.toHS.less hk1, ⟨?_, fun b o _ hq e => ?_, fun b o e => T.alive b o (hkeep b o e), fun b q e => ?_⟩, q⟩
    · have := T.same; rw [this]
    · exact T.keep b o (Nat.ne_of_lt (Heap.lt_size e)) hq (hkeep b o e)
    · rcases T.new b q e with x | x
      · left
        cases e2 : s.heap.get? b with
        | none => rfl
        | some o =>
          have x' : h'.get? b = none := x
          rw [hkeep b o e2] at x'; cases x'
      · exact .inr x
  refine wpAny_mono (?_ : wpAny _ _ _ _ (fun _ _ => False) _) (fun _ _ x => x) (fun _ _ x => x.elim)
  exact (h s.heap.objs.size (e.more h' (s.heap.objs.size + 1)) uc rfl rfl rc ⟨oc', more_cell hoc, hdc⟩ (more_ok O hk1)).use S0 (fun m' H' s' S' T q => done .none S' T q) (fun v v' m' H' s' rv S' T q => done rv S' T q)
end
section
open PySem PySem.W PySem.Calls PyProof.Rows

theorem VR_inj {v v' : V} {u : Value} (a : VR v u) (b : VR v' u) : v = v' := by cases a <;> cases b <;> rfl

/-- the frame of a comprehension within a frame -/
abbrev Fm.comp (f : Fm) (scope : Scope) (cl : List (Str × Addr)) (C : Addr) : Fm := ⟨relabel scope f.env, C, cl, f.ql, none, f.cd, f.fo⟩

theorem pair_back {G : V → V → Prop} : ∀ {xs : List V} {us ys : List Value}, VsR xs us → Paired (fun v y => ∃ v' y', VR v' v ∧ VR y' y ∧ G v' y') us ys → ∃ zs, VsR zs ys ∧ Paired G xs zs
  | _, _, _, .nil, .nil => ⟨[], .nil, .nil⟩
  | _, _, _, .cons r rs, .cons ⟨v', y', a, b, g⟩ t => by
    obtain ⟨zs, h1, h2⟩ := pair_back rs t
    have := VR_inj a r
    subst this
    exact ⟨y' :: zs, .cons b h1, .cons g h2⟩

section
variable {c : Cx} {A : Around} {f : Fm} {m : List (Str × V)} {H : Hp} {Q : V → Hp → Prop}

theorem comp_elt {elt : Expr} {x : Str} {scope : Scope} {cl : List (Str × Addr)} {L C : Addr} {v : V} {u : Value} {H1 : Hp} {s1 s3 : Shared} {m3 : Str → Option Value} {G : V → V → Prop} {E' : Value → Shared → Prop}
    (S1 : HS c H1 s1) (hk : ∀ b o, s1.heap.get? b = some o → s3.heap.get? b = some o) (hC : s1.heap.objs.size ≤ C) (hn : s3.heap.Ns C m3) (hx : m3 x = some u) (r : VR v u)
    (h : EV c A (f.comp scope cl C) elt [(x, v)] (fr H1) (fun y _ => G v y)) :
    wpAny (model c.prog c.w) A (eval elt (f.comp scope cl C).env) (fun y s4 => (∃ v' y', VR v' u ∧ VR y' y ∧ G v' y') ∧ Keeps s3 s4) E' s3 := by
  have none1 : s1.heap.get? C = none := by
    cases e : s1.heap.get? C with
    | none => rfl
    | some o' => exact absurd (Heap.lt_size e) (Nat.not_lt.mpr hC)
  have hf : ∀ a o, fr H1 a = some o → ∃ o', H1 a = some o' ∧ o = { o' with w := false } := fun a o e => by
    simp only [fr, frz, if_false] at e
    cases q : H1 a with
    | none => rw [q] at e; cases e
    | some o' => rw [q] at e; cases e; exact ⟨o', rfl, rfl⟩
  have S3 : FS c C [(x, v)] (fr H1) s3 :=
    { obj := fun a o e => by
        obtain ⟨o', e', rfl⟩ := hf a o e
        obtain ⟨us, n, ru, hl⟩ := S1.obj a o' e'
        exact ⟨us, n, ru, hk _ _ hl⟩
      wr := fun a o e hw => by obtain ⟨o', _, rfl⟩ := hf a o e; cases hw
      keeps := fun b o e => hk _ _ (S1.keeps _ _ e)
      ns := ⟨m3, hn, fun y => by
        unfold lkp
        split
        · rename_i q; subst q; rw [hx]; exact .some r
        · exact .none⟩
      hL := by
        cases e : fr H1 C with
        | none => rfl
        | some o => obtain ⟨o', e', rfl⟩ := hf C o e; rw [S1.fresh none1] at e'; cases e'
      hsL := S1.freshS none1 }
  refine wpAny_mono (h s3 S3) (fun y s4 ⟨y', H', ry, S', T, q⟩ => ⟨⟨v, y', r, ry, q⟩, s4.heap, s4.toks, T.same, fun b o e => T.keep b o id (fun p hp => ?_) e⟩) (fun _ _ z => z.elim)
  obtain ⟨o', _, rfl⟩ := hf b p hp; rfl

/-- a comprehension over a tuple -/
theorem EV_compT {elt iter : Expr} {x : Str} {px : Pos} {scope : Scope} {cl : List (Str × Addr)} {pos : Pos} (hh : A.handled = none) (G : V → V → Prop)
    (h : EV c A f iter m H (fun v H1 => ∃ t w xs, v = .ref t ∧ H1 t = some ⟨w, true, xs⟩ ∧ xs.length ≤ 4096 ∧ (∀ C v', v' ∈ xs → EV c A (f.comp scope cl C) elt [(x, v')] (fr H1) (fun y _ => G v' y)) ∧
      ∀ a ys, H1 a = none → Paired G xs ys → Q (.ref a) (H1.set a ⟨true, false, ys⟩)))
    (hclos : closureFor scope f.env = pure cl := by with_unfolding_all rfl) (hcell : (scope.names.all fun y => y.2 != .cell) = true := by decide) (hkind : scope.kind = .function := by with_unfolding_all rfl)
    (hnames : (scope.names.all fun y => y.2 != .local || scope.names.lookup y.1 == some .local) = true := by decide) (hx : scope.names.lookup x = some .local := by with_unfolding_all rfl) (hs : ∀ x, foldedSetIterable iter f.env x = pure x := by intro _; with_unfolding_all rfl) :
    EV c A f (.ListComp elt [⟨.Name x px, iter, [], 0⟩] scope pos) m H Q := fun s S => by
  refine wpAny_ListComp_free (env := f.env) (fun _ => true) (fun v y => ∃ v' y', VR v' v ∧ VR y' y ∧ G v' y') hclos (fun y hy => by simpa using List.all_eq_true.mp hcell y hy) hkind (fun y hy hl => by simpa [hl] using List.all_eq_true.mp hnames y hy) hx (h.uses S fun v u H1 s1 r1 S1 T1 q1 => ?_) hs
  obtain ⟨t, w, xs, e1, e, hn, helt, q⟩ := q1
  subst e1; cases r1
  obtain ⟨us, n, ru, hl⟩ := S1.isTup e
  have ht : s1.heap.IsTuple t us.toArray := ⟨_, hl, rfl, n, rfl⟩
  refine wpAny_pyIter_tuple ht ?_
  have hne : t ≠ s1.heap.objs.size := Nat.ne_of_lt (Heap.lt_size hl)
  have kp : ∀ b o, s1.heap.get? b = some o → (s1.heap.push { cls := .type "tuple_iterator", data := .fields #[.ref t, .int 0 0] }).get? b = some o := fun b o e => Heap.get?_push_of_some _ e
  have hsz : (s1.heap.push { cls := .type "tuple_iterator", data := .fields #[.ref t, .int 0 0] }).objs.size = s1.heap.objs.size + 1 := Heap.size_push ..
  have hit : (s1.heap.push { cls := .type "tuple_iterator", data := .fields #[.ref t, .int 0 0] }).IsTupleIter s1.heap.objs.size t 0 := ⟨_, Heap.get?_push_size _ rfl, rfl, rfl⟩
  have hit2 : (s1.heap.push { cls := .type "tuple_iterator", data := .fields #[.ref t, .int 0 0] }).IsTuple t us.toArray := ⟨_, kp _ _ hl, rfl, n, rfl⟩
  have hlen := ru.length
  refine ⟨s1.heap.objs.size, _, _, _, _, _, rfl, Walks.tuple hh s1.heap.objs.size t hne us.toArray, by rw [List.size_toArray, hlen]; exact Nat.le_trans hn (by decide), ⟨hit, hit2⟩, ?_, ⟨?_, ?_⟩, ?_⟩
  · intro b hb
    simp only [List.mem_cons, List.not_mem_nil, or_false] at hb
    show b < (s1.heap.push _).objs.size
    rw [hsz]
    rcases hb with hb | hb
    · subst hb; exact Nat.lt_succ_self _
    · subst hb; exact Nat.lt_succ_of_lt (Heap.lt_size hl)
  · intro C i v s3 m3 E' _ _ _ _ _ _
    exact wpAny_pure ⟨rfl, s3.heap, s3.toks, rfl, fun _ _ e => e⟩
  · intro C i u' s3 m3 E' hC hP _ hn3 hx3 hk3 _
    have hP : us[i]? = some u' := by simpa using hP
    have hi : i < us.length := by
      rcases Nat.lt_or_ge i us.length with q | q
      · exact q
      · rw [List.getElem?_eq_none q] at hP; cases hP
    obtain ⟨v', hv', rv'⟩ : ∃ v', v' ∈ xs ∧ VR v' u' := by
      clear hn helt q hlen hl ht hit2 e hi
      induction ru generalizing i with
      | nil => simp at hP
      | @cons a as b bs r rs ih =>
        cases i with
        | zero =>
          simp at hP; subst hP
          exact ⟨a, List.mem_cons_self, r⟩
        | succ j =>
          obtain ⟨v', h1, h2⟩ := ih (i := j) (by simpa using hP) (by simpa using hP)
          exact ⟨v', List.mem_cons_of_mem _ h1, h2⟩
    have hC' : s1.heap.objs.size ≤ C := by
      have : (s1.heap.push { cls := .type "tuple_iterator", data := .fields #[.ref t, .int 0 0] }).objs.size ≤ C := hC
      rw [hsz] at this; exact Nat.le_of_succ_le this
    exact comp_elt (L := f.L) S1.toHS (fun b o e => hk3 b o (by simp only [List.mem_singleton]; exact Nat.ne_of_lt (Heap.lt_size e)) (kp b o e)) hC' hn3 hx3 rv' (helt C v' hv')
  · intro D h' tk ys vs hD hl' hpl hvl hP hF hk
    have hvs : vs = us := by
      refine List.ext_getElem? fun j => ?_
      cases e1 : vs[j]? with
      | some v => have := hP j v e1; simpa using this.symm
      | none =>
        have h1 := List.getElem?_eq_none_iff.mp e1
        rw [List.getElem?_eq_none (by simpa [hvl] using h1)]
    rw [List.filter_eq_self.mpr (fun _ _ => rfl), hvs] at hF
    obtain ⟨zs, rz, gz⟩ := pair_back ru hF
    have hk2 : ∀ b o, s1.heap.get? b = some o → h'.get? b = some o := fun b o e => hk b o (by simp only [List.mem_singleton]; exact Nat.ne_of_lt (Heap.lt_size e)) (kp b o e)
    have hD1 : s1.heap.get? D = none := by
      cases e1 : s1.heap.get? D with
      | none => rfl
      | some o => have := kp D o e1; rw [show (s1.heap.push _).get? D = none from hD] at this; cases this
    have Sg : FS c f.L m H1 { s1 with heap := h', toks := tk } := S1.grow hk2
    have nD := S1.fresh hD1
    obtain ⟨n', hd'⟩ := hpl
    have hLD : f.L ≠ D := fun q => by
      obtain ⟨mm, ⟨o, es, ep, hh', r⟩, _⟩ := S1.ns
      rw [q, hD1] at hh'; cases hh'
    refine ⟨.ref D, H1.set D ⟨true, false, zs⟩, .ref, ⟨⟨fun a o ea => ?_, fun a o ea hw => ?_, Sg.keeps⟩, Sg.ns, by rw [Hp.set_ne hLD]; exact S1.hL, S1.hsL⟩, T1.trans ⟨rfl, fun b o _ _ e => hk2 b o e, fun b o e => ⟨o, hk2 b o e⟩, fun b q e => ?_⟩, q D zs nD gz⟩
    · by_cases ha : a = D
      · subst ha; rw [Hp.set_same] at ea; cases ea
        exact ⟨ys.toList, n', rz, by simpa using hd'⟩
      · rw [Hp.set_ne ha] at ea; exact Sg.obj a o ea
    · by_cases ha : a = D
      · subst ha; exact S1.freshS hD1
      · rw [Hp.set_ne ha] at ea; exact S1.wr a o ea hw
    · by_cases ha : b = D
      · subst ha; exact .inl hD1
      · rw [Hp.set_ne ha] at e; exact .inr ⟨q, e, id⟩

end
end
section
open PySem PySem.W PySem.Calls PyProof.Rows

theorem assign_list {prog : Program} {w : World} {A : Around} {E : Value → Shared → Prop} {s : Shared} {env : Env} {elts : List Expr} {k : Nat} {pos : Pos} {l : Addr} {items : Array Value} {Q : Unit → Shared → Prop} (hh : A.handled = none) (hl : s.heap.IsList l items)
    (hn : (assignEach elts env).length = items.size) (hstar : (assignEach elts env).findIdx? (·.1) = none)
    (h : ∀ h', Heap.ExtBut s.heap.objs.size s.heap h' → wpAny (model prog w) A (assignInOrder ((assignEach elts env).map (·.2)) items.toList) Q E { s with heap := h' }) :
    wpAny (model prog w) A (assign (.Tuple elts k pos) env (.ref l)) Q E s := by
  rw [arm_assign_Tuple]
  refine wpAny_bind (wpAny_standAt ?_)
  unfold unpack
  rw [hn, hstar]
  exact wpAny_bind (wpAny_holding (kun_itemsOf hh hl h))

section
variable {c : Cx} {A : Around} {f : Fm} {m : List (Str × V)} {H : Hp} {N : List (Str × V) → Hp → Prop} {R : V → Hp → Prop}
theorem EX_unpackL4 {x y z v : Str} {px py pz pv tpos pos : Pos} {k : Nat} {value : Expr} (hh : A.handled = none)
    (h : EV c A f value m H (fun u H1 => ∃ t w a b d g, u = .ref t ∧ H1 t = some ⟨w, false, [a, b, d, g]⟩ ∧ N (put (put (put (put m x a) y b) z d) v g) H1))
    (hx : f.env.kindOf x = some .local := by with_unfolding_all rfl) (hy : f.env.kindOf y = some .local := by with_unfolding_all rfl) (hz : f.env.kindOf z = some .local := by with_unfolding_all rfl) (hv : f.env.kindOf v = some .local := by with_unfolding_all rfl) (hk : f.sc.kind = .function := by with_unfolding_all rfl)
    (hs : swapsWithSole [.Tuple [.Name x px, .Name y py, .Name z pz, .Name v pv] k tpos] value pos.line f.env = pure false := by with_unfolding_all rfl) (hw : swappedStores [.Tuple [.Name x px, .Name y py, .Name z pz, .Name v pv] k tpos] value f.env = pure none := by with_unfolding_all rfl) :
    EX c A f (exec (.Assign [.Tuple [.Name x px, .Name y py, .Name z pz, .Name v pv] k tpos] value pos) f.env) m H N R := fun s S => by
  refine Assign_Tuple (h.use S fun _ _ _ s1 r1 S1 T1 q1 => ?_) hs hw
  obtain ⟨t, w, a, b, d, g, e1, e, q⟩ := q1
  subst e1; cases r1
  obtain ⟨us, n, ru, hl⟩ := S1.isList e
  cases ru with | cons ra ru => cases ru with | cons rb ru => cases ru with | cons rd ru => cases ru with | cons rg ru =>
  cases ru
  refine assign_list hh ⟨_, hl, rfl, n, rfl⟩ rfl rfl fun h' he => ?_
  refine aio_cons (assign_Name (SN_store ra (S1.ext he) hx hk fun s2 S2 T2 => aio_cons (assign_Name (SN_store rb S2 hy hk fun s3 S3 T3 => aio_cons (assign_Name (SN_store rd S3 hz hk fun s4 S4 T4 => aio_cons (assign_Name (SN_store rg S4 hv hk fun s5 S5 T5 => aio_nil ?_))))))))
  exact ⟨_, _, S5, T1.trans ((SC.ext he).trans (T2.trans (T3.trans (T4.trans T5)))), q⟩
end

variable {e : Ev} {A : Around} {H : Hp}

theorem iv_inj : ∀ {xs ys : List Int}, iv xs = iv ys → xs = ys
  | [], [], _ => rfl
  | [], _ :: _, h => by cases h
  | _ :: _, [], h => by cases h
  | x :: xs, y :: ys, h => by
    have h : V.int x :: iv xs = V.int y :: iv ys := h
    injection h with h1 h2
    injection h1 with h1
    rw [h1, iv_inj h2]
theorem Num.inj {w n k : Nat} {H : Hp} {v : V} (hw : 0 < w) (a : Num w H v n) (b : Num w H v k) : n = k := by
  obtain ⟨r, rfl, ⟨w1, x⟩⟩ := a
  obtain ⟨r2, e, ⟨w2, y⟩⟩ := b
  cases e
  rw [x] at y
  injection y with y
  injection y with _ _ y
  have h1 := lim_val hw n
  rw [iv_inj y, lim_val hw k] at h1
  exact (Int.ofNat.inj h1).symm

theorem ok_leads {w F : Nat} {v1 : V} {a b m1 n1 p1 q1 c1 d1 : Nat} (hw : 0 < w) (hw9 : w ≤ 20) (O : e.c.Ok) (hA : Rm A 3) (hS : St w H v1 m1 n1 p1 q1 c1 d1) (u : Rch F a b m1 n1 p1 q1 c1 d1) (hF : 0 < F) (la : a < 2 ^ 20) (lb : b < 2 ^ 20) :
    PURE e.c A 264 [v1, .int a, .int b, .int w] H (fun v H' => v = .bool true) := by
  obtain ⟨r, vm, _, _, rfl, at_, hM, ⟨rc, rfl, hc⟩, ⟨rd, rfl, hd⟩⟩ := hS.up up_fr
  refine PURE_of (fun v H1 H2 h n => n) ?_
  refine CALL_enterC [Str.ofString "state", Str.ofString "first", Str.ofString "second", Str.ofString "w"] [(Str.ofString "state", .ref r), (Str.ofString "first", .int a), (Str.ofString "second", .int b)] (Str.ofString "w") (.int w)
    O hA.room rfl rfl (fun us hl => ?_) rfl (fun L => rfl) (by decide) (fun us ru x => ?_) (fun us ru => ?_) (fun L e' uc hp hww rv hcell O' => ?_)
  · obtain ⟨x1, x2, x3, x4, rfl⟩ := len4 hl; rfl
  · cases ru with | cons r1 ru => cases ru with | cons r2 ru => cases ru with | cons r3 ru => cases ru with | cons r4 ru =>
    cases ru
    show MR _ (if x = Str.ofString "second" then some _ else if x = Str.ofString "first" then some _ else if x = Str.ofString "state" then some _ else none)
    unfold lkp
    by_cases h1 : x = Str.ofString "state"
    · subst h1
      rw [if_pos rfl, if_neg (by decide), if_neg (by decide), if_pos rfl]
      exact .some r1
    · rw [if_neg h1]
      unfold lkp
      by_cases h2 : x = Str.ofString "first"
      · subst h2
        rw [if_pos rfl, if_neg (by decide), if_pos rfl]
        exact .some r2
      · rw [if_neg h2]
        unfold lkp
        by_cases h3 : x = Str.ofString "second"
        · subst h3
          rw [if_pos rfl, if_pos rfl]
          exact .some r3
        · rw [if_neg h3]
          exact .none
  · cases ru with | cons r1 ru => cases ru with | cons r2 ru => cases ru with | cons r3 ru => cases ru with | cons r4 ru =>
    cases ru
    refine ⟨_, r4, ?_⟩
    with_unfolding_all rfl
  have hh := hA.h
  generalize fr H = H at *
  obtain ⟨w1, at_⟩ := at_
  obtain ⟨⟨bm, bn, bp, bq⟩, bc, bd⟩ := u.bound hF
  obtain ⟨rm, x1, x2, x3, x4, rfl, ⟨w2, am⟩, n1', n2', n3', n4'⟩ := hM
  refine EX_cons ?_
  refine EX_unpackL4 hh ?_
  refine EV_compT hh (fun v y => ∀ n, Num w H v n → n < 2 ^ 40 → y = .int n) ?_
  refine EV_tup (k := 0) (by with_unfolding_all rfl) at_ (by decide) rfl ?_
  refine ⟨rm, w2, _, rfl, am, by simp, fun C v' hv' => ?_, fun y ys hy hp => ?_⟩
  · have hv : ∃ k, Num w H v' k ∧ k < 2 ^ 40 := by
      simp only [List.mem_cons, List.not_mem_nil, or_false] at hv'
      rcases hv' with h | h | h | h <;> subst h
      · exact ⟨m1, n1', by walk_at "om"⟩
      · exact ⟨n1, n2', by walk_at "om"⟩
      · exact ⟨p1, n3', by walk_at "om"⟩
      · exact ⟨q1, n4', by walk_at "om"⟩
    obtain ⟨k, nk, lk⟩ := hv
    have nk0 := nk
    obtain ⟨rn, rfl, hrn⟩ := nk
    refine d_law_whole O' ?_
    refine EVl_cons ?_
    refine EV_local (by with_unfolding_all rfl) ?_
    refine EVl_cons ?_
    refine EV_cell hcell rv ?_
    refine EVl_nil ?_
    refine ok_whole hw hw9 O' (hA.deeper.le (by walk_at "om")) (up_fr _ _ _ hrn) lk _ ?_
    rintro _ H2 _ rfl
    intro n nn _
    rw [nk0.inj hw nn]
  · have s0 : Sub H (H.set y ⟨true, false, ys⟩) := Sub.set hy
    obtain ⟨y1, y2, y3, y4, rfl, g1, g2, g3, g4⟩ : ∃ y1 y2 y3 y4, ys = [y1, y2, y3, y4] ∧ (∀ n, Num w H x1 n → n < 2 ^ 40 → y1 = .int n) ∧ (∀ n, Num w H x2 n → n < 2 ^ 40 → y2 = .int n) ∧ (∀ n, Num w H x3 n → n < 2 ^ 40 → y3 = .int n) ∧ (∀ n, Num w H x4 n → n < 2 ^ 40 → y4 = .int n) := by
      cases hp with | cons z1 hp => cases hp with | cons z2 hp => cases hp with | cons z3 hp => cases hp with | cons z4 hp =>
      cases hp
      exact ⟨_, _, _, _, rfl, z1, z2, z3, z4⟩
    have g1 := g1 m1 n1' (by walk_at "om")
    have g2 := g2 n1 n2' (by walk_at "om")
    have g3 := g3 p1 n3' (by walk_at "om")
    have g4 := g4 q1 n4' (by walk_at "om")
    subst g1; subst g2; subst g3; subst g4
    clear hp
    refine ⟨y, _, _, _, _, _, rfl, Hp.set_same, ?_⟩
    have at1 := s0 _ _ at_
    have hc := hc.sub s0
    have hd := hd.sub s0
    generalize H.set y ⟨true, false, [.int m1, .int n1, .int p1, .int q1]⟩ = H1 at *
    refine EX_cons ?_
    refine EX_swap2 hh ?_
    refine EVl_cons ?_
    refine d_law_whole O' ?_
    refine EVl_cons ?_
    refine EV_tup (k := 1) (by with_unfolding_all rfl) at1 (by decide) rfl ?_
    refine EVl_cons ?_
    refine EV_cell hcell rv ?_
    refine EVl_nil ?_
    refine ok_whole hw hw9 O' (hA.deeper.le (by walk_at "om")) hc (by walk_at "om") _ ?_
    rintro _ H2 s2 rfl
    refine EVl_cons ?_
    refine d_law_whole O' ?_
    refine EVl_cons ?_
    refine EV_tup (k := 2) (by with_unfolding_all rfl) (s2 _ _ at1) (by decide) rfl ?_
    refine EVl_cons ?_
    refine EV_cell hcell rv ?_
    refine EVl_nil ?_
    refine ok_whole hw hw9 O' (hA.deeper.le (by walk_at "om")) (hd.sub s2) (by walk_at "om") _ ?_
    rintro _ H3 s3 rfl
    refine EVl_nil ?_
    refine ⟨_, _, rfl, ?_⟩
    have e1 := u.e1
    have e2 := u.e2
    have dt := u.det
    refine EX_cons ?_
    refine EX_return ?_
    refine EV_and2 ?_
    refine EV_eq ?_
    repeat' walk_at "mv"
    refine ⟨_, _, rfl, rfl, ⟨by walk_at "om", by walk_at "om"⟩, ?_⟩
    repeat' walk_at "mv"
    refine ⟨_, _, rfl, rfl, ⟨by walk_at "om", by walk_at "om"⟩, ?_⟩
    repeat' walk_at "mv"
    have b1 : ((m1 : Int) * q1 - n1 * p1 == 1) = true := by
      rw [beq_iff_eq, ← Int.natCast_mul, ← Int.natCast_mul, dt]; walk_at "om"
    have b2 : ((m1 : Int) * c1 + n1 * d1 == a) = true := by
      rw [beq_iff_eq, ← Int.natCast_mul, ← Int.natCast_mul, ← Int.natCast_add, e1]
    have b3 : ((p1 : Int) * c1 + q1 * d1 == b) = true := by
      rw [beq_iff_eq, ← Int.natCast_mul, ← Int.natCast_mul, ← Int.natCast_add, e2]
    refine ⟨_, rfl, fun _ => ?_, fun h => (by rw [b1] at h; cases h)⟩
    refine EV_and2 ?_
    refine EV_eq ?_
    repeat' walk_at "mv"
    refine ⟨_, _, rfl, rfl, ⟨by walk_at "om", by walk_at "om"⟩, ?_⟩
    repeat' walk_at "mv"
    refine ⟨_, _, rfl, rfl, ⟨by walk_at "om", by walk_at "om"⟩, ?_⟩
    repeat' walk_at "mv"
    refine ⟨_, rfl, fun _ => ?_, fun h => (by rw [b2] at h; cases h)⟩
    refine EV_and1 ?_
    refine EV_eq ?_
    repeat' walk_at "mv"
    refine ⟨_, _, rfl, rfl, ⟨by walk_at "om", by walk_at "om"⟩, ?_⟩
    repeat' walk_at "mv"
    refine ⟨_, _, rfl, rfl, ⟨by walk_at "om", by walk_at "om"⟩, ?_⟩
    repeat' walk_at "mv"
    rw [b3]
    exact ⟨s0.trans (s2.trans s3), rfl⟩
end
section
open PySem PySem.W PySem.Calls PyProof.Rows PySem.SeqAt

/-! ## data that are compared -/
/-- the value is the datum d -/
def DV (H : Hp) (v : V) (d : PyData) : Prop := ∀ c s u, HS c H s → VR v u → ∃ as, Reads s.heap u d as
def DVs (H : Hp) (vs : List V) (ds : List PyData) : Prop := ∀ c s us, HS c H s → VsR vs us → ∃ as, ReadsAll s.heap us ds as
abbrev dN (w n : Nat) : PyData := .list ((lim w n).map PyData.int)
abbrev dM (w m n p q : Nat) : PyData := .tuple [dN w m, dN w n, dN w p, dN w q]
abbrev dS (w m n p q a b : Nat) : PyData := .tuple [dM w m n p q, dN w a, dN w b]

theorem VsR.ints : ∀ {xs : List Int} {us : List Value}, VsR (iv xs) us → IntsAre us xs
  | [], _, r => by
    cases (show VsR [] _ from r)
    exact .nil
  | x :: xs, _, r => by
    cases (show VsR (V.int x :: iv xs) _ from r) with | cons r1 r2 =>
    cases r1
    exact .cons _ _ (VsR.ints r2)
theorem ints_VsR : ∀ {xs : List Int} {us : List Value}, IntsAre us xs → VsR (iv xs) us
  | _, _, .nil => .nil
  | _, _, .cons _ _ r => .cons .int (ints_VsR r)
theorem DV.num {w n : Nat} {H : Hp} {v : V} (h : Num w H v n) : DV H v (dN w n) := fun c s u S r => by
  obtain ⟨a, rfl, w1, e⟩ := h
  obtain ⟨us, k, ru, hl⟩ := S.isList e
  cases r
  exact ⟨_, reads_of_ints ⟨_, hl, rfl, k, rfl⟩ ru.ints⟩
theorem DVs.nil {H : Hp} : DVs H [] [] := fun c s us S r => by cases r; exact ⟨_, .nil⟩
theorem DVs.cons {H : Hp} {v : V} {vs : List V} {d : PyData} {ds : List PyData} (h : DV H v d) (hs : DVs H vs ds) : DVs H (v :: vs) (d :: ds) := fun c s us S r => by
  cases r with | cons r1 r2 =>
  obtain ⟨as, x⟩ := h c s _ S r1
  obtain ⟨bs, y⟩ := hs c s _ S r2
  exact ⟨_, .cons x y⟩
theorem DV.tuple {H : Hp} {r : Addr} {vs : List V} {ds : List PyData} (h : At H r true vs) (hs : DVs H vs ds) : DV H (.ref r) (.tuple ds) := fun c s u S q => by
  obtain ⟨w1, e⟩ := h
  obtain ⟨us, k, ru, hl⟩ := S.isTup e
  cases q
  obtain ⟨as, x⟩ := hs c s _ S ru
  exact ⟨_, Reads.tuple hl rfl rfl (by simpa using x)⟩
theorem DV.mat {w m n p q : Nat} {H : Hp} {v : V} (h : Mat w H v m n p q) : DV H v (dM w m n p q) := by
  obtain ⟨r, v1, v2, v3, v4, rfl, ha, h1, h2, h3, h4⟩ := h
  exact .tuple ha (.cons (.num h1) (.cons (.num h2) (.cons (.num h3) (.cons (.num h4) .nil))))
theorem DV.st {w m n p q a b : Nat} {H : Hp} {v : V} (h : St w H v m n p q a b) : DV H v (dS w m n p q a b) := by
  obtain ⟨r, v1, v2, v3, rfl, ha, h1, h2, h3⟩ := h
  exact .tuple ha (.cons (.mat h1) (.cons (.num h2) (.cons (.num h3) .nil)))
theorem sh_num (w n : Nat) : shaped (dN w n) = true := shaped_ints _
theorem sh_st (w m n p q a b : Nat) : shaped (dS w m n p q a b) = true := by
  have h1 := fun n => PySem.W.depthAll_ints (lim w n)
  have c1 := fun n => canLayAll0_ints (lim w n)
  refine Bool.and_eq_true_iff.mpr ⟨?_, decide_eq_true ?_⟩
  · simp [PyData.canLay0, PyData.canLayAll0, c1]
  · have g1 := h1 m
    have g2 := h1 n
    have g3 := h1 p
    have g4 := h1 q
    have g5 := h1 a
    have g6 := h1 b
    simp only [PyData.depth, PyData.depthAll]
    walk_at "om"

section
variable {c : Cx} {A : Around} {f : Fm} {m : List (Str × V)} {H : Hp}
theorem TV_neD {l r : Expr} {pos : Pos} {Q : Bool → Hp → Prop} (hu : A.units + 64 < cLine) (h : EV c A f l m H (fun a H1 => EV c A f r m H1 (fun b H2 => ∃ d, shaped d = true ∧ DV H2 a d ∧ DV H2 b d ∧ Q false H2)))
    (hm : behindInMarks .NotEq r = false := by with_unfolding_all rfl) : TV c A f (.Compare l [.NotEq] [r] pos) m H Q := fun _ S =>
  wpAny_isTrue_Compare1 (h.uses S fun _ _ _ _ r1 S1 T1 q1 => q1.uses S1 fun _ _ _ _ r2 S2 T2 q2 => by
    obtain ⟨d, sh, da, db, q⟩ := q2
    obtain ⟨as, ra⟩ := da _ _ _ S2.toHS r1
    obtain ⟨bs, rb⟩ := db _ _ _ S2.toHS r2
    refine ne_dataH ra rb sh sh hu ?_
    rw [eqv_refl d (canLay_of_shaped sh)]
    exact wpAny_truthy_bool ⟨_, _, rfl, S2, T1.trans T2, q⟩) hm
theorem EV_eqD {l r : Expr} {pos : Pos} {Q : V → Hp → Prop} (hu : A.units + 64 < cLine) (h : EV c A f l m H (fun a H1 => EV c A f r m H1 (fun b H2 => ∃ d, shaped d = true ∧ DV H2 a d ∧ DV H2 b d ∧ Q (.bool true) H2)))
    (hm : behindInMarks .Eq r = false := by with_unfolding_all rfl) : EV c A f (.Compare l [.Eq] [r] pos) m H Q := fun _ S =>
  wpAny_Compare1 (h.uses S fun _ _ _ _ r1 S1 T1 q1 => q1.uses S1 fun _ _ _ _ r2 S2 T2 q2 => by
    obtain ⟨d, sh, da, db, q⟩ := q2
    obtain ⟨as, ra⟩ := da _ _ _ S2.toHS r1
    obtain ⟨bs, rb⟩ := db _ _ _ S2.toHS r2
    refine eq_dataH ra rb sh sh hu ?_
    rw [eqv_refl d (canLay_of_shaped sh)]
    exact ⟨_, _, .bool, S2, T1.trans T2, q⟩) hm

/-- value[:k] of a list that stood in the start heap -/
theorem EV_uptoS {Q : V → Hp → Prop} {value hi : Expr} {p pos : Pos} {l : Addr} {xs : List V} {us : List Value} (hs : c.hs.IsList l us.toArray) (ru : VsR xs us) (hn : xs.length ≤ 4096)
    (h : EV c A f value m H (fun v H1 => EV c A f hi m H1 (fun b H2 => ∃ k : Nat, v = .ref l ∧ b = .int k ∧ ∀ a, H2 a = none → Q (.ref a) (H2.set a ⟨false, false, xs.take k⟩))))
    (ht : ∀ o r, letTemporaryGo value o r = pure () := by intro _ _; with_unfolding_all rfl) : EV c A f (.Subscript value (.Slice none (some hi) none p) pos) m H Q := fun s S => by
  refine wpAny_Subscript_list_slice (h.uses S fun _ _ _ s1 r1 S1 T1 q1 => wpAny_evalPart_none (wpAny_evalPart_some (q1.uses S1 fun _ _ _ s2 r2 S2 T2 q2 => ?_))) ht
  obtain ⟨k, e1, e2, q⟩ := q2
  subst e1; subst e2; cases r1; cases r2
  obtain ⟨o, ho, hc, n, hd⟩ := hs
  have hz := ru.length
  refine ⟨l, us.toArray, none, some (k : Int), rfl, ⟨o, S2.keeps _ _ ho, hc, n, hd⟩, by rw [List.size_toArray, hz]; exact Nat.le_trans hn (by decide), .none, .int _ _, ?_⟩
  rw [slicePick_upto' us.toArray k]
  exact slice_fin (l := l) S2 (T1.trans T2) (ru.take k) q

variable {Q : V → Hp → Prop}
/-- a comprehension over a list -/
theorem EV_compL {elt iter : Expr} {x : Str} {px : Pos} {scope : Scope} {cl : List (Str × Addr)} {pos : Pos} (hh : A.handled = none) (G : V → V → Prop)
    (h : EV c A f iter m H (fun v H1 => ∃ t w xs, v = .ref t ∧ H1 t = some ⟨w, false, xs⟩ ∧ xs.length ≤ 4096 ∧ (∀ C v', v' ∈ xs → EV c A (f.comp scope cl C) elt [(x, v')] (fr H1) (fun y _ => G v' y)) ∧
      ∀ a ys, H1 a = none → Paired G xs ys → Q (.ref a) (H1.set a ⟨true, false, ys⟩)))
    (hclos : closureFor scope f.env = pure cl := by with_unfolding_all rfl) (hcell : (scope.names.all fun y => y.2 != .cell) = true := by decide) (hkind : scope.kind = .function := by with_unfolding_all rfl)
    (hnames : (scope.names.all fun y => y.2 != .local || scope.names.lookup y.1 == some .local) = true := by decide) (hx : scope.names.lookup x = some .local := by with_unfolding_all rfl) (hs : ∀ x, foldedSetIterable iter f.env x = pure x := by intro _; with_unfolding_all rfl) :
    EV c A f (.ListComp elt [⟨.Name x px, iter, [], 0⟩] scope pos) m H Q := fun s S => by
  refine wpAny_ListComp_free (env := f.env) (fun _ => true) (fun v y => ∃ v' y', VR v' v ∧ VR y' y ∧ G v' y') hclos (fun y hy => by simpa using List.all_eq_true.mp hcell y hy) hkind (fun y hy hl => by simpa [hl] using List.all_eq_true.mp hnames y hy) hx (h.uses S fun v u H1 s1 r1 S1 T1 q1 => ?_) hs
  obtain ⟨t, w, xs, e1, e, hn, helt, q⟩ := q1
  subst e1; cases r1
  obtain ⟨us, n, ru, hl⟩ := S1.isList e
  have ht : s1.heap.IsList t us.toArray := ⟨_, hl, rfl, n, rfl⟩
  refine wpAny_pyIter_list ht ?_
  have hne : t ≠ s1.heap.objs.size := Nat.ne_of_lt (Heap.lt_size hl)
  have kp : ∀ b o, s1.heap.get? b = some o → (s1.heap.push { cls := .type "list_iterator", data := .fields #[.ref t, .int 0 0] }).get? b = some o := fun b o e => Heap.get?_push_of_some _ e
  have hsz : (s1.heap.push { cls := .type "list_iterator", data := .fields #[.ref t, .int 0 0] }).objs.size = s1.heap.objs.size + 1 := Heap.size_push ..
  have hit : (s1.heap.push { cls := .type "list_iterator", data := .fields #[.ref t, .int 0 0] }).IsListIter s1.heap.objs.size t 0 := ⟨_, Heap.get?_push_size _ rfl, rfl, rfl⟩
  have hit2 : (s1.heap.push { cls := .type "list_iterator", data := .fields #[.ref t, .int 0 0] }).IsList t us.toArray := ⟨_, kp _ _ hl, rfl, n, rfl⟩
  have hlen := ru.length
  refine ⟨s1.heap.objs.size, _, _, _, _, _, rfl, Walks.list hh s1.heap.objs.size t hne us.toArray, by rw [List.size_toArray, hlen]; exact Nat.le_trans hn (by decide), ⟨hit, hit2⟩, ?_, ⟨?_, ?_⟩, ?_⟩
  · intro b hb
    simp only [List.mem_cons, List.not_mem_nil, or_false] at hb
    show b < (s1.heap.push _).objs.size
    rw [hsz]
    rcases hb with hb | hb
    · subst hb; exact Nat.lt_succ_self _
    · subst hb; exact Nat.lt_succ_of_lt (Heap.lt_size hl)
  · intro C i v s3 m3 E' _ _ _ _ _ _
    exact wpAny_pure ⟨rfl, s3.heap, s3.toks, rfl, fun _ _ e => e⟩
  · intro C i u' s3 m3 E' hC hP _ hn3 hx3 hk3 _
    have hP : us[i]? = some u' := by simpa using hP
    have hi : i < us.length := by
      rcases Nat.lt_or_ge i us.length with q | q
      · exact q
      · rw [List.getElem?_eq_none q] at hP; cases hP
    obtain ⟨v', hv', rv'⟩ : ∃ v', v' ∈ xs ∧ VR v' u' := by
      clear hn helt q hlen hl ht hit2 e hi
      induction ru generalizing i with
      | nil => simp at hP
      | @cons a as b bs r rs ih =>
        cases i with
        | zero =>
          simp at hP; subst hP
          exact ⟨a, List.mem_cons_self, r⟩
        | succ j =>
          obtain ⟨v', h1, h2⟩ := ih (i := j) (by simpa using hP) (by simpa using hP)
          exact ⟨v', List.mem_cons_of_mem _ h1, h2⟩
    have hC' : s1.heap.objs.size ≤ C := by
      have : (s1.heap.push { cls := .type "list_iterator", data := .fields #[.ref t, .int 0 0] }).objs.size ≤ C := hC
      rw [hsz] at this; exact Nat.le_of_succ_le this
    exact comp_elt (L := f.L) S1.toHS (fun b o e => hk3 b o (by simp only [List.mem_singleton]; exact Nat.ne_of_lt (Heap.lt_size e)) (kp b o e)) hC' hn3 hx3 rv' (helt C v' hv')
  · intro D h' tk ys vs hD hl' hpl hvl hP hF hk
    have hvs : vs = us := by
      refine List.ext_getElem? fun j => ?_
      cases e1 : vs[j]? with
      | some v => have := hP j v e1; simpa using this.symm
      | none =>
        have h1 := List.getElem?_eq_none_iff.mp e1
        rw [List.getElem?_eq_none (by simpa [hvl] using h1)]
    rw [List.filter_eq_self.mpr (fun _ _ => rfl), hvs] at hF
    obtain ⟨zs, rz, gz⟩ := pair_back ru hF
    have hk2 : ∀ b o, s1.heap.get? b = some o → h'.get? b = some o := fun b o e => hk b o (by simp only [List.mem_singleton]; exact Nat.ne_of_lt (Heap.lt_size e)) (kp b o e)
    have hD1 : s1.heap.get? D = none := by
      cases e1 : s1.heap.get? D with
      | none => rfl
      | some o => have := kp D o e1; rw [show (s1.heap.push _).get? D = none from hD] at this; cases this
    have Sg : FS c f.L m H1 { s1 with heap := h', toks := tk } := S1.grow hk2
    have nD := S1.fresh hD1
    obtain ⟨n', hd'⟩ := hpl
    have hLD : f.L ≠ D := fun q => by
      obtain ⟨mm, ⟨o, es, ep, hh', r⟩, _⟩ := S1.ns
      rw [q, hD1] at hh'; cases hh'
    refine ⟨.ref D, H1.set D ⟨true, false, zs⟩, .ref, ⟨⟨fun a o ea => ?_, fun a o ea hw => ?_, Sg.keeps⟩, Sg.ns, by rw [Hp.set_ne hLD]; exact S1.hL, S1.hsL⟩, T1.trans ⟨rfl, fun b o _ _ e => hk2 b o e, fun b o e => ⟨o, hk2 b o e⟩, fun b q e => ?_⟩, q D zs nD gz⟩
    · by_cases ha : a = D
      · subst ha; rw [Hp.set_same] at ea; cases ea
        exact ⟨ys.toList, n', rz, by simpa using hd'⟩
      · rw [Hp.set_ne ha] at ea; exact Sg.obj a o ea
    · by_cases ha : a = D
      · subst ha; exact S1.freshS hD1
      · rw [Hp.set_ne ha] at ea; exact S1.wr a o ea hw
    · by_cases ha : b = D
      · subst ha; exact .inl hD1
      · rw [Hp.set_ne ha] at e; exact .inr ⟨q, e, id⟩

end

section
variable {e : Ev} {A : Around} {f : Fm} {m : List (Str × V)} {H : Hp} {Q : V → Hp → Prop} {np pos : Pos} {x : Expr}
theorem g_int (P : Params) : nsIn (Kf P) mainGlobals (Str.ofString "int") = some none := by rfl
theorem d_int (O : e.c.Ok) (h : EV e.c A f x m H (fun a H1 => ∃ i, a = .int i ∧ Q (.int i) H1))
    (hf : f.sc.kind = .function := by with_unfolding_all rfl) (hx : f.env.kindOf (Str.ofString "int") = some .globalImplicit := by with_unfolding_all rfl)
    (he : starEach [x] f.env = [(false, eval x f.env)] := by with_unfolding_all rfl) : EV e.c A f (.Call (.Name (Str.ofString "int") np) [x] [] pos) m H Q :=
  EV_typ O (g_int _) boot_int (EVl_cons (h.mono fun _ _ ⟨i, ea, q⟩ => EVl_nil fun us ru => by subst ea; exact SM_intT q ru) he) (by decide) hf hx (by decide) he rfl
end

/-! ## the loaf: a list that is cut -/
structure Lf (H0 H : Hp) (D l : Addr) (cs : List Int) (i : Nat) : Prop where
  s : Sub H0 H
  n : H0 D = none
  d : H D = some ⟨true, false, [.int i, .ref l]⟩
  l : At H l false (iv cs)
  c : cs.length ≤ 100

theorem Lf.ne {H0 H : Hp} {D l : Addr} {cs : List Int} {i : Nat} (h : Lf H0 H D l cs i) : l ≠ D := fun q => by
  obtain ⟨w, e⟩ := h.l
  rw [q, h.d] at e
  injection e with e
  injection e with _ _ e
  have e : [V.int i, V.ref l] = iv cs := e
  match cs, e with
  | [a, b], e =>
    injection e with _ e
    injection e with e
    cases e

theorem ok_cut2 {e : Ev} {A : Around} {H0 H : Hp} {Q : V → Hp → Prop} {D l : Addr} {i : Nat} {cs : List Int} {many : Int} (O : e.c.Ok) (hA : Rm A 1) (h : Lf H0 H D l cs i) (hi : i < 100) (M : Nat) (hm : many = M) (h0 : 0 < M)
    (k : ∀ (x : Nat) H', x < M → Lf H0 H' D l cs (i + 1) → Q (.int x) H') : CALL e.c A 238 [.ref D, .int many] H Q := by
  subst hm
  refine ok_cut O hA h.d h.l h.ne (by walk_at "om") h.c (by walk_at "om") fun x x0 x1 => ?_
  obtain ⟨y, rfl⟩ := Int.eq_ofNat_of_zero_le x0
  have hl : At (H.set D ⟨true, false, [.int (i + 1 : Nat), .ref l]⟩) l false (iv cs) := by
    obtain ⟨w, e⟩ := h.l
    exact ⟨w, by rw [Hp.set_ne h.ne]; exact e⟩
  refine k y _ (by walk_at "om") ⟨fun a o e => ?_, h.n, Hp.set_same, hl, h.c⟩
  rw [Hp.set_ne (fun q => by rw [q, h.n] at e; cases e)]
  exact h.s a o e
end
section
open PySem PySem.W PySem.Calls PyProof.Rows PySem.SeqAt

theorem intBits_bl (n : Nat) : Builtin.Int.intBits (n : Int) = bl n := by
  unfold Builtin.Int.intBits bl
  cases n with
  | zero => rfl
  | succ k =>
    have h : ((k + 1 : Nat) : Int) ≠ 0 := by walk_at "om"
    rw [if_neg (by simpa using h), if_neg (Nat.succ_ne_zero k)]
    rfl

variable {e : Ev} {A : Around} {H : Hp}

theorem all_ints {G : V → V → Prop} (hG : ∀ v y, G v y → ∃ j, y = .int j) : ∀ {xs ys : List V}, Paired G xs ys → ∃ cs : List Int, ys = iv cs ∧ cs.length = xs.length
  | _, _, .nil => ⟨[], rfl, rfl⟩
  | _, _, .cons g t => by
    obtain ⟨j, rfl⟩ := hG _ _ g
    obtain ⟨cs, rfl, h⟩ := all_ints hG t
    exact ⟨j :: cs, rfl, by simp [h]⟩

theorem gcd_keeps {F a b m n p q c d : Nat} (u : Rch F a b m n p q c d) : Nat.gcd c d = Nat.gcd a b := by
  have e1 := u.e1
  have e2 := u.e2
  have dt := u.det
  refine Nat.dvd_antisymm (Nat.dvd_gcd ?_ ?_) (Nat.dvd_gcd ?_ ?_)
  · rw [← e1]
    exact Nat.dvd_add (Nat.dvd_trans (Nat.gcd_dvd_left c d) (Nat.dvd_mul_left c m)) (Nat.dvd_trans (Nat.gcd_dvd_right c d) (Nat.dvd_mul_left d n))
  · rw [← e2]
    exact Nat.dvd_add (Nat.dvd_trans (Nat.gcd_dvd_left c d) (Nat.dvd_mul_left c p)) (Nat.dvd_trans (Nat.gcd_dvd_right c d) (Nat.dvd_mul_left d q))
  · have h : q * a = n * b + c := by
      rw [← e1, ← e2]
      have h1 : q * (m * c + n * d) = (m * q) * c + q * n * d := by grind
      have h2 : n * (p * c + q * d) = (n * p) * c + q * n * d := by grind
      rw [h1, h2, dt, Nat.add_mul]; walk_at "om"
    refine (Nat.dvd_add_right (Nat.dvd_trans (Nat.gcd_dvd_right a b) (Nat.dvd_mul_left b n))).mp ?_
    rw [← h]
    exact Nat.dvd_trans (Nat.gcd_dvd_left a b) (Nat.dvd_mul_left a q)
  · have h : m * b = p * a + d := by
      rw [← e1, ← e2]
      have h1 : m * (p * c + q * d) = (m * q) * d + p * m * c := by grind
      have h2 : p * (m * c + n * d) = (n * p) * d + p * m * c := by grind
      rw [h1, h2, dt, Nat.add_mul]; walk_at "om"
    refine (Nat.dvd_add_right (Nat.dvd_trans (Nat.gcd_dvd_left a b) (Nat.dvd_mul_left a p))).mp ?_
    rw [← h]
    exact Nat.dvd_trans (Nat.gcd_dvd_right a b) (Nat.dvd_mul_left b m)

theorem bl_mono {a b : Nat} (h : a ≤ b) : bl a ≤ bl b := by
  rcases Nat.lt_or_ge (bl b) (bl a) with q | q
  · have h1 := bl_gt.mp q
    have h2 := bl_lt b
    walk_at "om"
  · exact q
theorem bl_max (a b : Nat) : bl (max a b) = max (bl a) (bl b) := by
  rcases Nat.le_total a b with h | h
  · have := bl_mono h
    rw [Nat.max_eq_right h, Nat.max_eq_right this]
  · have := bl_mono h
    rw [Nat.max_eq_left h, Nat.max_eq_left this]
theorem lim1 {w : Nat} (hw : 0 < w) : iv (lim w 1) = [.int 1] := by rw [lim_one hw (by decide) (Nat.one_lt_two_pow (by walk_at "om"))]; rfl
theorem lim0 {w : Nat} : iv (lim w 0) = [] := by rw [lim_zero]; rfl

/-- the names from the loop on -/
abbrev lm (w one other hf : Nat) (least : Int) (ra rb : Addr) (vs : V) (x y : Nat) : List (Str × V) := [(Str.ofString "w", .int w), (Str.ofString "one", .int one), (Str.ofString "other", .int other), (Str.ofString "half", .int hf), (Str.ofString "least", .int least),
  (Str.ofString "floor", .int (2 ^ hf : Nat)), (Str.ofString "a", .ref ra), (Str.ofString "b", .ref rb), (Str.ofString "state", vs), (Str.ofString "x", .int x), (Str.ofString "y", .int y)]

set_option maxHeartbeats 4000000 in
theorem law_body {rs : Addr} {us : List Value} {ns : List Int} (O : e.c.Ok) (hA : Rm A 60) (hu : A.units + 64 < cLine) (hr : e.hs.IsList rs us.toArray) (hI : IntsAre us ns) (hn : ns.length ≤ 100) (hU : ∀ w, 0 < w → Mat w H (.ref 119) 1 0 0 1) :
    ∃ nm qual params body sc dV kV doc pm an cdv ct oc od osl, e.c.K.lookup 269 = some ⟨oc, od, .func (fnOf nm qual params body sc dV kV doc pm an cdv ct), osl⟩ ∧
      ∀ L a cd, EX e.c A (Fm.of qual sc L a cd) (execs body (Fm.of qual sc L a cd).env) [(Str.ofString "script", .ref rs)] H (fun _ _ => False) (fun v _ => v = .bool true) := by
  refine ⟨_, _, _, _, _, _, _, _, _, _, _, _, _, _, _, rfl, fun L fa cd => ?_⟩
  have hh := hA.h
  refine EX_cut (fun m H1 => ∃ D l cs, m = [(Str.ofString "script", .ref rs), (Str.ofString "loaf", .ref D)] ∧ Lf H H1 D l cs 0) ?_ ?_
  · refine EX_assign ?_
    refine EV_list ?_
    refine EVl_cons ?_
    refine EV_int ?_
    refine EVl_cons ?_
    refine EV_compL hh (fun _ y => ∃ j, y = .int j) ?_
    refine EV_uptoS hr (ints_VsR hI) (by rw [iv_len]; walk_at "om") ?_
    refine EV_local (by with_unfolding_all rfl) ?_
    refine EV_int ?_
    refine ⟨6, rfl, rfl, fun t ht => ?_⟩
    have st := Sub.set (o := ⟨false, false, (iv ns).take 6⟩) ht
    refine ⟨t, _, _, rfl, Hp.set_same, by rw [List.length_take]; walk_at "om", fun C v' hv' => ?_, fun y ys hy hp => ?_⟩
    · rw [iv_take] at hv'
      obtain ⟨i, _, rfl⟩ := List.mem_map.mp hv'
      refine d_abs O ?_
      refine d_int O ?_
      refine EV_local (by with_unfolding_all rfl) ?_
      exact ⟨i, rfl, i, rfl, _, rfl⟩
    · obtain ⟨cs, rfl, hl⟩ := all_ints (fun _ _ h => h) hp
      have sy := Sub.set (o := ⟨true, false, iv cs⟩) hy
      refine EVl_nil ?_
      refine ⟨by simp, fun z hz => ?_⟩
      have sz := Sub.set (o := ⟨true, false, [.int 0, .ref y]⟩) hz
      refine ⟨z, y, cs, by with_unfolding_all rfl, st.trans (sy.trans sz), ?_, Hp.set_same, ⟨true, sz _ _ Hp.set_same⟩, ?_⟩
      · cases q : H z with
        | none => rfl
        | some o => rw [sy _ _ (st _ _ q)] at hz; cases hz
      · rw [hl, List.length_take]; walk_at "om"
  rintro m H1 ⟨D, l, cs, rfl, l1⟩
  refine EX_cut (fun m H2 => ∃ w k : Nat, (5 ≤ w ∧ w ≤ 9) ∧ (6 ≤ k ∧ k ≤ 15) ∧ m = [(Str.ofString "script", .ref rs), (Str.ofString "loaf", .ref D), (Str.ofString "k", .int k), (Str.ofString "w", .int w)] ∧ Lf H H2 D l cs 2) ?_ ?_
  · refine EX_swap2 hh ?_
    refine EVl_cons ?_
    refine EV_add ?_
    refine EV_int ?_
    refine d_law_cut O ?_
    repeat' walk_at "mv"
    refine ok_cut2 O (hA.le (by walk_at "om")) l1 (by walk_at "om") 5 rfl (by decide) ?_
    intro x H2 hx l2
    repeat' walk_at "mv"
    refine ok_cut2 O (hA.le (by walk_at "om")) l2 (by walk_at "om") 10 rfl (by decide) ?_
    intro y H3 hy l3
    repeat' walk_at "mv"
    exact ⟨_, _, rfl, 5 + x, 6 + y, by walk_at "om", by walk_at "om", by with_unfolding_all rfl, l3⟩
  rintro m H2 ⟨w, k, hw, hk, rfl, l2⟩
  clear l1
  have hP : 2 ^ k ≤ 2 ^ 15 := Nat.pow_le_pow_right (by decide) hk.2
  have hP0 := Nat.two_pow_pos k
  have hQ : 2 ^ (k / 2 + 1) ≤ 2 ^ 8 := Nat.pow_le_pow_right (by decide) (by walk_at "om")
  have hQ0 := Nat.two_pow_pos (k / 2 + 1)
  refine EX_cut (fun m H3 => ∃ one : Nat, (0 < one ∧ one < 2 ^ 17) ∧ m = [(Str.ofString "script", .ref rs), (Str.ofString "loaf", .ref D), (Str.ofString "k", .int k), (Str.ofString "w", .int w), (Str.ofString "one", .int one)] ∧ Lf H H3 D l cs 3) ?_ ?_
  · refine EX_assign ?_
    refine EV_add ?_
    refine EV_pow ?_
    repeat' walk_at "mv"
    refine ⟨_, k, rfl, rfl, ⟨by walk_at "om", by decide⟩, ?_⟩
    repeat' walk_at "mv"
    refine ⟨_, k, rfl, rfl, ⟨by walk_at "om", by decide⟩, ?_⟩
    repeat' walk_at "mv"
    refine ok_cut2 O (hA.le (by walk_at "om")) l2 (by walk_at "om") (2 ^ k) (pow_cast k) hP0 ?_
    intro x H3 hx l3
    refine ⟨_, _, rfl, rfl, ⟨by walk_at "om", by walk_at "om"⟩, ?_⟩
    repeat' walk_at "mv"
    refine ⟨_, k, rfl, rfl, ⟨by walk_at "om", by decide⟩, ?_⟩
    refine ⟨_, _, rfl, rfl, B_pos k, ?_⟩
    repeat' walk_at "mv"
    have hm := Nat.mod_lt (977 * x) hP0
    have e : ((2 : Int) ^ k + 977 * (x : Int) % 2 ^ k) = ((2 ^ k + 977 * x % 2 ^ k : Nat) : Int) := by rw [pow_cast]; rfl
    refine ⟨2 ^ k + 977 * x % 2 ^ k, ?_, ?_, l3⟩
    · generalize 977 * x % 2 ^ k = r at *
      walk_at "om"
    · rw [← e]; with_unfolding_all rfl
  rintro m H3 ⟨one, ho, rfl, l3⟩
  clear l2
  refine EX_cut (fun m H4 => ∃ other : Nat, (0 < other ∧ other < 2 ^ 17) ∧ m = [(Str.ofString "script", .ref rs), (Str.ofString "loaf", .ref D), (Str.ofString "k", .int k), (Str.ofString "w", .int w), (Str.ofString "one", .int one), (Str.ofString "other", .int other)] ∧ Lf H H4 D l cs 4) ?_ ?_
  · refine EX_assign ?_
    refine EV_add ?_
    refine EV_pow ?_
    repeat' walk_at "mv"
    refine ⟨_, _, rfl, rfl, by decide, ?_⟩
    repeat' walk_at "mv"
    refine ⟨_, k / 2 + 1, rfl, congrArg V.int (by walk_at "om"), ⟨by walk_at "om", by decide⟩, ?_⟩
    repeat' walk_at "mv"
    refine ⟨_, k, rfl, rfl, ⟨by walk_at "om", by decide⟩, ?_⟩
    repeat' walk_at "mv"
    refine ok_cut2 O (hA.le (by walk_at "om")) l3 (by walk_at "om") (2 ^ k) (pow_cast k) hP0 ?_
    intro x H4 hx l4
    refine ⟨_, _, rfl, rfl, ⟨by walk_at "om", by walk_at "om"⟩, ?_⟩
    repeat' walk_at "mv"
    refine ⟨_, k, rfl, rfl, ⟨by walk_at "om", by decide⟩, ?_⟩
    refine ⟨_, _, rfl, rfl, B_pos k, ?_⟩
    repeat' walk_at "mv"
    have hm := Nat.mod_lt (977 * x) hP0
    have e : ((2 : Int) ^ (k / 2 + 1) + 977 * (x : Int) % 2 ^ k) = ((2 ^ (k / 2 + 1) + 977 * x % 2 ^ k : Nat) : Int) := by rw [pow_cast, pow_cast]; rfl
    refine ⟨2 ^ (k / 2 + 1) + 977 * x % 2 ^ k, ?_, ?_, l4⟩
    · generalize 977 * x % 2 ^ k = r at *
      generalize 2 ^ (k / 2 + 1) = r at *
      walk_at "om"
    · rw [← e]; with_unfolding_all rfl
  rintro m H4 ⟨other, ht, rfl, l4⟩
  clear l3
  refine EX_cut (fun m H5 => ∃ one other : Nat, (0 < one ∧ one < 2 ^ 17) ∧ (0 < other ∧ other < 2 ^ 17) ∧ m = [(Str.ofString "script", .ref rs), (Str.ofString "loaf", .ref D), (Str.ofString "k", .int k), (Str.ofString "w", .int w), (Str.ofString "one", .int one), (Str.ofString "other", .int other)] ∧ Lf H H5 D l cs 5) ?_ ?_
  · refine EX_if2 (fun _ H5 => Lf H H5 D l cs 5) ?_ ?_ ?_
    · refine TV_eq ?_
      refine d_law_cut O ?_
      repeat' walk_at "mv"
      refine ok_cut2 O (hA.le (by walk_at "om")) l4 (by walk_at "om") 2 rfl (by decide) ?_
      intro x H5 hx l5
      refine EV_int ?_
      exact ⟨_, _, rfl, rfl, trivial, l5⟩
    · intro H5 l5
      refine EX_cons ?_
      refine EX_swap2 hh ?_
      repeat' walk_at "mv"
      exact ⟨_, _, rfl, EX_nil ⟨other, one, ht, ho, by with_unfolding_all rfl, l5⟩⟩
    · intro H5 l5
      exact EX_nil ⟨one, other, ho, ht, rfl, l5⟩
  clear ho ht l4
  rintro m H5 ⟨one, other, ho, ht, rfl, l5⟩
  have hw0 : 0 < w := by walk_at "om"
  have hw9 : w ≤ 20 := by walk_at "om"
  clear hP hP0 hQ hQ0
  obtain ⟨hf, hfe⟩ : ∃ hf, hf = max (bl one) (bl other) / 2 + 1 := ⟨_, rfl⟩
  have b1 : bl one ≤ 17 := bl_le ho.2
  have b2 : bl other ≤ 17 := bl_le ht.2
  refine EX_cut (fun m H6 => ∃ least : Int, m = [(Str.ofString "script", .ref rs), (Str.ofString "loaf", .ref D), (Str.ofString "k", .int k), (Str.ofString "w", .int w), (Str.ofString "one", .int one), (Str.ofString "other", .int other), (Str.ofString "half", .int hf), (Str.ofString "least", .int least)] ∧ Sub H H6) ?_ ?_
  · refine EX_swap2 hh ?_
    refine EVl_cons ?_
    refine EV_add ?_
    refine EV_int ?_
    refine d_law_cut O ?_
    repeat' walk_at "mv"
    refine ok_cut2 O (hA.le (by walk_at "om")) l5 (by walk_at "om") 24 rfl (by decide) ?_
    intro x H6 hx l6
    repeat' walk_at "mv"
    refine EV_bitlen ?_
    refine d_max O hh ?_
    repeat' walk_at "mv"
    have e1 : (if (other : Int) > (one : Int) then (other : Int) else (one : Int)) = ((max one other : Nat) : Int) := by split <;> walk_at "om"
    refine ⟨_, congrArg V.int e1, ?_⟩
    rw [intBits_bl, bl_max]
    repeat' walk_at "mv"
    refine ⟨_, _, rfl, rfl, by decide, ?_⟩
    repeat' walk_at "mv"
    have e2 : (((max (bl one) (bl other) : Nat) : Int) / 2 + 1) = (hf : Int) := by walk_at "om"
    refine ⟨_, _, rfl, 1 + (x : Int), ?_, l6.s⟩
    rw [e2]
    with_unfolding_all rfl
  rintro m H6 ⟨least, rfl, s6⟩
  clear l5
  refine EX_cut (fun m H7 => ∃ ra rb, m = [(Str.ofString "script", .ref rs), (Str.ofString "loaf", .ref D), (Str.ofString "k", .int k), (Str.ofString "w", .int w), (Str.ofString "one", .int one), (Str.ofString "other", .int other), (Str.ofString "half", .int hf), (Str.ofString "least", .int least), (Str.ofString "floor", .int (2 ^ hf : Nat)), (Str.ofString "b", .ref rb), (Str.ofString "a", .ref ra)] ∧ Sub H H7 ∧ At H7 ra false (iv (lim w one)) ∧ At H7 rb false (iv (lim w other))) ?_ ?_
  · refine EX_swap3 hh ?_
    repeat' walk_at "mv"
    refine ok_limbs hw0 hw9 O (hA.le (by walk_at "om")) (by walk_at "om") _ ?_
    rintro _ H7 s7 ⟨ra, rfl, ha⟩
    repeat' walk_at "mv"
    refine ok_limbs hw0 hw9 O (hA.le (by walk_at "om")) (by walk_at "om") _ ?_
    rintro _ H8 s8 ⟨rb, rfl, hb⟩
    repeat' walk_at "mv"
    refine ⟨_, hf, rfl, rfl, ⟨by walk_at "om", by decide⟩, ?_⟩
    repeat' walk_at "mv"
    rw [pow_cast]
    exact ⟨_, _, _, rfl, ra, rb, by with_unfolding_all rfl, s6.trans (s7.trans s8), ha.sub s8, hb⟩
  rintro m H7 ⟨ra, rb, rfl, s7, ha, hb⟩
  clear s6
  refine EX_cut (fun m H8 => ∃ vs, Le (lm w one other hf least ra rb vs one other) m ∧ Sub H7 H8 ∧ St w H8 vs 1 0 0 1 one other) ?_ ?_
  · with_reducible refine EX_swap3 hh ?_
    with_reducible refine EVl_cons ?_
    with_reducible refine EV_tuple ?_
    with_reducible refine EVl_cons ?_
    with_reducible refine EV_tuple ?_
    with_reducible refine EVl_cons ?_
    with_reducible refine EV_list ?_
    with_reducible refine EVl_cons ?_
    with_reducible refine EV_int ?_
    with_reducible refine EVl_nil ?_
    refine ⟨by simp, fun r1 z1 => ?_⟩
    with_reducible refine EVl_cons ?_
    with_reducible refine EV_list ?_
    with_reducible refine EVl_nil ?_
    refine ⟨by simp, fun r2 z2 => ?_⟩
    with_reducible refine EVl_cons ?_
    with_reducible refine EV_list ?_
    with_reducible refine EVl_nil ?_
    refine ⟨by simp, fun r3 z3 => ?_⟩
    with_reducible refine EVl_cons ?_
    with_reducible refine EV_list ?_
    with_reducible refine EVl_cons ?_
    with_reducible refine EV_int ?_
    with_reducible refine EVl_nil ?_
    refine ⟨by simp, fun r4 z4 => ?_⟩
    with_reducible refine EVl_nil ?_
    refine ⟨by simp, fun t1 z5 => ?_⟩
    repeat' walk_at "mv"
    refine ⟨by simp, fun t2 z6 => ?_⟩
    repeat' walk_at "mv"
    have t1' := Sub.set (o := ⟨true, false, [.int 1]⟩) z1
    have t2' := Sub.set (o := ⟨true, false, []⟩) z2
    have t3' := Sub.set (o := ⟨true, false, []⟩) z3
    have t4' := Sub.set (o := ⟨true, false, [.int 1]⟩) z4
    have t5' := Sub.set (o := ⟨false, true, [.ref r1, .ref r2, .ref r3, .ref r4]⟩) z5
    have t6' := Sub.set (o := ⟨false, true, [.ref t1, .ref ra, .ref rb]⟩) z6
    have u5 := t5'.trans t6'
    have u4 := t4'.trans u5
    have u3 := t3'.trans u4
    have u2 := t2'.trans u3
    have u1 := t1'.trans u2
    have n1 : Num w (H7.set r1 ⟨true, false, [.int 1]⟩) (.ref r1) 1 := ⟨r1, rfl, by rw [lim1 hw0]; exact At.set⟩
    have n2 : Num w ((H7.set r1 ⟨true, false, [.int 1]⟩).set r2 ⟨true, false, []⟩) (.ref r2) 0 := ⟨r2, rfl, by rw [lim0]; exact At.set⟩
    have n3 : Num w (((H7.set r1 ⟨true, false, [.int 1]⟩).set r2 ⟨true, false, []⟩).set r3 ⟨true, false, []⟩) (.ref r3) 0 := ⟨r3, rfl, by rw [lim0]; exact At.set⟩
    have n4 : Num w ((((H7.set r1 ⟨true, false, [.int 1]⟩).set r2 ⟨true, false, []⟩).set r3 ⟨true, false, []⟩).set r4 ⟨true, false, [.int 1]⟩) (.ref r4) 1 := ⟨r4, rfl, by rw [lim1 hw0]; exact At.set⟩
    refine ⟨_, _, _, rfl, .ref t2, .of ⟨by with_unfolding_all rfl, by with_unfolding_all rfl, by with_unfolding_all rfl, by with_unfolding_all rfl, by with_unfolding_all rfl, by with_unfolding_all rfl, by with_unfolding_all rfl, by with_unfolding_all rfl, by with_unfolding_all rfl, by with_unfolding_all rfl, by with_unfolding_all rfl, trivial⟩, u1, ?_⟩
    exact ⟨t2, .ref t1, .ref ra, .ref rb, rfl, At.set, ⟨t1, _, _, _, _, rfl, At.set.sub t6', n1.sub u2, n2.sub u3, n3.sub u4, n4.sub u5⟩, ⟨ra, rfl, ha.sub u1⟩, ⟨rb, rfl, hb.sub u1⟩⟩
  rintro m H8 ⟨vs, hm, s8, S8⟩
  refine EX_weak ?_ hm
  clear hm
  have s7 := s7.trans s8
  have ha := ha.sub s8
  have hb := hb.sub s8
  clear s8
  have hF0 := Nat.two_pow_pos hf
  have hf9 : hf ≤ 9 := by walk_at "om"
  have hF9 : 2 ^ hf ≤ 2 ^ 9 := Nat.pow_le_pow_right (by decide) hf9
  have ba : max (bl one) (bl other) ≤ 17 := by walk_at "om"
  -- the loop
  refine EX_cut (fun m H9 => JR0 (fun vs c d => lm w one other hf least ra rb vs c d) H8 w (HG one other) m H9) ?_ ?_
  · refine EX_if2 (fun b' H9 => Sub H8 H9 ∧ (b' = true → 2 ^ hf ≤ one ∧ 2 ^ hf ≤ other) ∧ (b' = false → min (bl one) (bl other) ≤ hf)) ?_ ?_ ?_
    · refine TV_ge ?_
      refine d_min O hh ?_
      repeat' walk_at "mv"
      refine ⟨.refl, fun h => ?_, fun h => ?_⟩
      · have h := of_decide_eq_true h
        split at h <;> walk_at "om"
      · have h := of_decide_eq_false h
        have g1 := @bl_gt hf one
        have g2 := @bl_gt hf other
        split at h <;> walk_at "om"
    · rintro H9 ⟨s9, h9, _⟩
      obtain ⟨Fa, Fb⟩ := h9 rfl
      have hmin : hf < min (bl one) (bl other) := by
        have g1 := bl_gt.mpr Fa
        have g2 := bl_gt.mpr Fb
        walk_at "om"
      have R0 := Rch.id Fa Fb
      have S9 := S8.sub s9
      refine EX_cut (fun m H9 => JR (fun vs c d => lm w one other hf least ra rb vs c d) H8 w (Rch (2 ^ hf) one other) (fun c d => gap c d < 2 ^ hf) m H9) ?_ ?_
      · refine EX_while2 (fun k m H' => JR (fun vs c d => lm w one other hf least ra rb vs c d) H8 w (Rch (2 ^ hf) one other) (fun c d => k = c + d) m H')
          (fun k m H' b' => JR (fun vs c d => lm w one other hf least ra rb vs c d) H8 w (Rch (2 ^ hf) one other) (fun c d => k = c + d ∧ (b' = true → 2 ^ hf ≤ gap c d) ∧ (b' = false → gap c d < 2 ^ hf)) m H')
          (n0 := one + other) ⟨vs, 1, 0, 0, 1, one, other, rfl, s9, S9, R0, rfl⟩ ?_ ?_ ?_
        · rintro k m H' ⟨vs, m1, n, p, q, c, d, rfl, s1, S1, R1, rfl⟩
          refine TV_ge ?_
          refine d_abs O ?_
          repeat' walk_at "mv"
          refine ⟨_, rfl, ?_⟩
          repeat' walk_at "mv"
          refine ⟨vs, m1, n, p, q, c, d, rfl, s1, S1, R1, rfl, fun h => ?_, fun h => ?_⟩
          · have h := of_decide_eq_true h
            unfold gap
            split at h <;> walk_at "om"
          · have h := of_decide_eq_false h
            unfold gap
            split at h <;> walk_at "om"
        · rintro k m H' ⟨vs, m1, n, p, q, c, d, rfl, s1, S1, R1, rfl, g, _⟩
          have g := g rfl
          have bnd := R1.bound hF0
          have less := next_less R1 g
          have Fc := R1.hc
          have Fd := R1.hd
          refine EX_cut (fun m H2 => ∃ V m2 n2 p2 q2, m = lm w one other hf least ra rb V c d ∧ Sub H8 H2 ∧ St w H2 V m2 n2 p2 q2 (nextc (2 ^ hf) c d) (nextd (2 ^ hf) c d) ∧ Rch (2 ^ hf) one other m2 n2 p2 q2 (nextc (2 ^ hf) c d) (nextd (2 ^ hf) c d)) ?_ ?_
          · refine EX_assign ?_
            refine d_one_step O ?_
            repeat' walk_at "mv"
            refine EV_glob O (g_mul_school _) ?_
            repeat' walk_at "mv"
            refine EV_glob O (g_divrem_school _) ?_
            repeat' walk_at "mv"
            refine ok_onestep hw0 hw9 O (hA.le (by walk_at "om")) S1 R1 g (by walk_at "om") (by walk_at "om") _ ?_
            rintro V H2 s2 ⟨m2, n2, p2, q2, S2, R2⟩
            exact ⟨V, m2, n2, p2, q2, by with_unfolding_all rfl, s1.trans s2, S2, R2⟩
          rintro m H2 ⟨V, m2, n2, p2, q2, rfl, s2, S2, R2⟩
          clear S1 s1
          have bnd2 := R2.bound hF0
          refine EX_cut (fun m H3 => m = lm w one other hf least ra rb V (nextc (2 ^ hf) c d) (nextd (2 ^ hf) c d) ∧ Sub H2 H3) ?_ ?_
          · refine EX_if2 (fun b' H3 => b' = decide (d < c) ∧ Sub H2 H3) ?_ ?_ ?_
            · refine TV_gt ?_
              repeat' walk_at "mv"
              refine ⟨?_, .refl⟩
              exact decide_eq_decide.mpr (by walk_at "om")
            · rintro H3 ⟨h, s3⟩
              have h := of_decide_eq_true h.symm
              refine EX_cons ?_
              refine EX_assign ?_
              repeat' walk_at "mv"
              refine ⟨_, _, rfl, rfl, by walk_at "om", ?_⟩
              repeat' walk_at "mv"
              have e : (((2 ^ hf : Nat) : Int) + ((c : Int) - (2 ^ hf : Nat)) % (d : Int)) = ((2 ^ hf + (c - 2 ^ hf) % d : Nat) : Int) := by
                rw [← Int.ofNat_sub Fc]; rfl
              refine ⟨?_, s3⟩
              unfold nextc nextd
              rw [if_pos h, if_pos h, e]
              with_unfolding_all rfl
            · rintro H3 ⟨h, s3⟩
              have h := of_decide_eq_false h.symm
              refine EX_cons ?_
              refine EX_assign ?_
              repeat' walk_at "mv"
              refine ⟨_, _, rfl, rfl, by walk_at "om", ?_⟩
              repeat' walk_at "mv"
              have e : (((2 ^ hf : Nat) : Int) + ((d : Int) - (2 ^ hf : Nat)) % (c : Int)) = ((2 ^ hf + (d - 2 ^ hf) % c : Nat) : Int) := by
                rw [← Int.ofNat_sub Fd]; rfl
              refine ⟨?_, s3⟩
              unfold nextc nextd
              rw [if_neg h, if_neg h, e]
              with_unfolding_all rfl
          rintro m H3 ⟨rfl, s3⟩
          have s2 := s2.trans s3
          have S2 := S2.sub s3
          clear s3
          generalize nextc (2 ^ hf) c d = c' at *
          generalize nextd (2 ^ hf) c d = d' at *
          -- both numbers are what the law makes of them
          refine EX_cut (fun m H4 => m = lm w one other hf least ra rb V c' d' ∧ Sub H3 H4) ?_ ?_
          · refine EX_if2 (fun b' H4 => b' = false ∧ Sub H3 H4) ?_ ?_ ?_
            · obtain ⟨r, vm, _, _, rfl, ⟨w1, at_⟩, hM, ⟨rc, rfl, hc⟩, ⟨rd, rfl, hd⟩⟩ := S2
              refine TV_bools ?_
              refine TB_or ?_
              refine TV_neD hu ?_
              refine EV_tup (k := 1) (by with_unfolding_all rfl) at_ (by decide) rfl ?_
              refine d_law_limbs O ?_
              repeat' walk_at "mv"
              refine ok_limbs hw0 hw9 O (hA.le (by walk_at "om")) (by walk_at "om") _ ?_
              rintro V2 H4 s4 n4
              refine ⟨_, sh_num _ _, .num ⟨rc, rfl, hc.sub s4⟩, .num n4, fun h => (by cases h), fun _ => ?_⟩
              refine TB_or ?_
              refine TV_neD hu ?_
              refine EV_tup (k := 2) (by with_unfolding_all rfl) (s4 _ _ at_) (by decide) rfl ?_
              refine d_law_limbs O ?_
              repeat' walk_at "mv"
              refine ok_limbs hw0 hw9 O (hA.le (by walk_at "om")) (by walk_at "om") _ ?_
              rintro V3 H5 s5 n5
              refine ⟨_, sh_num _ _, .num ⟨rd, rfl, hd.sub (s4.trans s5)⟩, .num n5, fun h => (by cases h), fun _ => ?_⟩
              refine TB_or_nil ?_
              exact ⟨rfl, s4.trans s5⟩
            · rintro H4 ⟨h, _⟩
              cases h
            · rintro H4 ⟨_, s4⟩
              exact EX_nil ⟨rfl, s4⟩
          rintro m H4 ⟨rfl, s4⟩
          have s2 := s2.trans s4
          have S2 := S2.sub s4
          clear s4
          refine EX_cut (fun m H5 => m = lm w one other hf least ra rb V c' d' ∧ Sub H4 H5) ?_ ?_
          · refine EX_if2 (fun b' H5 => b' = false ∧ Sub H4 H5) ?_ ?_ ?_
            · refine TV_bools ?_
              refine TB_or ?_
              refine TV_not ?_
              refine TV_value ?_
              refine d_law_leads_back O ?_
              repeat' walk_at "mv"
              refine ok_leads hw0 hw9 O (hA.le (by walk_at "om")) S2 R2 hF0 (by walk_at "om") (by walk_at "om") _ ?_
              rintro _ H5 s5 rfl
              refine ⟨true, rfl, fun h => (by cases h), fun _ => ?_⟩
              refine TB_or ?_
              refine TV_ne ?_
              refine d_law_shared O ?_
              repeat' walk_at "mv"
              refine ok_shared O (hA.le (by walk_at "om")) _ ?_
              rintro _ H6 s6 rfl
              repeat' walk_at "mv"
              refine ok_shared O (hA.le (by walk_at "om")) _ ?_
              rintro _ H7 s7' rfl
              rw [gcd_keeps R2]
              refine ⟨_, _, rfl, rfl, trivial, fun h => ?_, fun _ => ?_⟩
              · simp at h
              · refine TB_or_nil ?_
                exact ⟨rfl, s5.trans (s6.trans s7')⟩
            · rintro H5 ⟨h, _⟩
              cases h
            · rintro H5 ⟨_, s5⟩
              exact EX_nil ⟨rfl, s5⟩
          rintro m H5 ⟨rfl, s5⟩
          refine EX_nil ?_
          exact ⟨_, less, V, m2, n2, p2, q2, c', d', rfl, s2.trans s5, S2.sub s5, R2, rfl⟩
        · rintro k m H' ⟨vs, m1, n, p, q, c, d, rfl, s1, S1, R1, rfl, _, g⟩
          exact ⟨vs, m1, n, p, q, c, d, rfl, s1, S1, R1, g rfl⟩
      rintro m H9 ⟨vs, m1, n, p, q, c, d, rfl, s1, S1, R1, g⟩
      refine EX_nil ?_
      refine ⟨vs, m1, n, p, q, c, d, rfl, s1, S1, .inr ⟨?_, ?_, ?_⟩⟩
      · walk_at "om"
      · rw [← hfe]; exact R1
      · rw [← hfe]; exact g
    · rintro H9 ⟨s9, _, h9⟩
      refine EX_nil ?_
      exact ⟨vs, 1, 0, 0, 1, one, other, rfl, s9, S8.sub s9, .inl ⟨by have := h9 rfl; walk_at "om", rfl, rfl, rfl, rfl, rfl, rfl⟩⟩
  clear S8
  rintro m H9 ⟨vs, m1, n, p, q, c, d, rfl, s9, S9, G9⟩
  have s7 := s7.trans s9
  have ha := ha.sub s9
  have hb := hb.sub s9
  clear s9
  have half : HalfOk e w 17 := ok_half hw0 hw9 O 17
  -- half_gcd by halves
  refine EX_cut (fun m H' => m = lm w one other hf least ra rb vs c d ∧ Sub H9 H') ?_ ?_
  · refine EX_if2 (fun b' H' => b' = false ∧ Sub H9 H') ?_ ?_ ?_
    · refine TV_neD hu ?_
      refine d_half_gcd O ?_
      repeat' walk_at "mv"
      refine EV_glob O (g_mul_school _) ?_
      repeat' walk_at "mv"
      refine EV_glob O (g_divrem_school _) ?_
      repeat' walk_at "mv"
      refine half least (hA.le (by walk_at "om")) ha hb (by walk_at "om") (by walk_at "om") ba ((hU w hw0).sub s7) _ ?_
      rintro V1 H1 s1 ⟨x1, x2, x3, x4, x5, x6, S1, G1⟩
      obtain ⟨rfl, rfl, rfl, rfl, rfl, rfl⟩ := G9.uniq G1
      repeat' walk_at "mv"
      exact ⟨_, sh_st _ _ _ _ _ _ _, .st S1, .st (S9.sub s1), rfl, s1⟩
    · rintro H1 ⟨h, _⟩
      cases h
    · rintro H1 ⟨_, s1⟩
      exact EX_nil ⟨rfl, s1⟩
  rintro m H1 ⟨rfl, s1⟩
  have s7 := s7.trans s1
  have ha := ha.sub s1
  have hb := hb.sub s1
  have S9 := S9.sub s1
  clear s1
  refine EX_cons ?_
  refine EX_return ?_
  refine EV_and2 ?_
  refine EV_eqD hu ?_
  refine d_half_gcd O ?_
  repeat' walk_at "mv"
  refine EV_glob O (g_mul_school _) ?_
  repeat' walk_at "mv"
  refine EV_glob O (g_divrem_school _) ?_
  repeat' walk_at "mv"
  refine half 99 (hA.le (by walk_at "om")) ha hb (by walk_at "om") (by walk_at "om") ba ((hU w hw0).sub s7) _ ?_
  rintro V1 H2 s1 ⟨x1, x2, x3, x4, x5, x6, S1, G1⟩
  obtain ⟨rfl, rfl, rfl, rfl, rfl, rfl⟩ := G9.uniq G1
  repeat' walk_at "mv"
  refine ⟨_, sh_st _ _ _ _ _ _ _, .st S1, .st (S9.sub s1), true, rfl, fun _ => ?_, fun h => (by cases h)⟩
  refine EV_and2 ?_
  refine EV_eqD hu ?_
  repeat' walk_at "mv"
  refine ok_limbs hw0 hw9 O (hA.le (by walk_at "om")) (by walk_at "om") _ ?_
  rintro V2 H3 s2 n2
  refine ⟨_, sh_num _ _, .num ⟨ra, rfl, ha.sub (s1.trans s2)⟩, .num n2, true, rfl, fun _ => ?_, fun h => (by cases h)⟩
  refine EV_and1 ?_
  refine EV_eqD hu ?_
  repeat' walk_at "mv"
  refine ok_limbs hw0 hw9 O (hA.le (by walk_at "om")) (by walk_at "om") _ ?_
  rintro V3 H4 s3 n3
  exact ⟨_, sh_num _ _, .num ⟨rb, rfl, hb.sub (s1.trans (s2.trans s3))⟩, .num n3, rfl⟩
end
section
open PySem PySem.W PySem.Calls PyProof.Rows PySem.SeqAt

/-- what is tracked at the start: UNIT -/
def H0 : Hp := fun a => if a = 119 then some ⟨false, true, [.ref 115, .ref 116, .ref 117, .ref 118]⟩ else if a = 115 ∨ a = 118 then some ⟨false, false, [.int 1]⟩ else if a = 116 ∨ a = 117 then some ⟨false, false, []⟩ else none

theorem H0_at {a : Addr} {o : HO} (e : H0 a = some o) : o.w = false ∧ ((a = 119 ∧ o = ⟨false, true, [.ref 115, .ref 116, .ref 117, .ref 118]⟩) ∨ ((a = 115 ∨ a = 118) ∧ o = ⟨false, false, [.int 1]⟩) ∨ ((a = 116 ∨ a = 117) ∧ o = ⟨false, false, []⟩)) := by
  unfold H0 at e
  split at e
  · cases e; exact ⟨rfl, .inl ⟨by assumption, rfl⟩⟩
  · split at e
    · cases e; exact ⟨rfl, .inr (.inl ⟨by assumption, rfl⟩)⟩
    · split at e
      · cases e; exact ⟨rfl, .inr (.inr ⟨by assumption, rfl⟩)⟩
      · cases e

theorem H0_or {P : Params} {h : Heap} (K : (Kf P).In h) {a : Addr} {o : HO} (e : H0 a = some o) : OR o h a := by
  obtain ⟨_, ⟨rfl, rfl⟩ | ⟨rfl | rfl, rfl⟩ | ⟨rfl | rfl, rfl⟩⟩ := H0_at e
  · exact ⟨[.ref 115, .ref 116, .ref 117, .ref 118], _, .cons .ref (.cons .ref (.cons .ref (.cons .ref .nil))), K 119 _ rfl⟩
  · exact ⟨[.int 1 _], _, .cons .int .nil, K 115 _ rfl⟩
  · exact ⟨[.int 1 _], _, .cons .int .nil, K 118 _ rfl⟩
  · exact ⟨[], _, .nil, K 116 _ rfl⟩
  · exact ⟨[], _, .nil, K 117 _ rfl⟩

theorem H0_unit {w : Nat} (hw : 0 < w) : Mat w H0 (.ref 119) 1 0 0 1 :=
  ⟨119, .ref 115, .ref 116, .ref 117, .ref 118, rfl, ⟨false, rfl⟩, ⟨115, rfl, by rw [lim1 hw]; exact ⟨false, rfl⟩⟩, ⟨116, rfl, by rw [lim0]; exact ⟨false, rfl⟩⟩, ⟨117, rfl, by rw [lim0]; exact ⟨false, rfl⟩⟩, ⟨118, rfl, by rw [lim1 hw]; exact ⟨false, rfl⟩⟩⟩

theorem law_ends {prog p : Program} {w : World} {loose : List Str} {mg mb : Str → Option Value} {s : Shared} {h1 : Heap} {tk : Nat} {rs : Addr} {vals : List Value} {ns : List Int} {A : Around} (fa : Addr) (cd : Value)
    (K : (Kf w.params).In s.heap) (T : TopRead p loose mg mb s.heap) (hL : s.heap.IsList rs vals.toArray) (hI : IntsAre vals ns) (hc : ns.length ≤ 100)
    (F : Fr s.heap s.heap.objs.size h1 fun x => List.lookup x [(Str.ofString "script", Value.ref rs)].reverse) (hA : Rm A 60) (hu : A.units + 64 < cLine) :
    ∃ nm qual params body sc dV kV doc pm an cdv ct oc od osl, (Kf w.params).lookup 269 = some ⟨oc, od, .func (fnOf nm qual params body sc dV kV doc pm an cdv ct), osl⟩ ∧
      wpAny (model prog w) A (execs body (Fm.of qual sc s.heap.objs.size fa cd).env) (fun f s' => f = .ret (.bool true) ∧ (∀ b o, s.heap.get? b = some o → s'.heap.get? b = some o) ∧ s'.os = s.os ∧ s'.gens = s.gens) (fun _ _ => False) { s with heap := h1, toks := tk } := by
  obtain ⟨nm, qual, params, body, sc, dV, kV, doc, pm, an, cdv, ct, oc, od, osl, ho, h⟩ := law_body (e := ⟨prog, w, p, loose, mg, mb, s.heap⟩) (H := H0) (A := A) ⟨K, T⟩ hA hu hL hI hc (fun w hw => H0_unit hw)
  refine ⟨nm, qual, params, body, sc, dV, kV, doc, pm, an, cdv, ct, oc, od, osl, ho, ?_⟩
  have hz : s.heap.get? s.heap.objs.size = none := size_fresh _
  have S0 : FS (⟨prog, w, p, loose, mg, mb, s.heap⟩ : Ev).c s.heap.objs.size [(Str.ofString "script", .ref rs)] H0 { s with heap := h1, toks := tk } :=
    { obj := fun a o e => by
        obtain ⟨us, n, r, x⟩ := H0_or K e
        exact ⟨us, n, r, F.keep _ _ x⟩
      wr := fun a o e hw => by rw [(H0_at e).1] at hw; cases hw
      keeps := fun b o e => F.keep _ _ e
      ns := ⟨_, F.ns, fun x => by
        by_cases q : x = Str.ofString "script"
        · subst q
          have e1 : lkp [(Str.ofString "script", V.ref rs)] (Str.ofString "script") = some (.ref rs) := by with_unfolding_all rfl
          have e2 : List.lookup (Str.ofString "script") [(Str.ofString "script", Value.ref rs)].reverse = some (.ref rs) := by with_unfolding_all rfl
          rw [e1, e2]
          exact .some .ref
        · have e1 : lkp [(Str.ofString "script", V.ref rs)] x = none := by
            unfold lkp
            rw [if_neg q]; rfl
          rw [e1]
          exact .none⟩
      hL := by
        cases q : H0 s.heap.objs.size with
        | none => rfl
        | some o =>
          obtain ⟨us, n, r, x⟩ := H0_or K q
          rw [hz] at x; cases x
      hsL := hz }
  refine wpAny_mono (h s.heap.objs.size fa cd _ S0) (fun f s' hf => ?_) fun _ _ x => x
  match f, hf with
  | .ret v, ⟨v', m', H', rv, S', T', e⟩ =>
    subst e
    cases rv
    refine ⟨rfl, S'.keeps, ?_, ?_⟩
    · rw [T'.same]
    · rw [T'.same]
  | .next, ⟨_, _, _, _, x⟩ => exact x.elim

theorem law_goes {prog p : Program} {w : World} {loose : List Str} {mg mb : Str → Option Value} {s : Shared} {h1 : Heap} {tk : Nat} {rs : Addr} {vals : List Value} {ns : List Int} {A : Around} {fa : Addr} {cd : Value}
    {nm qual : Str} {params : Arguments} {body : List Stmt} {sc : Scope} {dV kV doc pm cdv ct oc : Value} {an od : Option Addr} {osl : Array (Option Value)} {Q : Flow → Shared → Prop} {E : Value → Shared → Prop}
    (ho : (Kf w.params).lookup 269 = some ⟨oc, od, .func (fnOf nm qual params body sc dV kV doc pm an cdv ct), osl⟩)
    (K : (Kf w.params).In s.heap) (T : TopRead p loose mg mb s.heap) (hL : s.heap.IsList rs vals.toArray) (hI : IntsAre vals ns) (hc : ns.length ≤ 100)
    (F : Fr s.heap s.heap.objs.size h1 fun x => List.lookup x [(Str.ofString "script", Value.ref rs)].reverse) (hA : Rm A 60) (hu : A.units + 64 < cLine)
    (k : ∀ s', (∀ b o, s.heap.get? b = some o → s'.heap.get? b = some o) → s'.os = s.os → s'.gens = s.gens → Q (.ret (.bool true)) s') :
    wpAny (model prog w) A (execs body (Fm.of qual sc s.heap.objs.size fa cd).env) Q E { s with heap := h1, toks := tk } := by
  obtain ⟨nm', qual', params', body', sc', dV', kV', doc', pm', an', cdv', ct', oc', od', osl', ho', h⟩ := law_ends (prog := prog) (tk := tk) fa cd K T hL hI hc F hA hu
  rw [ho] at ho'
  injection ho' with ho'
  injection ho' with _ _ ho' _
  injection ho' with ho'
  injection ho' with _ _ _ eb
  injection eb with eb
  subst_vars
  refine wpAny_mono h (fun f s' ⟨h1, h2, h3, h4⟩ => ?_) fun _ _ x => x.elim
  subst h1
  exact k s' h2 h3 h4
theorem caller_rm {env : Env} : Rm (callerA.deeper env) 60 := ⟨rfl, by show callerA.depth + 1 + 60 < recursionLimit; decide⟩
theorem caller_u {env : Env} : (callerA.deeper env).units + 64 < cLine := by show callerA.units + 3 + 64 < cLine; decide
end
end Mine
open PySem PySem.W PyProof.Rows
set_option maxHeartbeats 8000000 in
theorem PySem.Challenge.cw_sj0083_01_holds : PySem.Challenge.rw_sj0083_01.Holds :=
  Mine.hd rfl rfl rfl (by
    intro w s₀ s₁ mg mb G Y fa o pm cd doc dV kV ho hd hcd hD hmg hg args vals as hpre hlay hrd hwl hlo
    have KX := kIn_of Y
    refine Ground.open G ?_
    intro T B D TE TW
    obtain ⟨_, _, he, B0⟩ := based_of_top T rfl hmg ho hd
    have he' : cd = _ := he
    subst he'
    clear he hmg
    wrow_args hpre hlay hrd hwl hlo
    refine enter_call ?_
    w_top on
    refine codeAny_mono ?_ (fun _ _ g => GoodW.toG g)
    w_call any ho hd hcd hD T F
    refine Mine.law_goes rfl (by assumption) (topRead_of (by assumption)) (by assumption) (by assumption) (by omega) (by assumption) Mine.caller_rm Mine.caller_u fun s' h1 h2 h3 => ?_
    exact ⟨.inl ⟨.bool true, .bool true, [], rfl, fun _ => rfl, .bool true, by with_unfolding_all rfl, fun _ => ⟨.nil, by simp⟩⟩, h1, h2, h3.trans (by assumption)⟩)
