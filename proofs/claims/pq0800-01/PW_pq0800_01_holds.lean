import PyProof.Rows.All
import Wide.All
import OpenK.AllK
import Wide.FinOn
import Open.Pieces
import Lean
import PySem.Challenge.RW_pq0800_01
open PySem PySem.W PyProof.Rows PySem.Calls
set_option Elab.async false
set_option linter.unusedVariables false
set_option maxRecDepth 100000
set_option maxHeartbeats 0
namespace Mine
theorem ws : PySem.Challenge.rw_pq0800_01.wellSaid = true := by
  unfold OpenLaw.wellSaid OpenRow.wellSaid OpenRow.partSaid looksOpen
  repeat' (with_reducible refine Bool.and_eq_true_iff.mpr ⟨?_, ?_⟩)
  all_goals decide +kernel
noncomputable def fobj (nm : Str) (params : Arguments) (body : List Stmt) (scope : Scope) (pm : Value) (cd : Addr) : Obj := { cls := .type "function", data := .func (fnOf nm nm params body scope .none .none .none pm none (.ref cd) .none) }
noncomputable def viaDef {nm : Str} {ps : Arguments} {body : List Stmt} {dl : List PySem.Expr} {rt : Option PySem.Expr} {tp : List TypeParam} {sc : Scope} {ts : Option Scope} {bd : Str} {pos : Pos} (s : Option Stmt) (_ : s = some (.FunctionDef nm ps body dl rt tp sc ts bd pos)) (pm : Value) (cd : Addr) : Obj := fobj nm ps body sc pm cd
noncomputable def globs (P : Params) : Obj := { cls := Value.type "dict", data := Data.dict #[{ hash := PyData.keyHash P (Str.ofString "__name__"), key := Value.str (Str.ofString "__name__") 165, val := Value.str (Str.ofString "law_pq0800_01") 721 }, { hash := PyData.keyHash P (Str.ofString "__doc__"), key := Value.str (Str.ofString "__doc__") 166, val := Value.none }, { hash := PyData.keyHash P (Str.ofString "__package__"), key := Value.str (Str.ofString "__package__") 167, val := Value.none }, { hash := PyData.keyHash P (Str.ofString "__loader__"), key := Value.str (Str.ofString "__loader__") 168, val := Value.builtin "__main__.__loader__#opaque" }, { hash := PyData.keyHash P (Str.ofString "__spec__"), key := Value.str (Str.ofString "__spec__") 169, val := Value.none }, { hash := PyData.keyHash P (Str.ofString "__annotations__"), key := Value.str (Str.ofString "__annotations__") 170, val := Value.ref 6 }, { hash := PyData.keyHash P (Str.ofString "__builtins__"), key := Value.str (Str.ofString "__builtins__") 171, val := Value.ref 4 }, { hash := PyData.keyHash P (Str.ofString "__file__"), key := Value.str (Str.ofString "__file__") 173, val := Value.str (Str.ofString "/claim/cut.py") 172 }, { hash := PyData.keyHash P (Str.ofString "__cached__"), key := Value.str (Str.ofString "__cached__") 174, val := Value.none }, { hash := PyData.keyHash P (Str.ofString "PagebaseError"), key := Value.str (Str.ofString "PagebaseError") 217, val := Value.ref 31 }, { hash := PyData.keyHash P (Str.ofString "SqlError"), key := Value.str (Str.ofString "SqlError") 233, val := Value.ref 44 }, { hash := PyData.keyHash P (Str.ofString "TooBigError"), key := Value.str (Str.ofString "TooBigError") 249, val := Value.ref 56 }, { hash := PyData.keyHash P (Str.ofString "MisuseError"), key := Value.str (Str.ofString "MisuseError") 265, val := Value.ref 68 }, { hash := PyData.keyHash P (Str.ofString "MIN_INT"), key := Value.str (Str.ofString "MIN_INT") 272, val := Value.int (-9223372036854775808) 271 }, { hash := PyData.keyHash P (Str.ofString "MAX_INT"), key := Value.str (Str.ofString "MAX_INT") 278, val := Value.int 9223372036854775807 277 }, { hash := PyData.keyHash P (Str.ofString "MOST_OCTETS"), key := Value.str (Str.ofString "MOST_OCTETS") 280, val := Value.int 100000 279 }, { hash := PyData.keyHash P (Str.ofString "STORAGE_RANKS"), key := Value.str (Str.ofString "STORAGE_RANKS") 293, val := Value.ref 71 }, { hash := PyData.keyHash P (Str.ofString "SPACES"), key := Value.str (Str.ofString "SPACES") 295, val := Value.str (Str.ofString " \t\n\x0b\x0c\x0d") 294 }, { hash := PyData.keyHash P (Str.ofString "DIGITS"), key := Value.str (Str.ofString "DIGITS") 297, val := Value.str (Str.ofString "0123456789") 296 }, { hash := PyData.keyHash P (Str.ofString "HEX_DIGITS"), key := Value.str (Str.ofString "HEX_DIGITS") 299, val := Value.str (Str.ofString "0123456789ABCDEF") 298 }, { hash := PyData.keyHash P (Str.ofString "REPLACEMENT"), key := Value.str (Str.ofString "REPLACEMENT") 302, val := Value.str (Str.ofString "�") 301 }, { hash := PyData.keyHash P (Str.ofString "utf8"), key := Value.str (Str.ofString "utf8") 312, val := Value.ref 78 }, { hash := PyData.keyHash P (Str.ofString "lead_of"), key := Value.str (Str.ofString "lead_of") 319, val := Value.ref 85 }, { hash := PyData.keyHash P (Str.ofString "text_of"), key := Value.str (Str.ofString "text_of") 330, val := Value.ref 92 }, { hash := PyData.keyHash P (Str.ofString "code_at"), key := Value.str (Str.ofString "code_at") 343, val := Value.ref 99 }, { hash := PyData.keyHash P (Str.ofString "fold_ascii"), key := Value.str (Str.ofString "fold_ascii") 352, val := Value.ref 106 }, { hash := PyData.keyHash P (Str.ofString "hex_text"), key := Value.str (Str.ofString "hex_text") 361, val := Value.ref 113 }, { hash := PyData.keyHash P (Str.ofString "storage_class"), key := Value.str (Str.ofString "storage_class") 368, val := Value.ref 120 }, { hash := PyData.keyHash P (Str.ofString "collate"), key := Value.str (Str.ofString "collate") 377, val := Value.ref 127 }, { hash := PyData.keyHash P (Str.ofString "sign_of"), key := Value.str (Str.ofString "sign_of") 385, val := Value.ref 134 }, { hash := PyData.keyHash P (Str.ofString "compare_values"), key := Value.str (Str.ofString "compare_values") 397, val := Value.ref 142 }, { hash := PyData.keyHash P (Str.ofString "digits_end"), key := Value.str (Str.ofString "digits_end") 405, val := Value.ref 149 }, { hash := PyData.keyHash P (Str.ofString "number_span"), key := Value.str (Str.ofString "number_span") 415, val := Value.ref 156 }, { hash := PyData.keyHash P (Str.ofString "number_of"), key := Value.str (Str.ofString "number_of") 424, val := Value.ref 163 }, { hash := PyData.keyHash P (Str.ofString "as_integer"), key := Value.str (Str.ofString "as_integer") 433, val := Value.ref 170 }, { hash := PyData.keyHash P (Str.ofString "as_text"), key := Value.str (Str.ofString "as_text") 440, val := Value.ref 177 }, { hash := PyData.keyHash P (Str.ofString "joined"), key := Value.str (Str.ofString "joined") 449, val := Value.ref 184 }, { hash := PyData.keyHash P (Str.ofString "write_literal"), key := Value.str (Str.ofString "write_literal") 457, val := Value.ref 191 }, { hash := PyData.keyHash P (Str.ofString "ANY"), key := Value.str (Str.ofString "ANY") 461, val := Value.int 0 460 }, { hash := PyData.keyHash P (Str.ofString "ONE"), key := Value.str (Str.ofString "ONE") 463, val := Value.int 1 462 }, { hash := PyData.keyHash P (Str.ofString "SIGN"), key := Value.str (Str.ofString "SIGN") 465, val := Value.int 2 464 }, { hash := PyData.keyHash P (Str.ofString "LOT"), key := Value.str (Str.ofString "LOT") 467, val := Value.int 3 466 }, { hash := PyData.keyHash P (Str.ofString "Part"), key := Value.str (Str.ofString "Part") 513, val := Value.ref 216 }, { hash := PyData.keyHash P (Str.ofString "matches"), key := Value.str (Str.ofString "matches") 525, val := Value.ref 227 }, { hash := PyData.keyHash P (Str.ofString "like_parts"), key := Value.str (Str.ofString "like_parts") 536, val := Value.ref 234 }, { hash := PyData.keyHash P (Str.ofString "like"), key := Value.str (Str.ofString "like") 546, val := Value.ref 242 }, { hash := PyData.keyHash P (Str.ofString "lot_at"), key := Value.str (Str.ofString "lot_at") 557, val := Value.ref 249 }, { hash := PyData.keyHash P (Str.ofString "glob_parts"), key := Value.str (Str.ofString "glob_parts") 568, val := Value.ref 256 }, { hash := PyData.keyHash P (Str.ofString "glob"), key := Value.str (Str.ofString "glob") 577, val := Value.ref 263 }, { hash := PyData.keyHash P (Str.ofString "octets_of"), key := Value.str (Str.ofString "octets_of") 586, val := Value.ref 270 }, { hash := PyData.keyHash P (Str.ofString "lowered"), key := Value.str (Str.ofString "lowered") 592, val := Value.ref 275 }, { hash := PyData.keyHash P (Str.ofString "raised"), key := Value.str (Str.ofString "raised") 598, val := Value.ref 280 }, { hash := PyData.keyHash P (Str.ofString "length_of"), key := Value.str (Str.ofString "length_of") 605, val := Value.ref 287 }, { hash := PyData.keyHash P (Str.ofString "place_in"), key := Value.str (Str.ofString "place_in") 613, val := Value.ref 294 }, { hash := PyData.keyHash P (Str.ofString "trimmed"), key := Value.str (Str.ofString "trimmed") 625, val := Value.ref 301 }, { hash := PyData.keyHash P (Str.ofString "part_of"), key := Value.str (Str.ofString "part_of") 636, val := Value.ref 308 }, { hash := PyData.keyHash P (Str.ofString "replaced"), key := Value.str (Str.ofString "replaced") 642, val := Value.ref 313 }, { hash := PyData.keyHash P (Str.ofString "chosen"), key := Value.str (Str.ofString "chosen") 654, val := Value.ref 320 }, { hash := PyData.keyHash P (Str.ofString "signs_of"), key := Value.str (Str.ofString "signs_of") 665, val := Value.ref 327 }, { hash := PyData.keyHash P (Str.ofString "zeros"), key := Value.str (Str.ofString "zeros") 673, val := Value.ref 334 }, { hash := PyData.keyHash P (Str.ofString "escape_of"), key := Value.str (Str.ofString "escape_of") 681, val := Value.ref 341 }, { hash := PyData.keyHash P (Str.ofString "matched"), key := Value.str (Str.ofString "matched") 690, val := Value.ref 348 }, { hash := PyData.keyHash P (Str.ofString "call_with_nulls"), key := Value.str (Str.ofString "call_with_nulls") 696, val := Value.ref 353 }, { hash := PyData.keyHash P (Str.ofString "call_function"), key := Value.str (Str.ofString "call_function") 711, val := Value.ref 360 }, { hash := PyData.keyHash P (Str.ofString "call_on_texts"), key := Value.str (Str.ofString "call_on_texts") 720, val := Value.ref 367 }, { hash := PyData.keyHash P (Str.ofString "_law_pool"), key := Value.str (Str.ofString "_law_pool") 733, val := Value.ref 374 }, { hash := PyData.keyHash P (Str.ofString "_law_take"), key := Value.str (Str.ofString "_law_take") 742, val := Value.ref 381 }, { hash := PyData.keyHash P (Str.ofString "_law_one"), key := Value.str (Str.ofString "_law_one") 750, val := Value.ref 388 }, { hash := PyData.keyHash P (Str.ofString "_law_call"), key := Value.str (Str.ofString "_law_call") 758, val := Value.ref 395 }, { hash := PyData.keyHash P (Str.ofString "_law_number"), key := Value.str (Str.ofString "_law_number") 767, val := Value.ref 402 }, { hash := PyData.keyHash P (Str.ofString "_law_hex"), key := Value.str (Str.ofString "_law_hex") 773, val := Value.ref 407 }, { hash := PyData.keyHash P (Str.ofString "_law_signs_right"), key := Value.str (Str.ofString "_law_signs_right") 779, val := Value.ref 412 }, { hash := PyData.keyHash P (Str.ofString "_law_text"), key := Value.str (Str.ofString "_law_text") 785, val := Value.ref 417 }, { hash := PyData.keyHash P (Str.ofString "_law_value"), key := Value.str (Str.ofString "_law_value") 791, val := Value.ref 422 }, { hash := PyData.keyHash P (Str.ofString "_law_part"), key := Value.str (Str.ofString "_law_part") 801, val := Value.ref 429 }, { hash := PyData.keyHash P (Str.ofString "_law_replaced"), key := Value.str (Str.ofString "_law_replaced") 812, val := Value.ref 436 }, { hash := PyData.keyHash P (Str.ofString "_law_replace_right"), key := Value.str (Str.ofString "_law_replace_right") 825, val := Value.ref 443 }, { hash := PyData.keyHash P (Str.ofString "law"), key := Value.str (Str.ofString "law") 834, val := Value.ref 450 }] 78 }
noncomputable def c77 : Obj := { cls := Value.type "code", data := Data.fields #[Value.str (Str.ofString "utf8") 303, Value.str (Str.ofString "utf8") 304, Value.str (Str.ofString "/claim/cut.py") 305, Value.int 21 0, Value.int 1 0, Value.int 0 0, Value.int 0 0, Value.int 3 0, Value.ref 72, Value.bool true, Value.int 181 0, Value.ref 73, Value.none, Value.ref 74, Value.ref 75, Value.ref 76, Value.int 310 0, Value.int 21 0, Value.str (Str.ofString "/claim/cut.py") 311] }
noncomputable def f78 : Obj := viaDef (PySem.Challenge.pw_pq0800_01.main.body[14]?) rfl (Value.str (Str.ofString "pagebase.values") 266) 77
noncomputable def c84 : Obj := { cls := Value.type "code", data := Data.fields #[Value.str (Str.ofString "lead_of") 313, Value.str (Str.ofString "lead_of") 314, Value.str (Str.ofString "/claim/cut.py") 315, Value.int 40 0, Value.int 1 0, Value.int 0 0, Value.int 0 0, Value.int 3 0, Value.ref 79, Value.bool true, Value.int 181 0, Value.ref 80, Value.none, Value.ref 81, Value.ref 82, Value.ref 83, Value.int 317 0, Value.int 40 0, Value.str (Str.ofString "/claim/cut.py") 318] }
noncomputable def f85 : Obj := viaDef (PySem.Challenge.pw_pq0800_01.main.body[15]?) rfl (Value.str (Str.ofString "pagebase.values") 266) 84
noncomputable def c91 : Obj := { cls := Value.type "code", data := Data.fields #[Value.str (Str.ofString "text_of") 320, Value.str (Str.ofString "text_of") 321, Value.str (Str.ofString "/claim/cut.py") 322, Value.int 50 0, Value.int 1 0, Value.int 0 0, Value.int 0 0, Value.int 3 0, Value.ref 86, Value.bool true, Value.int 181 0, Value.ref 87, Value.none, Value.ref 88, Value.ref 89, Value.ref 90, Value.int 328 0, Value.int 50 0, Value.str (Str.ofString "/claim/cut.py") 329] }
noncomputable def f92 : Obj := viaDef (PySem.Challenge.pw_pq0800_01.main.body[16]?) rfl (Value.str (Str.ofString "pagebase.values") 266) 91
noncomputable def c98 : Obj := { cls := Value.type "code", data := Data.fields #[Value.str (Str.ofString "code_at") 331, Value.str (Str.ofString "code_at") 332, Value.str (Str.ofString "/claim/cut.py") 333, Value.int 65 0, Value.int 3 0, Value.int 0 0, Value.int 0 0, Value.int 3 0, Value.ref 93, Value.bool true, Value.int 181 0, Value.ref 94, Value.none, Value.ref 95, Value.ref 96, Value.ref 97, Value.int 341 0, Value.int 65 0, Value.str (Str.ofString "/claim/cut.py") 342] }
noncomputable def f99 : Obj := viaDef (PySem.Challenge.pw_pq0800_01.main.body[17]?) rfl (Value.str (Str.ofString "pagebase.values") 266) 98
noncomputable def c112 : Obj := { cls := Value.type "code", data := Data.fields #[Value.str (Str.ofString "hex_text") 353, Value.str (Str.ofString "hex_text") 354, Value.str (Str.ofString "/claim/cut.py") 355, Value.int 84 0, Value.int 1 0, Value.int 0 0, Value.int 0 0, Value.int 3 0, Value.ref 107, Value.bool true, Value.int 181 0, Value.ref 108, Value.none, Value.ref 109, Value.ref 110, Value.ref 111, Value.int 359 0, Value.int 84 0, Value.str (Str.ofString "/claim/cut.py") 360] }
noncomputable def f113 : Obj := viaDef (PySem.Challenge.pw_pq0800_01.main.body[19]?) rfl (Value.str (Str.ofString "pagebase.values") 266) 112
noncomputable def c148 : Obj := { cls := Value.type "code", data := Data.fields #[Value.str (Str.ofString "digits_end") 398, Value.str (Str.ofString "digits_end") 399, Value.str (Str.ofString "/claim/cut.py") 400, Value.int 127 0, Value.int 2 0, Value.int 0 0, Value.int 0 0, Value.int 3 0, Value.ref 143, Value.bool true, Value.int 181 0, Value.ref 144, Value.none, Value.ref 145, Value.ref 146, Value.ref 147, Value.int 403 0, Value.int 127 0, Value.str (Str.ofString "/claim/cut.py") 404] }
noncomputable def f149 : Obj := viaDef (PySem.Challenge.pw_pq0800_01.main.body[24]?) rfl (Value.str (Str.ofString "pagebase.values") 266) 148
noncomputable def c155 : Obj := { cls := Value.type "code", data := Data.fields #[Value.str (Str.ofString "number_span") 406, Value.str (Str.ofString "number_span") 407, Value.str (Str.ofString "/claim/cut.py") 408, Value.int 131 0, Value.int 1 0, Value.int 0 0, Value.int 0 0, Value.int 3 0, Value.ref 150, Value.bool true, Value.int 181 0, Value.ref 151, Value.none, Value.ref 152, Value.ref 153, Value.ref 154, Value.int 413 0, Value.int 131 0, Value.str (Str.ofString "/claim/cut.py") 414] }
noncomputable def f156 : Obj := viaDef (PySem.Challenge.pw_pq0800_01.main.body[25]?) rfl (Value.str (Str.ofString "pagebase.values") 266) 155
noncomputable def c162 : Obj := { cls := Value.type "code", data := Data.fields #[Value.str (Str.ofString "number_of") 416, Value.str (Str.ofString "number_of") 417, Value.str (Str.ofString "/claim/cut.py") 418, Value.int 142 0, Value.int 1 0, Value.int 0 0, Value.int 0 0, Value.int 3 0, Value.ref 157, Value.bool true, Value.int 181 0, Value.ref 158, Value.none, Value.ref 159, Value.ref 160, Value.ref 161, Value.int 422 0, Value.int 142 0, Value.str (Str.ofString "/claim/cut.py") 423] }
noncomputable def f163 : Obj := viaDef (PySem.Challenge.pw_pq0800_01.main.body[26]?) rfl (Value.str (Str.ofString "pagebase.values") 266) 162
noncomputable def c169 : Obj := { cls := Value.type "code", data := Data.fields #[Value.str (Str.ofString "as_integer") 425, Value.str (Str.ofString "as_integer") 426, Value.str (Str.ofString "/claim/cut.py") 427, Value.int 150 0, Value.int 1 0, Value.int 0 0, Value.int 0 0, Value.int 3 0, Value.ref 164, Value.bool true, Value.int 181 0, Value.ref 165, Value.none, Value.ref 166, Value.ref 167, Value.ref 168, Value.int 431 0, Value.int 150 0, Value.str (Str.ofString "/claim/cut.py") 432] }
noncomputable def f170 : Obj := viaDef (PySem.Challenge.pw_pq0800_01.main.body[27]?) rfl (Value.str (Str.ofString "pagebase.values") 266) 169
noncomputable def c176 : Obj := { cls := Value.type "code", data := Data.fields #[Value.str (Str.ofString "as_text") 434, Value.str (Str.ofString "as_text") 435, Value.str (Str.ofString "/claim/cut.py") 436, Value.int 160 0, Value.int 1 0, Value.int 0 0, Value.int 0 0, Value.int 3 0, Value.ref 171, Value.bool true, Value.int 181 0, Value.ref 172, Value.none, Value.ref 173, Value.ref 174, Value.ref 175, Value.int 438 0, Value.int 160 0, Value.str (Str.ofString "/claim/cut.py") 439] }
noncomputable def f177 : Obj := viaDef (PySem.Challenge.pw_pq0800_01.main.body[28]?) rfl (Value.str (Str.ofString "pagebase.values") 266) 176
noncomputable def c183 : Obj := { cls := Value.type "code", data := Data.fields #[Value.str (Str.ofString "joined") 441, Value.str (Str.ofString "joined") 442, Value.str (Str.ofString "/claim/cut.py") 443, Value.int 166 0, Value.int 1 0, Value.int 0 0, Value.int 0 0, Value.int 3 0, Value.ref 178, Value.bool true, Value.int 181 0, Value.ref 179, Value.none, Value.ref 180, Value.ref 181, Value.ref 182, Value.int 447 0, Value.int 166 0, Value.str (Str.ofString "/claim/cut.py") 448] }
noncomputable def f184 : Obj := viaDef (PySem.Challenge.pw_pq0800_01.main.body[29]?) rfl (Value.str (Str.ofString "pagebase.values") 266) 183
noncomputable def c269 : Obj := { cls := Value.type "code", data := Data.fields #[Value.str (Str.ofString "octets_of") 580, Value.str (Str.ofString "octets_of") 581, Value.str (Str.ofString "/claim/cut.py") 582, Value.int 297 0, Value.int 1 0, Value.int 0 0, Value.int 0 0, Value.int 3 0, Value.ref 264, Value.bool true, Value.int 181 0, Value.ref 265, Value.none, Value.ref 266, Value.ref 267, Value.ref 268, Value.int 584 0, Value.int 297 0, Value.str (Str.ofString "/claim/cut.py") 585] }
noncomputable def f270 : Obj := viaDef (PySem.Challenge.pw_pq0800_01.main.body[44]?) rfl (Value.str (Str.ofString "pagebase.functions") 578) 269
noncomputable def c286 : Obj := { cls := Value.type "code", data := Data.fields #[Value.str (Str.ofString "length_of") 599, Value.str (Str.ofString "length_of") 600, Value.str (Str.ofString "/claim/cut.py") 601, Value.int 303 0, Value.int 1 0, Value.int 0 0, Value.int 0 0, Value.int 3 0, Value.ref 281, Value.bool true, Value.int 181 0, Value.ref 282, Value.none, Value.ref 283, Value.ref 284, Value.ref 285, Value.int 603 0, Value.int 303 0, Value.str (Str.ofString "/claim/cut.py") 604] }
noncomputable def f287 : Obj := viaDef (PySem.Challenge.pw_pq0800_01.main.body[47]?) rfl (Value.str (Str.ofString "pagebase.functions") 578) 286
noncomputable def c312 : Obj := { cls := Value.type "code", data := Data.fields #[Value.str (Str.ofString "replaced") 637, Value.str (Str.ofString "replaced") 638, Value.str (Str.ofString "/claim/cut.py") 639, Value.int 342 0, Value.int 1 0, Value.int 0 0, Value.int 0 0, Value.int 3 0, Value.ref 309, Value.bool true, Value.int 181 0, Value.ref 310, Value.none, Value.none, Value.none, Value.ref 311, Value.int 640 0, Value.int 342 0, Value.str (Str.ofString "/claim/cut.py") 641] }
noncomputable def f313 : Obj := viaDef (PySem.Challenge.pw_pq0800_01.main.body[51]?) rfl (Value.str (Str.ofString "pagebase.functions") 578) 312
noncomputable def c326 : Obj := { cls := Value.type "code", data := Data.fields #[Value.str (Str.ofString "signs_of") 655, Value.str (Str.ofString "signs_of") 656, Value.str (Str.ofString "/claim/cut.py") 657, Value.int 357 0, Value.int 1 0, Value.int 0 0, Value.int 0 0, Value.int 3 0, Value.ref 321, Value.bool true, Value.int 181 0, Value.ref 322, Value.none, Value.ref 323, Value.ref 324, Value.ref 325, Value.int 663 0, Value.int 357 0, Value.str (Str.ofString "/claim/cut.py") 664] }
noncomputable def f327 : Obj := viaDef (PySem.Challenge.pw_pq0800_01.main.body[53]?) rfl (Value.str (Str.ofString "pagebase.functions") 578) 326
noncomputable def c352 : Obj := { cls := Value.type "code", data := Data.fields #[Value.str (Str.ofString "call_with_nulls") 691, Value.str (Str.ofString "call_with_nulls") 692, Value.str (Str.ofString "/claim/cut.py") 693, Value.int 379 0, Value.int 4 0, Value.int 0 0, Value.int 0 0, Value.int 3 0, Value.ref 349, Value.bool true, Value.int 181 0, Value.ref 350, Value.none, Value.none, Value.none, Value.ref 351, Value.int 694 0, Value.int 379 0, Value.str (Str.ofString "/claim/cut.py") 695] }
noncomputable def f353 : Obj := viaDef (PySem.Challenge.pw_pq0800_01.main.body[57]?) rfl (Value.str (Str.ofString "pagebase.functions") 578) 352
noncomputable def c359 : Obj := { cls := Value.type "code", data := Data.fields #[Value.str (Str.ofString "call_function") 697, Value.str (Str.ofString "call_function") 698, Value.str (Str.ofString "/claim/cut.py") 699, Value.int 404 0, Value.int 4 0, Value.int 0 0, Value.int 0 0, Value.int 3 0, Value.ref 354, Value.bool true, Value.int 181 0, Value.ref 355, Value.none, Value.ref 356, Value.ref 357, Value.ref 358, Value.int 709 0, Value.int 404 0, Value.str (Str.ofString "/claim/cut.py") 710] }
noncomputable def f360 : Obj := viaDef (PySem.Challenge.pw_pq0800_01.main.body[58]?) rfl (Value.str (Str.ofString "pagebase.functions") 578) 359
noncomputable def c366 : Obj := { cls := Value.type "code", data := Data.fields #[Value.str (Str.ofString "call_on_texts") 712, Value.str (Str.ofString "call_on_texts") 713, Value.str (Str.ofString "/claim/cut.py") 714, Value.int 426 0, Value.int 2 0, Value.int 0 0, Value.int 0 0, Value.int 3 0, Value.ref 361, Value.bool true, Value.int 181 0, Value.ref 362, Value.none, Value.ref 363, Value.ref 364, Value.ref 365, Value.int 718 0, Value.int 426 0, Value.str (Str.ofString "/claim/cut.py") 719] }
noncomputable def f367 : Obj := viaDef (PySem.Challenge.pw_pq0800_01.main.body[59]?) rfl (Value.str (Str.ofString "pagebase.functions") 578) 366
noncomputable def c373 : Obj := { cls := Value.type "code", data := Data.fields #[Value.str (Str.ofString "_law_pool") 723, Value.str (Str.ofString "_law_pool") 724, Value.str (Str.ofString "/claim/cut.py") 725, Value.int 448 0, Value.int 2 0, Value.int 0 0, Value.int 0 0, Value.int 3 0, Value.ref 368, Value.bool true, Value.int 181 0, Value.ref 369, Value.none, Value.ref 370, Value.ref 371, Value.ref 372, Value.int 731 0, Value.int 448 0, Value.str (Str.ofString "/claim/cut.py") 732] }
noncomputable def f374 : Obj := viaDef (PySem.Challenge.pw_pq0800_01.main.body[61]?) rfl (Value.str (Str.ofString "law_pq0800_01") 721) 373
noncomputable def c380 : Obj := { cls := Value.type "code", data := Data.fields #[Value.str (Str.ofString "_law_take") 734, Value.str (Str.ofString "_law_take") 735, Value.str (Str.ofString "/claim/cut.py") 736, Value.int 455 0, Value.int 2 0, Value.int 0 0, Value.int 0 0, Value.int 3 0, Value.ref 375, Value.bool true, Value.int 181 0, Value.ref 376, Value.none, Value.ref 377, Value.ref 378, Value.ref 379, Value.int 740 0, Value.int 455 0, Value.str (Str.ofString "/claim/cut.py") 741] }
noncomputable def f381 : Obj := viaDef (PySem.Challenge.pw_pq0800_01.main.body[62]?) rfl (Value.str (Str.ofString "law_pq0800_01") 721) 380
noncomputable def c387 : Obj := { cls := Value.type "code", data := Data.fields #[Value.str (Str.ofString "_law_one") 743, Value.str (Str.ofString "_law_one") 744, Value.str (Str.ofString "/claim/cut.py") 745, Value.int 462 0, Value.int 2 0, Value.int 0 0, Value.int 0 0, Value.int 3 0, Value.ref 382, Value.bool true, Value.int 181 0, Value.ref 383, Value.none, Value.ref 384, Value.ref 385, Value.ref 386, Value.int 748 0, Value.int 462 0, Value.str (Str.ofString "/claim/cut.py") 749] }
noncomputable def f388 : Obj := viaDef (PySem.Challenge.pw_pq0800_01.main.body[63]?) rfl (Value.str (Str.ofString "law_pq0800_01") 721) 387
noncomputable def c394 : Obj := { cls := Value.type "code", data := Data.fields #[Value.str (Str.ofString "_law_call") 751, Value.str (Str.ofString "_law_call") 752, Value.str (Str.ofString "/claim/cut.py") 753, Value.int 464 0, Value.int 2 0, Value.int 0 0, Value.int 0 0, Value.int 3 0, Value.ref 389, Value.bool true, Value.int 181 0, Value.ref 390, Value.none, Value.ref 391, Value.ref 392, Value.ref 393, Value.int 756 0, Value.int 464 0, Value.str (Str.ofString "/claim/cut.py") 757] }
noncomputable def f395 : Obj := viaDef (PySem.Challenge.pw_pq0800_01.main.body[64]?) rfl (Value.str (Str.ofString "law_pq0800_01") 721) 394
noncomputable def c401 : Obj := { cls := Value.type "code", data := Data.fields #[Value.str (Str.ofString "_law_number") 759, Value.str (Str.ofString "_law_number") 760, Value.str (Str.ofString "/claim/cut.py") 761, Value.int 466 0, Value.int 1 0, Value.int 0 0, Value.int 0 0, Value.int 3 0, Value.ref 396, Value.bool true, Value.int 181 0, Value.ref 397, Value.none, Value.ref 398, Value.ref 399, Value.ref 400, Value.int 765 0, Value.int 466 0, Value.str (Str.ofString "/claim/cut.py") 766] }
noncomputable def f402 : Obj := viaDef (PySem.Challenge.pw_pq0800_01.main.body[65]?) rfl (Value.str (Str.ofString "law_pq0800_01") 721) 401
noncomputable def c406 : Obj := { cls := Value.type "code", data := Data.fields #[Value.str (Str.ofString "_law_hex") 768, Value.str (Str.ofString "_law_hex") 769, Value.str (Str.ofString "/claim/cut.py") 770, Value.int 476 0, Value.int 1 0, Value.int 0 0, Value.int 0 0, Value.int 3 0, Value.ref 403, Value.bool true, Value.int 181 0, Value.ref 404, Value.none, Value.none, Value.none, Value.ref 405, Value.int 771 0, Value.int 476 0, Value.str (Str.ofString "/claim/cut.py") 772] }
noncomputable def f407 : Obj := viaDef (PySem.Challenge.pw_pq0800_01.main.body[66]?) rfl (Value.str (Str.ofString "law_pq0800_01") 721) 406
noncomputable def c411 : Obj := { cls := Value.type "code", data := Data.fields #[Value.str (Str.ofString "_law_signs_right") 774, Value.str (Str.ofString "_law_signs_right") 775, Value.str (Str.ofString "/claim/cut.py") 776, Value.int 479 0, Value.int 1 0, Value.int 0 0, Value.int 0 0, Value.int 3 0, Value.ref 408, Value.bool true, Value.int 181 0, Value.ref 409, Value.none, Value.none, Value.none, Value.ref 410, Value.int 777 0, Value.int 479 0, Value.str (Str.ofString "/claim/cut.py") 778] }
noncomputable def f412 : Obj := viaDef (PySem.Challenge.pw_pq0800_01.main.body[67]?) rfl (Value.str (Str.ofString "law_pq0800_01") 721) 411
noncomputable def c416 : Obj := { cls := Value.type "code", data := Data.fields #[Value.str (Str.ofString "_law_text") 780, Value.str (Str.ofString "_law_text") 781, Value.str (Str.ofString "/claim/cut.py") 782, Value.int 492 0, Value.int 1 0, Value.int 0 0, Value.int 0 0, Value.int 3 0, Value.ref 413, Value.bool true, Value.int 181 0, Value.ref 414, Value.none, Value.none, Value.none, Value.ref 415, Value.int 783 0, Value.int 492 0, Value.str (Str.ofString "/claim/cut.py") 784] }
noncomputable def f417 : Obj := viaDef (PySem.Challenge.pw_pq0800_01.main.body[68]?) rfl (Value.str (Str.ofString "law_pq0800_01") 721) 416
noncomputable def c421 : Obj := { cls := Value.type "code", data := Data.fields #[Value.str (Str.ofString "_law_value") 786, Value.str (Str.ofString "_law_value") 787, Value.str (Str.ofString "/claim/cut.py") 788, Value.int 494 0, Value.int 1 0, Value.int 0 0, Value.int 0 0, Value.int 3 0, Value.ref 418, Value.bool true, Value.int 181 0, Value.ref 419, Value.none, Value.none, Value.none, Value.ref 420, Value.int 789 0, Value.int 494 0, Value.str (Str.ofString "/claim/cut.py") 790] }
noncomputable def f422 : Obj := viaDef (PySem.Challenge.pw_pq0800_01.main.body[69]?) rfl (Value.str (Str.ofString "law_pq0800_01") 721) 421
noncomputable def c428 : Obj := { cls := Value.type "code", data := Data.fields #[Value.str (Str.ofString "_law_part") 792, Value.str (Str.ofString "_law_part") 793, Value.str (Str.ofString "/claim/cut.py") 794, Value.int 504 0, Value.int 2 0, Value.int 0 0, Value.int 0 0, Value.int 3 0, Value.ref 423, Value.bool true, Value.int 181 0, Value.ref 424, Value.none, Value.ref 425, Value.ref 426, Value.ref 427, Value.int 799 0, Value.int 504 0, Value.str (Str.ofString "/claim/cut.py") 800] }
noncomputable def f429 : Obj := viaDef (PySem.Challenge.pw_pq0800_01.main.body[70]?) rfl (Value.str (Str.ofString "law_pq0800_01") 721) 428
noncomputable def c435 : Obj := { cls := Value.type "code", data := Data.fields #[Value.str (Str.ofString "_law_replaced") 802, Value.str (Str.ofString "_law_replaced") 803, Value.str (Str.ofString "/claim/cut.py") 804, Value.int 512 0, Value.int 3 0, Value.int 0 0, Value.int 0 0, Value.int 3 0, Value.ref 430, Value.bool true, Value.int 181 0, Value.ref 431, Value.none, Value.ref 432, Value.ref 433, Value.ref 434, Value.int 810 0, Value.int 512 0, Value.str (Str.ofString "/claim/cut.py") 811] }
noncomputable def f436 : Obj := viaDef (PySem.Challenge.pw_pq0800_01.main.body[71]?) rfl (Value.str (Str.ofString "law_pq0800_01") 721) 435
noncomputable def c442 : Obj := { cls := Value.type "code", data := Data.fields #[Value.str (Str.ofString "_law_replace_right") 813, Value.str (Str.ofString "_law_replace_right") 814, Value.str (Str.ofString "/claim/cut.py") 815, Value.int 520 0, Value.int 1 0, Value.int 0 0, Value.int 0 0, Value.int 3 0, Value.ref 437, Value.bool true, Value.int 181 0, Value.ref 438, Value.none, Value.ref 439, Value.ref 440, Value.ref 441, Value.int 823 0, Value.int 520 0, Value.str (Str.ofString "/claim/cut.py") 824] }
noncomputable def f443 : Obj := viaDef (PySem.Challenge.pw_pq0800_01.main.body[72]?) rfl (Value.str (Str.ofString "law_pq0800_01") 721) 442
noncomputable def c449 : Obj := { cls := Value.type "code", data := Data.fields #[Value.str (Str.ofString "law") 826, Value.str (Str.ofString "law") 827, Value.str (Str.ofString "/claim/cut.py") 828, Value.int 529 0, Value.int 1 0, Value.int 0 0, Value.int 0 0, Value.int 3 0, Value.ref 444, Value.bool true, Value.int 181 0, Value.ref 445, Value.none, Value.ref 446, Value.ref 447, Value.ref 448, Value.int 832 0, Value.int 529 0, Value.str (Str.ofString "/claim/cut.py") 833] }
noncomputable def f450 : Obj := viaDef (PySem.Challenge.pw_pq0800_01.main.body[73]?) rfl (Value.str (Str.ofString "law_pq0800_01") 721) 449
noncomputable def K : Params → Frag := fun P => (nat_lit 3, globs P) :: (nat_lit 77, c77) :: (nat_lit 78, f78) :: (nat_lit 84, c84) :: (nat_lit 85, f85) :: (nat_lit 91, c91) :: (nat_lit 92, f92) :: (nat_lit 98, c98) :: (nat_lit 99, f99) :: (nat_lit 112, c112) :: (nat_lit 113, f113) :: (nat_lit 148, c148) :: (nat_lit 149, f149) :: (nat_lit 155, c155) :: (nat_lit 156, f156) :: (nat_lit 162, c162) :: (nat_lit 163, f163) :: (nat_lit 169, c169) :: (nat_lit 170, f170) :: (nat_lit 176, c176) :: (nat_lit 177, f177) :: (nat_lit 183, c183) :: (nat_lit 184, f184) :: (nat_lit 269, c269) :: (nat_lit 270, f270) :: (nat_lit 286, c286) :: (nat_lit 287, f287) :: (nat_lit 312, c312) :: (nat_lit 313, f313) :: (nat_lit 326, c326) :: (nat_lit 327, f327) :: (nat_lit 352, c352) :: (nat_lit 353, f353) :: (nat_lit 359, c359) :: (nat_lit 360, f360) :: (nat_lit 366, c366) :: (nat_lit 367, f367) :: (nat_lit 373, c373) :: (nat_lit 374, f374) :: (nat_lit 380, c380) :: (nat_lit 381, f381) :: (nat_lit 387, c387) :: (nat_lit 388, f388) :: (nat_lit 394, c394) :: (nat_lit 395, f395) :: (nat_lit 401, c401) :: (nat_lit 402, f402) :: (nat_lit 406, c406) :: (nat_lit 407, f407) :: (nat_lit 411, c411) :: (nat_lit 412, f412) :: (nat_lit 416, c416) :: (nat_lit 417, f417) :: (nat_lit 421, c421) :: (nat_lit 422, f422) :: (nat_lit 428, c428) :: (nat_lit 429, f429) :: (nat_lit 435, c435) :: (nat_lit 436, f436) :: (nat_lit 442, c442) :: (nat_lit 443, f443) :: (nat_lit 449, c449) :: (nat_lit 450, f450) :: []
noncomputable def Kas : List Nat := [3, 77, 78, 84, 85, 91, 92, 98, 99, 112, 113, 148, 149, 155, 156, 162, 163, 169, 170, 176, 177, 183, 184, 269, 270, 286, 287, 312, 313, 326, 327, 352, 353, 359, 360, 366, 367, 373, 374, 380, 381, 387, 388, 394, 395, 401, 402, 406, 407, 411, 412, 416, 417, 421, 422, 428, 429, 435, 436, 442, 443, 449, 450]
noncomputable def sv (x : String) (t : Nat) : Value := .str (Str.ofString x) t
noncomputable def rf (a : Nat) : Value := .ref a
noncomputable def iv (a t : Nat) : Value := .int (Int.ofNat a) t
noncomputable def de (P : Params) (x : String) (t : Nat) (v : Value) : DictEntry := { hash := PyData.keyHash P (Str.ofString x), key := sv x t, val := v }
noncomputable def fnAt (l : List Stmt) (i : Nat) : Option Stmt := l[i]?
noncomputable def bodyAt (i : Nat) : List Stmt := match PySem.Challenge.pw_pq0800_01.main.body[i]? with | some (.ClassDef _ _ _ b _ _ _ _ _ _ _) => b | _ => []
noncomputable def fnX (l : List Stmt) (i : Nat) (qn : Str) (dV pm : Value) (cd : Value) (cls : Value) : Obj := match l[i]? with | some (.FunctionDef nm ps b _ _ _ sc _ _ _) => { cls := cls, data := .func (fnOf nm qn ps b sc dV .none .none pm none cd .none) } | _ => default
noncomputable def fnT (l : List Stmt) (i : Nat) (qn : Str) : Obj := match l[i]? with | some (.FunctionDef nm ps b _ _ _ sc _ _ _) => { cls := .none, data := .func { fnOf nm qn ps b sc .none .none .none .none none .none .none with globals := 0 } } | _ => default
noncomputable abbrev MB := PySem.Challenge.pw_pq0800_01.main.body
noncomputable def o11 : Obj := { cls := Value.type "tuple", data := Data.seq #[] } 
noncomputable def o12 : Obj := { cls := Value.none, data := Data.fields #[] } 
noncomputable def o13 : Obj := { cls := Value.type "code", data := Data.fields #[sv "<module>" (nat_lit 182), sv "<module>" (nat_lit 183), sv "/claim/cut.py" (nat_lit 184), iv (nat_lit 1) (nat_lit 0), iv (nat_lit 0) (nat_lit 0), iv (nat_lit 0) (nat_lit 0), iv (nat_lit 0) (nat_lit 0), iv (nat_lit 0) (nat_lit 0), rf (nat_lit 11), Value.bool false, iv (nat_lit 181) (nat_lit 0), rf (nat_lit 12), Value.none, Value.none, Value.none, Value.none, iv (nat_lit 185) (nat_lit 0), iv (nat_lit 1) (nat_lit 0), sv "/claim/cut.py" (nat_lit 186)] } 
noncomputable def o14 : Obj := { cls := Value.type "frame", slots := #[some (rf (nat_lit 13)), some (rf (nat_lit 3)), some (rf (nat_lit 3)), none, some (sv "__main__" (nat_lit 164)), none, some (rf (nat_lit 0))] } 
noncomputable def o2 (P : Params) : Obj := { cls := Value.none, data := Data.dict #[de P "type.__subclasses__.Exception.0" (nat_lit 214) (iv (nat_lit 31) (nat_lit 0)), de P "type.__subclasses__.Exception.n" (nat_lit 215) (iv (nat_lit 1) (nat_lit 0))] 2 } 
noncomputable def o3 (P : Params) : Obj := { cls := Value.type "dict", data := Data.dict #[de P "__name__" (nat_lit 165) (sv "pagebase.values" (nat_lit 266)), de P "__doc__" (nat_lit 166) (Value.none), de P "__package__" (nat_lit 167) (Value.none), de P "__loader__" (nat_lit 168) (Value.builtin "__main__.__loader__#opaque"), de P "__spec__" (nat_lit 169) (Value.none), de P "__annotations__" (nat_lit 170) (rf (nat_lit 6)), de P "__builtins__" (nat_lit 171) (rf (nat_lit 4)), de P "__file__" (nat_lit 173) (sv "/claim/cut.py" (nat_lit 172)), de P "__cached__" (nat_lit 174) (Value.none), de P "PagebaseError" (nat_lit 217) (rf (nat_lit 31)), de P "SqlError" (nat_lit 233) (rf (nat_lit 44)), de P "TooBigError" (nat_lit 249) (rf (nat_lit 56)), de P "MisuseError" (nat_lit 265) (rf (nat_lit 68)), de P "MIN_INT" (nat_lit 272) (Value.int (-9223372036854775808) 271), de P "MAX_INT" (nat_lit 278) (iv (nat_lit 9223372036854775807) (nat_lit 277)), de P "MOST_OCTETS" (nat_lit 280) (iv (nat_lit 100000) (nat_lit 279))] 16 } 
noncomputable def o12v1 : Obj := { cls := Value.none, data := Data.fields #[iv (nat_lit 2) (nat_lit 0), iv (nat_lit 0) (nat_lit 0), rf (nat_lit 20), iv (nat_lit 6) (nat_lit 0), iv (nat_lit 0) (nat_lit 0), rf (nat_lit 40), iv (nat_lit 8) (nat_lit 0), iv (nat_lit 0) (nat_lit 0), rf (nat_lit 52), iv (nat_lit 10) (nat_lit 0), iv (nat_lit 0) (nat_lit 0), rf (nat_lit 64)] } 
noncomputable def o15 : Obj := { cls := Value.type "tuple", data := Data.seq #[Value.type "Exception"] } 
noncomputable def o16 : Obj := { cls := Value.type "builtin_function_or_method", data := Data.fields #[Value.builtin "type.__prepare__", Value.type "type"] } 
noncomputable def o17 (P : Params) : Obj := { cls := Value.type "dict", data := Data.dict #[de P "__module__" (nat_lit 196) (sv "pagebase.errors" (nat_lit 187)), de P "__qualname__" (nat_lit 198) (sv "PagebaseError" (nat_lit 197)), de P "__firstlineno__" (nat_lit 200) (iv (nat_lit 2) (nat_lit 199)), de P "__init__" (nat_lit 208) (rf (nat_lit 28)), de P "__static_attributes__" (nat_lit 210) (rf (nat_lit 29))] 5 } 
noncomputable def o18 : Obj := { cls := Value.type "tuple", data := Data.seq #[] } 
noncomputable def o19 : Obj := { cls := Value.none, data := Data.fields #[iv (nat_lit 4) (nat_lit 0), iv (nat_lit 4) (nat_lit 0), rf (nat_lit 27)] } 
noncomputable def o20 : Obj := { cls := Value.type "code", data := Data.fields #[sv "PagebaseError" (nat_lit 191), sv "PagebaseError" (nat_lit 192), sv "/claim/cut.py" (nat_lit 193), iv (nat_lit 2) (nat_lit 0), iv (nat_lit 0) (nat_lit 0), iv (nat_lit 0) (nat_lit 0), iv (nat_lit 0) (nat_lit 0), iv (nat_lit 0) (nat_lit 0), rf (nat_lit 18), Value.bool false, iv (nat_lit 181) (nat_lit 0), rf (nat_lit 19), Value.none, Value.none, Value.none, Value.none, iv (nat_lit 194) (nat_lit 0), iv (nat_lit 2) (nat_lit 0), sv "/claim/cut.py" (nat_lit 195)] } 
noncomputable def o21 : Obj := { cls := Value.type "frame", slots := #[some (rf (nat_lit 20)), some (rf (nat_lit 3)), some (rf (nat_lit 17)), none, some (sv "pagebase.errors" (nat_lit 187)), none, some (rf (nat_lit 0))] } 
noncomputable def o22 : Obj := { cls := Value.type "tuple", data := Data.seq #[] } 
noncomputable def o23 : Obj := { cls := Value.none, data := Data.fields #[] } 
noncomputable def o24 : Obj := { cls := Value.type "tuple", data := Data.seq #[sv "self" (nat_lit 204), sv "message" (nat_lit 205)] } 
noncomputable def o25 : Obj := { cls := Value.type "tuple", data := Data.seq #[] } 
noncomputable def o26 : Obj := fnT (bodyAt 1) (nat_lit 0) (Str.ofString "PagebaseError.__init__")
noncomputable def o27 : Obj := { cls := Value.type "code", data := Data.fields #[sv "__init__" (nat_lit 201), sv "PagebaseError.__init__" (nat_lit 202), sv "/claim/cut.py" (nat_lit 203), iv (nat_lit 4) (nat_lit 0), iv (nat_lit 2) (nat_lit 0), iv (nat_lit 0) (nat_lit 0), iv (nat_lit 0) (nat_lit 0), iv (nat_lit 3) (nat_lit 0), rf (nat_lit 22), Value.bool true, iv (nat_lit 181) (nat_lit 0), rf (nat_lit 23), Value.none, rf (nat_lit 24), rf (nat_lit 25), rf (nat_lit 26), iv (nat_lit 206) (nat_lit 0), iv (nat_lit 4) (nat_lit 0), sv "/claim/cut.py" (nat_lit 207)] } 
noncomputable def o28 : Obj := fnX (bodyAt 1) (nat_lit 0) (Str.ofString "PagebaseError.__init__") Value.none (sv "pagebase.errors" (nat_lit 187)) (rf (nat_lit 27)) (.type "function")
noncomputable def o29 : Obj := { cls := Value.type "tuple", data := Data.seq #[sv "message" (nat_lit 209)] } 
noncomputable def o30 (P : Params) : Obj := { cls := Value.type "dict", data := Data.dict #[de P "__module__" (nat_lit 196) (sv "pagebase.errors" (nat_lit 187)), de P "__firstlineno__" (nat_lit 200) (iv (nat_lit 2) (nat_lit 199)), de P "__init__" (nat_lit 208) (rf (nat_lit 28)), de P "__static_attributes__" (nat_lit 210) (rf (nat_lit 29)), de P "__weakref__" (nat_lit 212) (rf (nat_lit 32)), de P "__doc__" (nat_lit 213) (Value.none)] 3 } 
noncomputable def o31 : Obj := { cls := Value.type "type", data := Data.cls { name := Str.ofString "PagebaseError", bases := [Value.type "Exception"], mro := [rf (nat_lit 31), Value.type "Exception", Value.type "BaseException", Value.type "object"], ns := 30, qualname := Str.ofString "PagebaseError", subclasses := [rf (nat_lit 44), rf (nat_lit 56), rf (nat_lit 68)] }, slots := #[some (rf (nat_lit 15)), none, some (sv "PagebaseError" (nat_lit 189)), some (sv "PagebaseError" (nat_lit 197)), some (Value.builtin "Exception.__new__"), some (Value.bool true)] } 
noncomputable def o32 : Obj := { cls := Value.type "getset_descriptor", data := Data.fields #[sv "__weakref__" (nat_lit 211), rf (nat_lit 31), Value.builtin "ExceptionGroup.__weakref__", Value.none] } 
noncomputable def o33 : Obj := { cls := Value.type "super", data := Data.fields #[rf (nat_lit 31), rf (nat_lit 31), rf (nat_lit 31)] } 
noncomputable def o34 : Obj := { cls := Value.type "builtin_function_or_method", data := Data.fields #[Value.builtin "object.__init_subclass__", rf (nat_lit 31)] } 
noncomputable def o35 : Obj := { cls := Value.type "tuple", data := Data.seq #[rf (nat_lit 31)] } 
noncomputable def o36 : Obj := { cls := Value.type "builtin_function_or_method", data := Data.fields #[Value.builtin "type.__prepare__", Value.type "type"] } 
noncomputable def o37 (P : Params) : Obj := { cls := Value.type "dict", data := Data.dict #[de P "__module__" (nat_lit 225) (sv "pagebase.errors" (nat_lit 187)), de P "__qualname__" (nat_lit 227) (sv "SqlError" (nat_lit 226)), de P "__firstlineno__" (nat_lit 229) (iv (nat_lit 6) (nat_lit 228)), de P "__static_attributes__" (nat_lit 230) (rf (nat_lit 42))] 4 } 
noncomputable def o38 : Obj := { cls := Value.type "tuple", data := Data.seq #[] } 
noncomputable def o39 : Obj := { cls := Value.none, data := Data.fields #[] } 
noncomputable def o40 : Obj := { cls := Value.type "code", data := Data.fields #[sv "SqlError" (nat_lit 220), sv "SqlError" (nat_lit 221), sv "/claim/cut.py" (nat_lit 222), iv (nat_lit 6) (nat_lit 0), iv (nat_lit 0) (nat_lit 0), iv (nat_lit 0) (nat_lit 0), iv (nat_lit 0) (nat_lit 0), iv (nat_lit 0) (nat_lit 0), rf (nat_lit 38), Value.bool false, iv (nat_lit 181) (nat_lit 0), rf (nat_lit 39), Value.none, Value.none, Value.none, Value.none, iv (nat_lit 223) (nat_lit 0), iv (nat_lit 6) (nat_lit 0), sv "/claim/cut.py" (nat_lit 224)] } 
noncomputable def o41 : Obj := { cls := Value.type "frame", slots := #[some (rf (nat_lit 40)), some (rf (nat_lit 3)), some (rf (nat_lit 37)), none, some (sv "pagebase.errors" (nat_lit 187)), none, some (rf (nat_lit 0))] } 
noncomputable def o42 : Obj := { cls := Value.type "tuple", data := Data.seq #[] } 
noncomputable def o43 (P : Params) : Obj := { cls := Value.type "dict", data := Data.dict #[de P "__module__" (nat_lit 225) (sv "pagebase.errors" (nat_lit 187)), de P "__firstlineno__" (nat_lit 229) (iv (nat_lit 6) (nat_lit 228)), de P "__static_attributes__" (nat_lit 230) (rf (nat_lit 42)), de P "__doc__" (nat_lit 231) (Value.none)] 2 } 
noncomputable def o44 : Obj := { cls := Value.type "type", data := Data.cls { name := Str.ofString "SqlError", bases := [rf (nat_lit 31)], mro := [rf (nat_lit 44), rf (nat_lit 31), Value.type "Exception", Value.type "BaseException", Value.type "object"], ns := 43, qualname := Str.ofString "SqlError" }, slots := #[some (rf (nat_lit 35)), none, some (sv "SqlError" (nat_lit 218)), some (sv "SqlError" (nat_lit 226)), some (Value.builtin "Exception.__new__"), some (Value.bool true)] } 
noncomputable def o45 : Obj := { cls := Value.type "super", data := Data.fields #[rf (nat_lit 44), rf (nat_lit 44), rf (nat_lit 44)] } 
noncomputable def o46 : Obj := { cls := Value.type "builtin_function_or_method", data := Data.fields #[Value.builtin "object.__init_subclass__", rf (nat_lit 44)] } 
noncomputable def o47 : Obj := { cls := Value.type "tuple", data := Data.seq #[rf (nat_lit 31)] } 
noncomputable def o48 : Obj := { cls := Value.type "builtin_function_or_method", data := Data.fields #[Value.builtin "type.__prepare__", Value.type "type"] } 
noncomputable def o49 (P : Params) : Obj := { cls := Value.type "dict", data := Data.dict #[de P "__module__" (nat_lit 241) (sv "pagebase.errors" (nat_lit 187)), de P "__qualname__" (nat_lit 243) (sv "TooBigError" (nat_lit 242)), de P "__firstlineno__" (nat_lit 245) (iv (nat_lit 8) (nat_lit 244)), de P "__static_attributes__" (nat_lit 246) (rf (nat_lit 54))] 4 } 
noncomputable def o50 : Obj := { cls := Value.type "tuple", data := Data.seq #[] } 
noncomputable def o51 : Obj := { cls := Value.none, data := Data.fields #[] } 
noncomputable def o52 : Obj := { cls := Value.type "code", data := Data.fields #[sv "TooBigError" (nat_lit 236), sv "TooBigError" (nat_lit 237), sv "/claim/cut.py" (nat_lit 238), iv (nat_lit 8) (nat_lit 0), iv (nat_lit 0) (nat_lit 0), iv (nat_lit 0) (nat_lit 0), iv (nat_lit 0) (nat_lit 0), iv (nat_lit 0) (nat_lit 0), rf (nat_lit 50), Value.bool false, iv (nat_lit 181) (nat_lit 0), rf (nat_lit 51), Value.none, Value.none, Value.none, Value.none, iv (nat_lit 239) (nat_lit 0), iv (nat_lit 8) (nat_lit 0), sv "/claim/cut.py" (nat_lit 240)] } 
noncomputable def o53 : Obj := { cls := Value.type "frame", slots := #[some (rf (nat_lit 52)), some (rf (nat_lit 3)), some (rf (nat_lit 49)), none, some (sv "pagebase.errors" (nat_lit 187)), none, some (rf (nat_lit 0))] } 
noncomputable def o54 : Obj := { cls := Value.type "tuple", data := Data.seq #[] } 
noncomputable def o55 (P : Params) : Obj := { cls := Value.type "dict", data := Data.dict #[de P "__module__" (nat_lit 241) (sv "pagebase.errors" (nat_lit 187)), de P "__firstlineno__" (nat_lit 245) (iv (nat_lit 8) (nat_lit 244)), de P "__static_attributes__" (nat_lit 246) (rf (nat_lit 54)), de P "__doc__" (nat_lit 247) (Value.none)] 2 } 
noncomputable def o56 : Obj := { cls := Value.type "type", data := Data.cls { name := Str.ofString "TooBigError", bases := [rf (nat_lit 31)], mro := [rf (nat_lit 56), rf (nat_lit 31), Value.type "Exception", Value.type "BaseException", Value.type "object"], ns := 55, qualname := Str.ofString "TooBigError" }, slots := #[some (rf (nat_lit 47)), none, some (sv "TooBigError" (nat_lit 234)), some (sv "TooBigError" (nat_lit 242)), some (Value.builtin "Exception.__new__"), some (Value.bool true)] } 
noncomputable def o57 : Obj := { cls := Value.type "super", data := Data.fields #[rf (nat_lit 56), rf (nat_lit 56), rf (nat_lit 56)] } 
noncomputable def o58 : Obj := { cls := Value.type "builtin_function_or_method", data := Data.fields #[Value.builtin "object.__init_subclass__", rf (nat_lit 56)] } 
noncomputable def o59 : Obj := { cls := Value.type "tuple", data := Data.seq #[rf (nat_lit 31)] } 
noncomputable def o60 : Obj := { cls := Value.type "builtin_function_or_method", data := Data.fields #[Value.builtin "type.__prepare__", Value.type "type"] } 
noncomputable def o61 (P : Params) : Obj := { cls := Value.type "dict", data := Data.dict #[de P "__module__" (nat_lit 257) (sv "pagebase.errors" (nat_lit 187)), de P "__qualname__" (nat_lit 259) (sv "MisuseError" (nat_lit 258)), de P "__firstlineno__" (nat_lit 261) (iv (nat_lit 10) (nat_lit 260)), de P "__static_attributes__" (nat_lit 262) (rf (nat_lit 66))] 4 } 
noncomputable def o62 : Obj := { cls := Value.type "tuple", data := Data.seq #[] } 
noncomputable def o63 : Obj := { cls := Value.none, data := Data.fields #[] } 
noncomputable def o64 : Obj := { cls := Value.type "code", data := Data.fields #[sv "MisuseError" (nat_lit 252), sv "MisuseError" (nat_lit 253), sv "/claim/cut.py" (nat_lit 254), iv (nat_lit 10) (nat_lit 0), iv (nat_lit 0) (nat_lit 0), iv (nat_lit 0) (nat_lit 0), iv (nat_lit 0) (nat_lit 0), iv (nat_lit 0) (nat_lit 0), rf (nat_lit 62), Value.bool false, iv (nat_lit 181) (nat_lit 0), rf (nat_lit 63), Value.none, Value.none, Value.none, Value.none, iv (nat_lit 255) (nat_lit 0), iv (nat_lit 10) (nat_lit 0), sv "/claim/cut.py" (nat_lit 256)] } 
noncomputable def o65 : Obj := { cls := Value.type "frame", slots := #[some (rf (nat_lit 64)), some (rf (nat_lit 3)), some (rf (nat_lit 61)), none, some (sv "pagebase.errors" (nat_lit 187)), none, some (rf (nat_lit 0))] } 
noncomputable def o66 : Obj := { cls := Value.type "tuple", data := Data.seq #[] } 
noncomputable def o67 (P : Params) : Obj := { cls := Value.type "dict", data := Data.dict #[de P "__module__" (nat_lit 257) (sv "pagebase.errors" (nat_lit 187)), de P "__firstlineno__" (nat_lit 261) (iv (nat_lit 10) (nat_lit 260)), de P "__static_attributes__" (nat_lit 262) (rf (nat_lit 66)), de P "__doc__" (nat_lit 263) (Value.none)] 2 } 
noncomputable def o68 : Obj := { cls := Value.type "type", data := Data.cls { name := Str.ofString "MisuseError", bases := [rf (nat_lit 31)], mro := [rf (nat_lit 68), rf (nat_lit 31), Value.type "Exception", Value.type "BaseException", Value.type "object"], ns := 67, qualname := Str.ofString "MisuseError" }, slots := #[some (rf (nat_lit 59)), none, some (sv "MisuseError" (nat_lit 250)), some (sv "MisuseError" (nat_lit 258)), some (Value.builtin "Exception.__new__"), some (Value.bool true)] } 
noncomputable def o69 : Obj := { cls := Value.type "super", data := Data.fields #[rf (nat_lit 68), rf (nat_lit 68), rf (nat_lit 68)] } 
noncomputable def o70 : Obj := { cls := Value.type "builtin_function_or_method", data := Data.fields #[Value.builtin "object.__init_subclass__", rf (nat_lit 68)] } 
noncomputable def o3v1 (P : Params) : Obj := { cls := Value.type "dict", data := Data.dict #[de P "__name__" (nat_lit 165) (sv "pagebase.values" (nat_lit 266)), de P "__doc__" (nat_lit 166) (Value.none), de P "__package__" (nat_lit 167) (Value.none), de P "__loader__" (nat_lit 168) (Value.builtin "__main__.__loader__#opaque"), de P "__spec__" (nat_lit 169) (Value.none), de P "__annotations__" (nat_lit 170) (rf (nat_lit 6)), de P "__builtins__" (nat_lit 171) (rf (nat_lit 4)), de P "__file__" (nat_lit 173) (sv "/claim/cut.py" (nat_lit 172)), de P "__cached__" (nat_lit 174) (Value.none), de P "PagebaseError" (nat_lit 217) (rf (nat_lit 31)), de P "SqlError" (nat_lit 233) (rf (nat_lit 44)), de P "TooBigError" (nat_lit 249) (rf (nat_lit 56)), de P "MisuseError" (nat_lit 265) (rf (nat_lit 68)), de P "MIN_INT" (nat_lit 272) (Value.int (-9223372036854775808) 271), de P "MAX_INT" (nat_lit 278) (iv (nat_lit 9223372036854775807) (nat_lit 277)), de P "MOST_OCTETS" (nat_lit 280) (iv (nat_lit 100000) (nat_lit 279)), de P "STORAGE_RANKS" (nat_lit 293) (rf (nat_lit 71))] 17 } 
noncomputable def o71 (P : Params) : Obj := { cls := Value.type "dict", data := Data.dict #[de P "null" (nat_lit 281) (iv (nat_lit 0) (nat_lit 282)), de P "integer" (nat_lit 283) (iv (nat_lit 1) (nat_lit 284)), de P "text" (nat_lit 285) (iv (nat_lit 2) (nat_lit 286)), de P "blob" (nat_lit 287) (iv (nat_lit 3) (nat_lit 288))] 4 } 
noncomputable def o3v2 (P : Params) : Obj := { cls := Value.type "dict", data := Data.dict #[de P "__name__" (nat_lit 165) (sv "pagebase.text_match" (nat_lit 458)), de P "__doc__" (nat_lit 166) (Value.none), de P "__package__" (nat_lit 167) (Value.none), de P "__loader__" (nat_lit 168) (Value.builtin "__main__.__loader__#opaque"), de P "__spec__" (nat_lit 169) (Value.none), de P "__annotations__" (nat_lit 170) (rf (nat_lit 6)), de P "__builtins__" (nat_lit 171) (rf (nat_lit 4)), de P "__file__" (nat_lit 173) (sv "/claim/cut.py" (nat_lit 172)), de P "__cached__" (nat_lit 174) (Value.none), de P "PagebaseError" (nat_lit 217) (rf (nat_lit 31)), de P "SqlError" (nat_lit 233) (rf (nat_lit 44)), de P "TooBigError" (nat_lit 249) (rf (nat_lit 56)), de P "MisuseError" (nat_lit 265) (rf (nat_lit 68)), de P "MIN_INT" (nat_lit 272) (Value.int (-9223372036854775808) 271), de P "MAX_INT" (nat_lit 278) (iv (nat_lit 9223372036854775807) (nat_lit 277)), de P "MOST_OCTETS" (nat_lit 280) (iv (nat_lit 100000) (nat_lit 279)), de P "STORAGE_RANKS" (nat_lit 293) (rf (nat_lit 71)), de P "SPACES" (nat_lit 295) (sv " \t\n\x0b\x0c\x0d" (nat_lit 294)), de P "DIGITS" (nat_lit 297) (sv "0123456789" (nat_lit 296)), de P "HEX_DIGITS" (nat_lit 299) (sv "0123456789ABCDEF" (nat_lit 298)), de P "REPLACEMENT" (nat_lit 302) (sv "�" (nat_lit 301)), de P "utf8" (nat_lit 312) (rf (nat_lit 78)), de P "lead_of" (nat_lit 319) (rf (nat_lit 85)), de P "text_of" (nat_lit 330) (rf (nat_lit 92)), de P "code_at" (nat_lit 343) (rf (nat_lit 99)), de P "fold_ascii" (nat_lit 352) (rf (nat_lit 106)), de P "hex_text" (nat_lit 361) (rf (nat_lit 113)), de P "storage_class" (nat_lit 368) (rf (nat_lit 120)), de P "collate" (nat_lit 377) (rf (nat_lit 127)), de P "sign_of" (nat_lit 385) (rf (nat_lit 134)), de P "compare_values" (nat_lit 397) (rf (nat_lit 142)), de P "digits_end" (nat_lit 405) (rf (nat_lit 149)), de P "number_span" (nat_lit 415) (rf (nat_lit 156)), de P "number_of" (nat_lit 424) (rf (nat_lit 163)), de P "as_integer" (nat_lit 433) (rf (nat_lit 170)), de P "as_text" (nat_lit 440) (rf (nat_lit 177)), de P "joined" (nat_lit 449) (rf (nat_lit 184)), de P "write_literal" (nat_lit 457) (rf (nat_lit 191)), de P "ANY" (nat_lit 461) (iv (nat_lit 0) (nat_lit 460)), de P "ONE" (nat_lit 463) (iv (nat_lit 1) (nat_lit 462)), de P "SIGN" (nat_lit 465) (iv (nat_lit 2) (nat_lit 464)), de P "LOT" (nat_lit 467) (iv (nat_lit 3) (nat_lit 466)), de P "Part" (nat_lit 513) (rf (nat_lit 216))] 43 } 
noncomputable def o12v2 : Obj := { cls := Value.none, data := Data.fields #[iv (nat_lit 2) (nat_lit 0), iv (nat_lit 0) (nat_lit 0), rf (nat_lit 20), iv (nat_lit 6) (nat_lit 0), iv (nat_lit 0) (nat_lit 0), rf (nat_lit 40), iv (nat_lit 8) (nat_lit 0), iv (nat_lit 0) (nat_lit 0), rf (nat_lit 52), iv (nat_lit 10) (nat_lit 0), iv (nat_lit 0) (nat_lit 0), rf (nat_lit 64), iv (nat_lit 21) (nat_lit 0), iv (nat_lit 0) (nat_lit 0), rf (nat_lit 77), iv (nat_lit 40) (nat_lit 0), iv (nat_lit 0) (nat_lit 0), rf (nat_lit 84), iv (nat_lit 50) (nat_lit 0), iv (nat_lit 0) (nat_lit 0), rf (nat_lit 91), iv (nat_lit 65) (nat_lit 0), iv (nat_lit 0) (nat_lit 0), rf (nat_lit 98), iv (nat_lit 76) (nat_lit 0), iv (nat_lit 0) (nat_lit 0), rf (nat_lit 105), iv (nat_lit 84) (nat_lit 0), iv (nat_lit 0) (nat_lit 0), rf (nat_lit 112), iv (nat_lit 90) (nat_lit 0), iv (nat_lit 0) (nat_lit 0), rf (nat_lit 119), iv (nat_lit 100) (nat_lit 0), iv (nat_lit 0) (nat_lit 0), rf (nat_lit 126), iv (nat_lit 111) (nat_lit 0), iv (nat_lit 0) (nat_lit 0), rf (nat_lit 133), iv (nat_lit 117) (nat_lit 0), iv (nat_lit 0) (nat_lit 0), rf (nat_lit 141), iv (nat_lit 127) (nat_lit 0), iv (nat_lit 0) (nat_lit 0), rf (nat_lit 148), iv (nat_lit 131) (nat_lit 0), iv (nat_lit 0) (nat_lit 0), rf (nat_lit 155), iv (nat_lit 142) (nat_lit 0), iv (nat_lit 0) (nat_lit 0), rf (nat_lit 162), iv (nat_lit 150) (nat_lit 0), iv (nat_lit 0) (nat_lit 0), rf (nat_lit 169), iv (nat_lit 160) (nat_lit 0), iv (nat_lit 0) (nat_lit 0), rf (nat_lit 176), iv (nat_lit 166) (nat_lit 0), iv (nat_lit 0) (nat_lit 0), rf (nat_lit 183), iv (nat_lit 173) (nat_lit 0), iv (nat_lit 0) (nat_lit 0), rf (nat_lit 190), iv (nat_lit 187) (nat_lit 0), iv (nat_lit 0) (nat_lit 0), rf (nat_lit 197)] } 
noncomputable def o72 : Obj := { cls := Value.type "tuple", data := Data.seq #[] } 
noncomputable def o73 : Obj := { cls := Value.none, data := Data.fields #[] } 
noncomputable def o74 : Obj := { cls := Value.type "tuple", data := Data.seq #[sv "text" (nat_lit 306), sv "found" (nat_lit 307), sv "sign" (nat_lit 308), sv "code" (nat_lit 309)] } 
noncomputable def o75 : Obj := { cls := Value.type "tuple", data := Data.seq #[] } 
noncomputable def o76 : Obj := fnT MB (nat_lit 14) (Str.ofString "utf8")
noncomputable def o77 : Obj := { cls := Value.type "code", data := Data.fields #[sv "utf8" (nat_lit 303), sv "utf8" (nat_lit 304), sv "/claim/cut.py" (nat_lit 305), iv (nat_lit 21) (nat_lit 0), iv (nat_lit 1) (nat_lit 0), iv (nat_lit 0) (nat_lit 0), iv (nat_lit 0) (nat_lit 0), iv (nat_lit 3) (nat_lit 0), rf (nat_lit 72), Value.bool true, iv (nat_lit 181) (nat_lit 0), rf (nat_lit 73), Value.none, rf (nat_lit 74), rf (nat_lit 75), rf (nat_lit 76), iv (nat_lit 310) (nat_lit 0), iv (nat_lit 21) (nat_lit 0), sv "/claim/cut.py" (nat_lit 311)] } 
noncomputable def o79 : Obj := { cls := Value.type "tuple", data := Data.seq #[] } 
noncomputable def o80 : Obj := { cls := Value.none, data := Data.fields #[] } 
noncomputable def o81 : Obj := { cls := Value.type "tuple", data := Data.seq #[sv "octet" (nat_lit 316)] } 
noncomputable def o82 : Obj := { cls := Value.type "tuple", data := Data.seq #[] } 
noncomputable def o83 : Obj := fnT MB (nat_lit 15) (Str.ofString "lead_of")
noncomputable def o84 : Obj := { cls := Value.type "code", data := Data.fields #[sv "lead_of" (nat_lit 313), sv "lead_of" (nat_lit 314), sv "/claim/cut.py" (nat_lit 315), iv (nat_lit 40) (nat_lit 0), iv (nat_lit 1) (nat_lit 0), iv (nat_lit 0) (nat_lit 0), iv (nat_lit 0) (nat_lit 0), iv (nat_lit 3) (nat_lit 0), rf (nat_lit 79), Value.bool true, iv (nat_lit 181) (nat_lit 0), rf (nat_lit 80), Value.none, rf (nat_lit 81), rf (nat_lit 82), rf (nat_lit 83), iv (nat_lit 317) (nat_lit 0), iv (nat_lit 40) (nat_lit 0), sv "/claim/cut.py" (nat_lit 318)] } 
noncomputable def o86 : Obj := { cls := Value.type "tuple", data := Data.seq #[] } 
noncomputable def o87 : Obj := { cls := Value.none, data := Data.fields #[] } 
noncomputable def o88 : Obj := { cls := Value.type "tuple", data := Data.seq #[sv "octets" (nat_lit 323), sv "signs" (nat_lit 324), sv "at" (nat_lit 325), sv "lead" (nat_lit 326), sv "code" (nat_lit 327)] } 
noncomputable def o89 : Obj := { cls := Value.type "tuple", data := Data.seq #[] } 
noncomputable def o90 : Obj := fnT MB (nat_lit 16) (Str.ofString "text_of")
noncomputable def o91 : Obj := { cls := Value.type "code", data := Data.fields #[sv "text_of" (nat_lit 320), sv "text_of" (nat_lit 321), sv "/claim/cut.py" (nat_lit 322), iv (nat_lit 50) (nat_lit 0), iv (nat_lit 1) (nat_lit 0), iv (nat_lit 0) (nat_lit 0), iv (nat_lit 0) (nat_lit 0), iv (nat_lit 3) (nat_lit 0), rf (nat_lit 86), Value.bool true, iv (nat_lit 181) (nat_lit 0), rf (nat_lit 87), Value.none, rf (nat_lit 88), rf (nat_lit 89), rf (nat_lit 90), iv (nat_lit 328) (nat_lit 0), iv (nat_lit 50) (nat_lit 0), sv "/claim/cut.py" (nat_lit 329)] } 
noncomputable def o93 : Obj := { cls := Value.type "tuple", data := Data.seq #[] } 
noncomputable def o94 : Obj := { cls := Value.none, data := Data.fields #[] } 
noncomputable def o95 : Obj := { cls := Value.type "tuple", data := Data.seq #[sv "octets" (nat_lit 334), sv "at" (nat_lit 335), sv "lead" (nat_lit 336), sv "follow" (nat_lit 337), sv "code" (nat_lit 338), sv "least" (nat_lit 339), sv "place" (nat_lit 340)] } 
noncomputable def o96 : Obj := { cls := Value.type "tuple", data := Data.seq #[] } 
noncomputable def o97 : Obj := fnT MB (nat_lit 17) (Str.ofString "code_at")
noncomputable def o98 : Obj := { cls := Value.type "code", data := Data.fields #[sv "code_at" (nat_lit 331), sv "code_at" (nat_lit 332), sv "/claim/cut.py" (nat_lit 333), iv (nat_lit 65) (nat_lit 0), iv (nat_lit 3) (nat_lit 0), iv (nat_lit 0) (nat_lit 0), iv (nat_lit 0) (nat_lit 0), iv (nat_lit 3) (nat_lit 0), rf (nat_lit 93), Value.bool true, iv (nat_lit 181) (nat_lit 0), rf (nat_lit 94), Value.none, rf (nat_lit 95), rf (nat_lit 96), rf (nat_lit 97), iv (nat_lit 341) (nat_lit 0), iv (nat_lit 65) (nat_lit 0), sv "/claim/cut.py" (nat_lit 342)] } 
noncomputable def o100 : Obj := { cls := Value.type "tuple", data := Data.seq #[] } 
noncomputable def o101 : Obj := { cls := Value.none, data := Data.fields #[] } 
noncomputable def o102 : Obj := { cls := Value.type "tuple", data := Data.seq #[sv "text" (nat_lit 347), sv "signs" (nat_lit 348), sv "sign" (nat_lit 349)] } 
noncomputable def o103 : Obj := { cls := Value.type "tuple", data := Data.seq #[] } 
noncomputable def o104 : Obj := fnT MB (nat_lit 18) (Str.ofString "fold_ascii")
noncomputable def o105 : Obj := { cls := Value.type "code", data := Data.fields #[sv "fold_ascii" (nat_lit 344), sv "fold_ascii" (nat_lit 345), sv "/claim/cut.py" (nat_lit 346), iv (nat_lit 76) (nat_lit 0), iv (nat_lit 1) (nat_lit 0), iv (nat_lit 0) (nat_lit 0), iv (nat_lit 0) (nat_lit 0), iv (nat_lit 3) (nat_lit 0), rf (nat_lit 100), Value.bool true, iv (nat_lit 181) (nat_lit 0), rf (nat_lit 101), Value.none, rf (nat_lit 102), rf (nat_lit 103), rf (nat_lit 104), iv (nat_lit 350) (nat_lit 0), iv (nat_lit 76) (nat_lit 0), sv "/claim/cut.py" (nat_lit 351)] } 
noncomputable def o106 : Obj := fnX MB (nat_lit 18) (Str.ofString "fold_ascii") Value.none (sv "pagebase.values" (nat_lit 266)) (rf (nat_lit 105)) (.type "function")
noncomputable def o107 : Obj := { cls := Value.type "tuple", data := Data.seq #[] } 
noncomputable def o108 : Obj := { cls := Value.none, data := Data.fields #[] } 
noncomputable def o109 : Obj := { cls := Value.type "tuple", data := Data.seq #[sv "octets" (nat_lit 356), sv "signs" (nat_lit 357), sv "octet" (nat_lit 358)] } 
noncomputable def o110 : Obj := { cls := Value.type "tuple", data := Data.seq #[] } 
noncomputable def o111 : Obj := fnT MB (nat_lit 19) (Str.ofString "hex_text")
noncomputable def o112 : Obj := { cls := Value.type "code", data := Data.fields #[sv "hex_text" (nat_lit 353), sv "hex_text" (nat_lit 354), sv "/claim/cut.py" (nat_lit 355), iv (nat_lit 84) (nat_lit 0), iv (nat_lit 1) (nat_lit 0), iv (nat_lit 0) (nat_lit 0), iv (nat_lit 0) (nat_lit 0), iv (nat_lit 3) (nat_lit 0), rf (nat_lit 107), Value.bool true, iv (nat_lit 181) (nat_lit 0), rf (nat_lit 108), Value.none, rf (nat_lit 109), rf (nat_lit 110), rf (nat_lit 111), iv (nat_lit 359) (nat_lit 0), iv (nat_lit 84) (nat_lit 0), sv "/claim/cut.py" (nat_lit 360)] } 
noncomputable def o114 : Obj := { cls := Value.type "tuple", data := Data.seq #[] } 
noncomputable def o115 : Obj := { cls := Value.none, data := Data.fields #[] } 
noncomputable def o116 : Obj := { cls := Value.type "tuple", data := Data.seq #[sv "v" (nat_lit 365)] } 
noncomputable def o117 : Obj := { cls := Value.type "tuple", data := Data.seq #[] } 
noncomputable def o118 : Obj := fnT MB (nat_lit 20) (Str.ofString "storage_class")
noncomputable def o119 : Obj := { cls := Value.type "code", data := Data.fields #[sv "storage_class" (nat_lit 362), sv "storage_class" (nat_lit 363), sv "/claim/cut.py" (nat_lit 364), iv (nat_lit 90) (nat_lit 0), iv (nat_lit 1) (nat_lit 0), iv (nat_lit 0) (nat_lit 0), iv (nat_lit 0) (nat_lit 0), iv (nat_lit 3) (nat_lit 0), rf (nat_lit 114), Value.bool true, iv (nat_lit 181) (nat_lit 0), rf (nat_lit 115), Value.none, rf (nat_lit 116), rf (nat_lit 117), rf (nat_lit 118), iv (nat_lit 366) (nat_lit 0), iv (nat_lit 90) (nat_lit 0), sv "/claim/cut.py" (nat_lit 367)] } 
noncomputable def o120 : Obj := fnX MB (nat_lit 20) (Str.ofString "storage_class") Value.none (sv "pagebase.values" (nat_lit 266)) (rf (nat_lit 119)) (.type "function")
noncomputable def o121 : Obj := { cls := Value.type "tuple", data := Data.seq #[] } 
noncomputable def o122 : Obj := { cls := Value.none, data := Data.fields #[] } 
noncomputable def o123 : Obj := { cls := Value.type "tuple", data := Data.seq #[sv "text" (nat_lit 372), sv "collation" (nat_lit 373), sv "end" (nat_lit 374)] } 
noncomputable def o124 : Obj := { cls := Value.type "tuple", data := Data.seq #[] } 
noncomputable def o125 : Obj := fnT MB (nat_lit 21) (Str.ofString "collate")
noncomputable def o126 : Obj := { cls := Value.type "code", data := Data.fields #[sv "collate" (nat_lit 369), sv "collate" (nat_lit 370), sv "/claim/cut.py" (nat_lit 371), iv (nat_lit 100) (nat_lit 0), iv (nat_lit 2) (nat_lit 0), iv (nat_lit 0) (nat_lit 0), iv (nat_lit 0) (nat_lit 0), iv (nat_lit 3) (nat_lit 0), rf (nat_lit 121), Value.bool true, iv (nat_lit 181) (nat_lit 0), rf (nat_lit 122), Value.none, rf (nat_lit 123), rf (nat_lit 124), rf (nat_lit 125), iv (nat_lit 375) (nat_lit 0), iv (nat_lit 100) (nat_lit 0), sv "/claim/cut.py" (nat_lit 376)] } 
noncomputable def o127 : Obj := fnX MB (nat_lit 21) (Str.ofString "collate") Value.none (sv "pagebase.values" (nat_lit 266)) (rf (nat_lit 126)) (.type "function")
noncomputable def o128 : Obj := { cls := Value.type "tuple", data := Data.seq #[] } 
noncomputable def o129 : Obj := { cls := Value.none, data := Data.fields #[] } 
noncomputable def o130 : Obj := { cls := Value.type "tuple", data := Data.seq #[sv "one" (nat_lit 381), sv "other" (nat_lit 382)] } 
noncomputable def o131 : Obj := { cls := Value.type "tuple", data := Data.seq #[] } 
noncomputable def o132 : Obj := fnT MB (nat_lit 22) (Str.ofString "sign_of")
noncomputable def o133 : Obj := { cls := Value.type "code", data := Data.fields #[sv "sign_of" (nat_lit 378), sv "sign_of" (nat_lit 379), sv "/claim/cut.py" (nat_lit 380), iv (nat_lit 111) (nat_lit 0), iv (nat_lit 2) (nat_lit 0), iv (nat_lit 0) (nat_lit 0), iv (nat_lit 0) (nat_lit 0), iv (nat_lit 3) (nat_lit 0), rf (nat_lit 128), Value.bool true, iv (nat_lit 181) (nat_lit 0), rf (nat_lit 129), Value.none, rf (nat_lit 130), rf (nat_lit 131), rf (nat_lit 132), iv (nat_lit 383) (nat_lit 0), iv (nat_lit 111) (nat_lit 0), sv "/claim/cut.py" (nat_lit 384)] } 
noncomputable def o134 : Obj := fnX MB (nat_lit 22) (Str.ofString "sign_of") Value.none (sv "pagebase.values" (nat_lit 266)) (rf (nat_lit 133)) (.type "function")
noncomputable def o135 : Obj := { cls := Value.type "tuple", data := Data.seq #[sv "binary" (nat_lit 386)] } 
noncomputable def o136 : Obj := { cls := Value.type "tuple", data := Data.seq #[] } 
noncomputable def o137 : Obj := { cls := Value.none, data := Data.fields #[] } 
noncomputable def o138 : Obj := { cls := Value.type "tuple", data := Data.seq #[sv "a" (nat_lit 390), sv "b" (nat_lit 391), sv "collation" (nat_lit 392), sv "one" (nat_lit 393), sv "other" (nat_lit 394)] } 
noncomputable def o139 : Obj := { cls := Value.type "tuple", data := Data.seq #[] } 
noncomputable def o140 : Obj := fnT MB (nat_lit 23) (Str.ofString "compare_values")
noncomputable def o141 : Obj := { cls := Value.type "code", data := Data.fields #[sv "compare_values" (nat_lit 387), sv "compare_values" (nat_lit 388), sv "/claim/cut.py" (nat_lit 389), iv (nat_lit 117) (nat_lit 0), iv (nat_lit 3) (nat_lit 0), iv (nat_lit 0) (nat_lit 0), iv (nat_lit 0) (nat_lit 0), iv (nat_lit 3) (nat_lit 0), rf (nat_lit 136), Value.bool true, iv (nat_lit 181) (nat_lit 0), rf (nat_lit 137), Value.none, rf (nat_lit 138), rf (nat_lit 139), rf (nat_lit 140), iv (nat_lit 395) (nat_lit 0), iv (nat_lit 117) (nat_lit 0), sv "/claim/cut.py" (nat_lit 396)] } 
noncomputable def o142 : Obj := fnX MB (nat_lit 23) (Str.ofString "compare_values") (rf (nat_lit 135)) (sv "pagebase.values" (nat_lit 266)) (rf (nat_lit 141)) (.type "function")
noncomputable def o143 : Obj := { cls := Value.type "tuple", data := Data.seq #[] } 
noncomputable def o144 : Obj := { cls := Value.none, data := Data.fields #[] } 
noncomputable def o145 : Obj := { cls := Value.type "tuple", data := Data.seq #[sv "text" (nat_lit 401), sv "at" (nat_lit 402)] } 
noncomputable def o146 : Obj := { cls := Value.type "tuple", data := Data.seq #[] } 
noncomputable def o147 : Obj := fnT MB (nat_lit 24) (Str.ofString "digits_end")
noncomputable def o148 : Obj := { cls := Value.type "code", data := Data.fields #[sv "digits_end" (nat_lit 398), sv "digits_end" (nat_lit 399), sv "/claim/cut.py" (nat_lit 400), iv (nat_lit 127) (nat_lit 0), iv (nat_lit 2) (nat_lit 0), iv (nat_lit 0) (nat_lit 0), iv (nat_lit 0) (nat_lit 0), iv (nat_lit 3) (nat_lit 0), rf (nat_lit 143), Value.bool true, iv (nat_lit 181) (nat_lit 0), rf (nat_lit 144), Value.none, rf (nat_lit 145), rf (nat_lit 146), rf (nat_lit 147), iv (nat_lit 403) (nat_lit 0), iv (nat_lit 127) (nat_lit 0), sv "/claim/cut.py" (nat_lit 404)] } 
noncomputable def o150 : Obj := { cls := Value.type "tuple", data := Data.seq #[] } 
noncomputable def o151 : Obj := { cls := Value.none, data := Data.fields #[] } 
noncomputable def o152 : Obj := { cls := Value.type "tuple", data := Data.seq #[sv "text" (nat_lit 409), sv "begin" (nat_lit 410), sv "at" (nat_lit 411), sv "end" (nat_lit 412)] } 
noncomputable def o153 : Obj := { cls := Value.type "tuple", data := Data.seq #[] } 
noncomputable def o154 : Obj := fnT MB (nat_lit 25) (Str.ofString "number_span")
noncomputable def o155 : Obj := { cls := Value.type "code", data := Data.fields #[sv "number_span" (nat_lit 406), sv "number_span" (nat_lit 407), sv "/claim/cut.py" (nat_lit 408), iv (nat_lit 131) (nat_lit 0), iv (nat_lit 1) (nat_lit 0), iv (nat_lit 0) (nat_lit 0), iv (nat_lit 0) (nat_lit 0), iv (nat_lit 3) (nat_lit 0), rf (nat_lit 150), Value.bool true, iv (nat_lit 181) (nat_lit 0), rf (nat_lit 151), Value.none, rf (nat_lit 152), rf (nat_lit 153), rf (nat_lit 154), iv (nat_lit 413) (nat_lit 0), iv (nat_lit 131) (nat_lit 0), sv "/claim/cut.py" (nat_lit 414)] } 
noncomputable def o157 : Obj := { cls := Value.type "tuple", data := Data.seq #[] } 
noncomputable def o158 : Obj := { cls := Value.none, data := Data.fields #[] } 
noncomputable def o159 : Obj := { cls := Value.type "tuple", data := Data.seq #[sv "text" (nat_lit 419), sv "number" (nat_lit 420), sv "sign" (nat_lit 421)] } 
noncomputable def o160 : Obj := { cls := Value.type "tuple", data := Data.seq #[] } 
noncomputable def o161 : Obj := fnT MB (nat_lit 26) (Str.ofString "number_of")
noncomputable def o162 : Obj := { cls := Value.type "code", data := Data.fields #[sv "number_of" (nat_lit 416), sv "number_of" (nat_lit 417), sv "/claim/cut.py" (nat_lit 418), iv (nat_lit 142) (nat_lit 0), iv (nat_lit 1) (nat_lit 0), iv (nat_lit 0) (nat_lit 0), iv (nat_lit 0) (nat_lit 0), iv (nat_lit 3) (nat_lit 0), rf (nat_lit 157), Value.bool true, iv (nat_lit 181) (nat_lit 0), rf (nat_lit 158), Value.none, rf (nat_lit 159), rf (nat_lit 160), rf (nat_lit 161), iv (nat_lit 422) (nat_lit 0), iv (nat_lit 142) (nat_lit 0), sv "/claim/cut.py" (nat_lit 423)] } 
noncomputable def o164 : Obj := { cls := Value.type "tuple", data := Data.seq #[] } 
noncomputable def o165 : Obj := { cls := Value.none, data := Data.fields #[] } 
noncomputable def o166 : Obj := { cls := Value.type "tuple", data := Data.seq #[sv "v" (nat_lit 428), sv "text" (nat_lit 429), sv "span" (nat_lit 430)] } 
noncomputable def o167 : Obj := { cls := Value.type "tuple", data := Data.seq #[] } 
noncomputable def o168 : Obj := fnT MB (nat_lit 27) (Str.ofString "as_integer")
noncomputable def o169 : Obj := { cls := Value.type "code", data := Data.fields #[sv "as_integer" (nat_lit 425), sv "as_integer" (nat_lit 426), sv "/claim/cut.py" (nat_lit 427), iv (nat_lit 150) (nat_lit 0), iv (nat_lit 1) (nat_lit 0), iv (nat_lit 0) (nat_lit 0), iv (nat_lit 0) (nat_lit 0), iv (nat_lit 3) (nat_lit 0), rf (nat_lit 164), Value.bool true, iv (nat_lit 181) (nat_lit 0), rf (nat_lit 165), Value.none, rf (nat_lit 166), rf (nat_lit 167), rf (nat_lit 168), iv (nat_lit 431) (nat_lit 0), iv (nat_lit 150) (nat_lit 0), sv "/claim/cut.py" (nat_lit 432)] } 
noncomputable def o171 : Obj := { cls := Value.type "tuple", data := Data.seq #[] } 
noncomputable def o172 : Obj := { cls := Value.none, data := Data.fields #[] } 
noncomputable def o173 : Obj := { cls := Value.type "tuple", data := Data.seq #[sv "v" (nat_lit 437)] } 
noncomputable def o174 : Obj := { cls := Value.type "tuple", data := Data.seq #[] } 
noncomputable def o175 : Obj := fnT MB (nat_lit 28) (Str.ofString "as_text")
noncomputable def o176 : Obj := { cls := Value.type "code", data := Data.fields #[sv "as_text" (nat_lit 434), sv "as_text" (nat_lit 435), sv "/claim/cut.py" (nat_lit 436), iv (nat_lit 160) (nat_lit 0), iv (nat_lit 1) (nat_lit 0), iv (nat_lit 0) (nat_lit 0), iv (nat_lit 0) (nat_lit 0), iv (nat_lit 3) (nat_lit 0), rf (nat_lit 171), Value.bool true, iv (nat_lit 181) (nat_lit 0), rf (nat_lit 172), Value.none, rf (nat_lit 173), rf (nat_lit 174), rf (nat_lit 175), iv (nat_lit 438) (nat_lit 0), iv (nat_lit 160) (nat_lit 0), sv "/claim/cut.py" (nat_lit 439)] } 
noncomputable def o178 : Obj := { cls := Value.type "tuple", data := Data.seq #[] } 
noncomputable def o179 : Obj := { cls := Value.none, data := Data.fields #[] } 
noncomputable def o180 : Obj := { cls := Value.type "tuple", data := Data.seq #[sv "texts" (nat_lit 444), sv "size" (nat_lit 445), sv "text" (nat_lit 446)] } 
noncomputable def o181 : Obj := { cls := Value.type "tuple", data := Data.seq #[] } 
noncomputable def o182 : Obj := fnT MB (nat_lit 29) (Str.ofString "joined")
noncomputable def o183 : Obj := { cls := Value.type "code", data := Data.fields #[sv "joined" (nat_lit 441), sv "joined" (nat_lit 442), sv "/claim/cut.py" (nat_lit 443), iv (nat_lit 166) (nat_lit 0), iv (nat_lit 1) (nat_lit 0), iv (nat_lit 0) (nat_lit 0), iv (nat_lit 0) (nat_lit 0), iv (nat_lit 3) (nat_lit 0), rf (nat_lit 178), Value.bool true, iv (nat_lit 181) (nat_lit 0), rf (nat_lit 179), Value.none, rf (nat_lit 180), rf (nat_lit 181), rf (nat_lit 182), iv (nat_lit 447) (nat_lit 0), iv (nat_lit 166) (nat_lit 0), sv "/claim/cut.py" (nat_lit 448)] } 
noncomputable def o185 : Obj := { cls := Value.type "tuple", data := Data.seq #[] } 
noncomputable def o186 : Obj := { cls := Value.none, data := Data.fields #[] } 
noncomputable def o187 : Obj := { cls := Value.type "tuple", data := Data.seq #[sv "v" (nat_lit 453), sv "kind" (nat_lit 454)] } 
noncomputable def o188 : Obj := { cls := Value.type "tuple", data := Data.seq #[] } 
noncomputable def o189 : Obj := fnT MB (nat_lit 30) (Str.ofString "write_literal")
noncomputable def o190 : Obj := { cls := Value.type "code", data := Data.fields #[sv "write_literal" (nat_lit 450), sv "write_literal" (nat_lit 451), sv "/claim/cut.py" (nat_lit 452), iv (nat_lit 173) (nat_lit 0), iv (nat_lit 1) (nat_lit 0), iv (nat_lit 0) (nat_lit 0), iv (nat_lit 0) (nat_lit 0), iv (nat_lit 3) (nat_lit 0), rf (nat_lit 185), Value.bool true, iv (nat_lit 181) (nat_lit 0), rf (nat_lit 186), Value.none, rf (nat_lit 187), rf (nat_lit 188), rf (nat_lit 189), iv (nat_lit 455) (nat_lit 0), iv (nat_lit 173) (nat_lit 0), sv "/claim/cut.py" (nat_lit 456)] } 
noncomputable def o191 : Obj := fnX MB (nat_lit 30) (Str.ofString "write_literal") Value.none (sv "pagebase.values" (nat_lit 266)) (rf (nat_lit 190)) (.type "function")
noncomputable def o192 : Obj := { cls := Value.type "tuple", data := Data.seq #[] } 
noncomputable def o193 : Obj := { cls := Value.type "builtin_function_or_method", data := Data.fields #[Value.builtin "type.__prepare__", Value.type "type"] } 
noncomputable def o194 (P : Params) : Obj := { cls := Value.type "dict", data := Data.dict #[de P "__module__" (nat_lit 475) (sv "pagebase.text_match" (nat_lit 458)), de P "__qualname__" (nat_lit 477) (sv "Part" (nat_lit 476)), de P "__firstlineno__" (nat_lit 479) (iv (nat_lit 187) (nat_lit 478)), de P "__init__" (nat_lit 490) (rf (nat_lit 206)), de P "takes" (nat_lit 501) (rf (nat_lit 213)), de P "__static_attributes__" (nat_lit 506) (rf (nat_lit 214))] 6 } 
noncomputable def o195 : Obj := { cls := Value.type "tuple", data := Data.seq #[] } 
noncomputable def o196 : Obj := { cls := Value.none, data := Data.fields #[iv (nat_lit 189) (nat_lit 0), iv (nat_lit 4) (nat_lit 0), rf (nat_lit 205), iv (nat_lit 195) (nat_lit 0), iv (nat_lit 4) (nat_lit 0), rf (nat_lit 212)] } 
noncomputable def o197 : Obj := { cls := Value.type "code", data := Data.fields #[sv "Part" (nat_lit 470), sv "Part" (nat_lit 471), sv "/claim/cut.py" (nat_lit 472), iv (nat_lit 187) (nat_lit 0), iv (nat_lit 0) (nat_lit 0), iv (nat_lit 0) (nat_lit 0), iv (nat_lit 0) (nat_lit 0), iv (nat_lit 0) (nat_lit 0), rf (nat_lit 195), Value.bool false, iv (nat_lit 181) (nat_lit 0), rf (nat_lit 196), Value.none, Value.none, Value.none, Value.none, iv (nat_lit 473) (nat_lit 0), iv (nat_lit 187) (nat_lit 0), sv "/claim/cut.py" (nat_lit 474)] } 
noncomputable def o198 : Obj := { cls := Value.type "frame", slots := #[some (rf (nat_lit 197)), some (rf (nat_lit 3)), some (rf (nat_lit 194)), none, some (sv "pagebase.text_match" (nat_lit 458)), none, some (rf (nat_lit 0))] } 
noncomputable def o199 : Obj := { cls := Value.type "tuple", data := Data.seq #[Value.none, Value.none, Value.bool false] } 
noncomputable def o200 : Obj := { cls := Value.type "tuple", data := Data.seq #[] } 
noncomputable def o201 : Obj := { cls := Value.none, data := Data.fields #[] } 
noncomputable def o202 : Obj := { cls := Value.type "tuple", data := Data.seq #[sv "self" (nat_lit 483), sv "kind" (nat_lit 484), sv "sign" (nat_lit 485), sv "ranges" (nat_lit 486), sv "negated" (nat_lit 487)] } 
noncomputable def o203 : Obj := { cls := Value.type "tuple", data := Data.seq #[] } 
noncomputable def o204 : Obj := fnT (bodyAt 36) (nat_lit 0) (Str.ofString "Part.__init__")
noncomputable def o205 : Obj := { cls := Value.type "code", data := Data.fields #[sv "__init__" (nat_lit 480), sv "Part.__init__" (nat_lit 481), sv "/claim/cut.py" (nat_lit 482), iv (nat_lit 189) (nat_lit 0), iv (nat_lit 5) (nat_lit 0), iv (nat_lit 0) (nat_lit 0), iv (nat_lit 0) (nat_lit 0), iv (nat_lit 3) (nat_lit 0), rf (nat_lit 200), Value.bool true, iv (nat_lit 181) (nat_lit 0), rf (nat_lit 201), Value.none, rf (nat_lit 202), rf (nat_lit 203), rf (nat_lit 204), iv (nat_lit 488) (nat_lit 0), iv (nat_lit 189) (nat_lit 0), sv "/claim/cut.py" (nat_lit 489)] } 
noncomputable def o206 : Obj := fnX (bodyAt 36) (nat_lit 0) (Str.ofString "Part.__init__") (rf (nat_lit 199)) (sv "pagebase.text_match" (nat_lit 458)) (rf (nat_lit 205)) (.type "function")
noncomputable def o207 : Obj := { cls := Value.type "tuple", data := Data.seq #[] } 
noncomputable def o208 : Obj := { cls := Value.none, data := Data.fields #[] } 
noncomputable def o209 : Obj := { cls := Value.type "tuple", data := Data.seq #[sv "self" (nat_lit 494), sv "sign" (nat_lit 495), sv "inside" (nat_lit 496), sv "low" (nat_lit 497), sv "high" (nat_lit 498)] } 
noncomputable def o210 : Obj := { cls := Value.type "tuple", data := Data.seq #[] } 
noncomputable def o211 : Obj := fnT (bodyAt 36) (nat_lit 1) (Str.ofString "Part.takes")
noncomputable def o212 : Obj := { cls := Value.type "code", data := Data.fields #[sv "takes" (nat_lit 491), sv "Part.takes" (nat_lit 492), sv "/claim/cut.py" (nat_lit 493), iv (nat_lit 195) (nat_lit 0), iv (nat_lit 2) (nat_lit 0), iv (nat_lit 0) (nat_lit 0), iv (nat_lit 0) (nat_lit 0), iv (nat_lit 3) (nat_lit 0), rf (nat_lit 207), Value.bool true, iv (nat_lit 181) (nat_lit 0), rf (nat_lit 208), Value.none, rf (nat_lit 209), rf (nat_lit 210), rf (nat_lit 211), iv (nat_lit 499) (nat_lit 0), iv (nat_lit 195) (nat_lit 0), sv "/claim/cut.py" (nat_lit 500)] } 
noncomputable def o213 : Obj := fnX (bodyAt 36) (nat_lit 1) (Str.ofString "Part.takes") Value.none (sv "pagebase.text_match" (nat_lit 458)) (rf (nat_lit 212)) (.type "function")
noncomputable def o214 : Obj := { cls := Value.type "tuple", data := Data.seq #[sv "kind" (nat_lit 502), sv "negated" (nat_lit 503), sv "ranges" (nat_lit 504), sv "sign" (nat_lit 505)] } 
noncomputable def o215 (P : Params) : Obj := { cls := Value.type "dict", data := Data.dict #[de P "__module__" (nat_lit 475) (sv "pagebase.text_match" (nat_lit 458)), de P "__firstlineno__" (nat_lit 479) (iv (nat_lit 187) (nat_lit 478)), de P "__init__" (nat_lit 490) (rf (nat_lit 206)), de P "takes" (nat_lit 501) (rf (nat_lit 213)), de P "__static_attributes__" (nat_lit 506) (rf (nat_lit 214)), de P "__dict__" (nat_lit 508) (rf (nat_lit 217)), de P "__weakref__" (nat_lit 510) (rf (nat_lit 218)), de P "__doc__" (nat_lit 511) (Value.none)] 4 } 
noncomputable def o216 : Obj := { cls := Value.type "type", data := Data.cls { name := Str.ofString "Part", bases := [Value.type "object"], mro := [rf (nat_lit 216), Value.type "object"], ns := 215, qualname := Str.ofString "Part" }, slots := #[none, none, some (sv "Part" (nat_lit 468)), some (sv "Part" (nat_lit 476)), some (Value.builtin "object.__new__"), some (Value.bool true)] } 
noncomputable def o217 : Obj := { cls := Value.type "getset_descriptor", data := Data.fields #[sv "__dict__" (nat_lit 507), rf (nat_lit 216), Value.builtin "function.__dict__", Value.builtin "function.__dict__#set"] } 
noncomputable def o218 : Obj := { cls := Value.type "getset_descriptor", data := Data.fields #[sv "__weakref__" (nat_lit 509), rf (nat_lit 216), Value.builtin "ExceptionGroup.__weakref__", Value.none] } 
noncomputable def o219 : Obj := { cls := Value.type "super", data := Data.fields #[rf (nat_lit 216), rf (nat_lit 216), rf (nat_lit 216)] } 
noncomputable def o220 : Obj := { cls := Value.type "builtin_function_or_method", data := Data.fields #[Value.builtin "object.__init_subclass__", rf (nat_lit 216)] } 
noncomputable def o3v3 (P : Params) : Obj := { cls := Value.type "dict", data := Data.dict #[de P "__name__" (nat_lit 165) (sv "law_pq0800_01" (nat_lit 721)), de P "__doc__" (nat_lit 166) (Value.none), de P "__package__" (nat_lit 167) (Value.none), de P "__loader__" (nat_lit 168) (Value.builtin "__main__.__loader__#opaque"), de P "__spec__" (nat_lit 169) (Value.none), de P "__annotations__" (nat_lit 170) (rf (nat_lit 6)), de P "__builtins__" (nat_lit 171) (rf (nat_lit 4)), de P "__file__" (nat_lit 173) (sv "/claim/cut.py" (nat_lit 172)), de P "__cached__" (nat_lit 174) (Value.none), de P "PagebaseError" (nat_lit 217) (rf (nat_lit 31)), de P "SqlError" (nat_lit 233) (rf (nat_lit 44)), de P "TooBigError" (nat_lit 249) (rf (nat_lit 56)), de P "MisuseError" (nat_lit 265) (rf (nat_lit 68)), de P "MIN_INT" (nat_lit 272) (Value.int (-9223372036854775808) 271), de P "MAX_INT" (nat_lit 278) (iv (nat_lit 9223372036854775807) (nat_lit 277)), de P "MOST_OCTETS" (nat_lit 280) (iv (nat_lit 100000) (nat_lit 279)), de P "STORAGE_RANKS" (nat_lit 293) (rf (nat_lit 71)), de P "SPACES" (nat_lit 295) (sv " \t\n\x0b\x0c\x0d" (nat_lit 294)), de P "DIGITS" (nat_lit 297) (sv "0123456789" (nat_lit 296)), de P "HEX_DIGITS" (nat_lit 299) (sv "0123456789ABCDEF" (nat_lit 298)), de P "REPLACEMENT" (nat_lit 302) (sv "�" (nat_lit 301)), de P "utf8" (nat_lit 312) (rf (nat_lit 78)), de P "lead_of" (nat_lit 319) (rf (nat_lit 85)), de P "text_of" (nat_lit 330) (rf (nat_lit 92)), de P "code_at" (nat_lit 343) (rf (nat_lit 99)), de P "fold_ascii" (nat_lit 352) (rf (nat_lit 106)), de P "hex_text" (nat_lit 361) (rf (nat_lit 113)), de P "storage_class" (nat_lit 368) (rf (nat_lit 120)), de P "collate" (nat_lit 377) (rf (nat_lit 127)), de P "sign_of" (nat_lit 385) (rf (nat_lit 134)), de P "compare_values" (nat_lit 397) (rf (nat_lit 142)), de P "digits_end" (nat_lit 405) (rf (nat_lit 149)), de P "number_span" (nat_lit 415) (rf (nat_lit 156)), de P "number_of" (nat_lit 424) (rf (nat_lit 163)), de P "as_integer" (nat_lit 433) (rf (nat_lit 170)), de P "as_text" (nat_lit 440) (rf (nat_lit 177)), de P "joined" (nat_lit 449) (rf (nat_lit 184)), de P "write_literal" (nat_lit 457) (rf (nat_lit 191)), de P "ANY" (nat_lit 461) (iv (nat_lit 0) (nat_lit 460)), de P "ONE" (nat_lit 463) (iv (nat_lit 1) (nat_lit 462)), de P "SIGN" (nat_lit 465) (iv (nat_lit 2) (nat_lit 464)), de P "LOT" (nat_lit 467) (iv (nat_lit 3) (nat_lit 466)), de P "Part" (nat_lit 513) (rf (nat_lit 216)), de P "matches" (nat_lit 525) (rf (nat_lit 227)), de P "like_parts" (nat_lit 536) (rf (nat_lit 234)), de P "like" (nat_lit 546) (rf (nat_lit 242)), de P "lot_at" (nat_lit 557) (rf (nat_lit 249)), de P "glob_parts" (nat_lit 568) (rf (nat_lit 256)), de P "glob" (nat_lit 577) (rf (nat_lit 263)), de P "octets_of" (nat_lit 586) (rf (nat_lit 270)), de P "lowered" (nat_lit 592) (rf (nat_lit 275)), de P "raised" (nat_lit 598) (rf (nat_lit 280)), de P "length_of" (nat_lit 605) (rf (nat_lit 287)), de P "place_in" (nat_lit 613) (rf (nat_lit 294)), de P "trimmed" (nat_lit 625) (rf (nat_lit 301)), de P "part_of" (nat_lit 636) (rf (nat_lit 308)), de P "replaced" (nat_lit 642) (rf (nat_lit 313)), de P "chosen" (nat_lit 654) (rf (nat_lit 320)), de P "signs_of" (nat_lit 665) (rf (nat_lit 327)), de P "zeros" (nat_lit 673) (rf (nat_lit 334)), de P "escape_of" (nat_lit 681) (rf (nat_lit 341)), de P "matched" (nat_lit 690) (rf (nat_lit 348)), de P "call_with_nulls" (nat_lit 696) (rf (nat_lit 353)), de P "call_function" (nat_lit 711) (rf (nat_lit 360)), de P "call_on_texts" (nat_lit 720) (rf (nat_lit 367)), de P "_law_pool" (nat_lit 733) (rf (nat_lit 374)), de P "_law_take" (nat_lit 742) (rf (nat_lit 381)), de P "_law_one" (nat_lit 750) (rf (nat_lit 388)), de P "_law_call" (nat_lit 758) (rf (nat_lit 395)), de P "_law_number" (nat_lit 767) (rf (nat_lit 402)), de P "_law_hex" (nat_lit 773) (rf (nat_lit 407)), de P "_law_signs_right" (nat_lit 779) (rf (nat_lit 412)), de P "_law_text" (nat_lit 785) (rf (nat_lit 417)), de P "_law_value" (nat_lit 791) (rf (nat_lit 422)), de P "_law_part" (nat_lit 801) (rf (nat_lit 429)), de P "_law_replaced" (nat_lit 812) (rf (nat_lit 436)), de P "_law_replace_right" (nat_lit 825) (rf (nat_lit 443)), de P "law" (nat_lit 834) (rf (nat_lit 450))] 78 } 
noncomputable def o12v3 : Obj := { cls := Value.none, data := Data.fields #[iv (nat_lit 2) (nat_lit 0), iv (nat_lit 0) (nat_lit 0), rf (nat_lit 20), iv (nat_lit 6) (nat_lit 0), iv (nat_lit 0) (nat_lit 0), rf (nat_lit 40), iv (nat_lit 8) (nat_lit 0), iv (nat_lit 0) (nat_lit 0), rf (nat_lit 52), iv (nat_lit 10) (nat_lit 0), iv (nat_lit 0) (nat_lit 0), rf (nat_lit 64), iv (nat_lit 21) (nat_lit 0), iv (nat_lit 0) (nat_lit 0), rf (nat_lit 77), iv (nat_lit 40) (nat_lit 0), iv (nat_lit 0) (nat_lit 0), rf (nat_lit 84), iv (nat_lit 50) (nat_lit 0), iv (nat_lit 0) (nat_lit 0), rf (nat_lit 91), iv (nat_lit 65) (nat_lit 0), iv (nat_lit 0) (nat_lit 0), rf (nat_lit 98), iv (nat_lit 76) (nat_lit 0), iv (nat_lit 0) (nat_lit 0), rf (nat_lit 105), iv (nat_lit 84) (nat_lit 0), iv (nat_lit 0) (nat_lit 0), rf (nat_lit 112), iv (nat_lit 90) (nat_lit 0), iv (nat_lit 0) (nat_lit 0), rf (nat_lit 119), iv (nat_lit 100) (nat_lit 0), iv (nat_lit 0) (nat_lit 0), rf (nat_lit 126), iv (nat_lit 111) (nat_lit 0), iv (nat_lit 0) (nat_lit 0), rf (nat_lit 133), iv (nat_lit 117) (nat_lit 0), iv (nat_lit 0) (nat_lit 0), rf (nat_lit 141), iv (nat_lit 127) (nat_lit 0), iv (nat_lit 0) (nat_lit 0), rf (nat_lit 148), iv (nat_lit 131) (nat_lit 0), iv (nat_lit 0) (nat_lit 0), rf (nat_lit 155), iv (nat_lit 142) (nat_lit 0), iv (nat_lit 0) (nat_lit 0), rf (nat_lit 162), iv (nat_lit 150) (nat_lit 0), iv (nat_lit 0) (nat_lit 0), rf (nat_lit 169), iv (nat_lit 160) (nat_lit 0), iv (nat_lit 0) (nat_lit 0), rf (nat_lit 176), iv (nat_lit 166) (nat_lit 0), iv (nat_lit 0) (nat_lit 0), rf (nat_lit 183), iv (nat_lit 173) (nat_lit 0), iv (nat_lit 0) (nat_lit 0), rf (nat_lit 190), iv (nat_lit 187) (nat_lit 0), iv (nat_lit 0) (nat_lit 0), rf (nat_lit 197), iv (nat_lit 205) (nat_lit 0), iv (nat_lit 0) (nat_lit 0), rf (nat_lit 226), iv (nat_lit 227) (nat_lit 0), iv (nat_lit 0) (nat_lit 0), rf (nat_lit 233), iv (nat_lit 245) (nat_lit 0), iv (nat_lit 0) (nat_lit 0), rf (nat_lit 241), iv (nat_lit 252) (nat_lit 0), iv (nat_lit 0) (nat_lit 0), rf (nat_lit 248), iv (nat_lit 272) (nat_lit 0), iv (nat_lit 0) (nat_lit 0), rf (nat_lit 255), iv (nat_lit 291) (nat_lit 0), iv (nat_lit 0) (nat_lit 0), rf (nat_lit 262), iv (nat_lit 297) (nat_lit 0), iv (nat_lit 0) (nat_lit 0), rf (nat_lit 269), iv (nat_lit 299) (nat_lit 0), iv (nat_lit 0) (nat_lit 0), rf (nat_lit 274), iv (nat_lit 301) (nat_lit 0), iv (nat_lit 0) (nat_lit 0), rf (nat_lit 279), iv (nat_lit 303) (nat_lit 0), iv (nat_lit 0) (nat_lit 0), rf (nat_lit 286), iv (nat_lit 305) (nat_lit 0), iv (nat_lit 0) (nat_lit 0), rf (nat_lit 293), iv (nat_lit 309) (nat_lit 0), iv (nat_lit 0) (nat_lit 0), rf (nat_lit 300), iv (nat_lit 319) (nat_lit 0), iv (nat_lit 0) (nat_lit 0), rf (nat_lit 307), iv (nat_lit 342) (nat_lit 0), iv (nat_lit 0) (nat_lit 0), rf (nat_lit 312), iv (nat_lit 350) (nat_lit 0), iv (nat_lit 0) (nat_lit 0), rf (nat_lit 319), iv (nat_lit 357) (nat_lit 0), iv (nat_lit 0) (nat_lit 0), rf (nat_lit 326), iv (nat_lit 364) (nat_lit 0), iv (nat_lit 0) (nat_lit 0), rf (nat_lit 333), iv (nat_lit 369) (nat_lit 0), iv (nat_lit 0) (nat_lit 0), rf (nat_lit 340), iv (nat_lit 374) (nat_lit 0), iv (nat_lit 0) (nat_lit 0), rf (nat_lit 347), iv (nat_lit 379) (nat_lit 0), iv (nat_lit 0) (nat_lit 0), rf (nat_lit 352), iv (nat_lit 404) (nat_lit 0), iv (nat_lit 0) (nat_lit 0), rf (nat_lit 359), iv (nat_lit 426) (nat_lit 0), iv (nat_lit 0) (nat_lit 0), rf (nat_lit 366), iv (nat_lit 448) (nat_lit 0), iv (nat_lit 0) (nat_lit 0), rf (nat_lit 373), iv (nat_lit 455) (nat_lit 0), iv (nat_lit 0) (nat_lit 0), rf (nat_lit 380), iv (nat_lit 462) (nat_lit 0), iv (nat_lit 0) (nat_lit 0), rf (nat_lit 387), iv (nat_lit 464) (nat_lit 0), iv (nat_lit 0) (nat_lit 0), rf (nat_lit 394), iv (nat_lit 466) (nat_lit 0), iv (nat_lit 0) (nat_lit 0), rf (nat_lit 401), iv (nat_lit 476) (nat_lit 0), iv (nat_lit 0) (nat_lit 0), rf (nat_lit 406), iv (nat_lit 479) (nat_lit 0), iv (nat_lit 0) (nat_lit 0), rf (nat_lit 411), iv (nat_lit 492) (nat_lit 0), iv (nat_lit 0) (nat_lit 0), rf (nat_lit 416), iv (nat_lit 494) (nat_lit 0), iv (nat_lit 0) (nat_lit 0), rf (nat_lit 421), iv (nat_lit 504) (nat_lit 0), iv (nat_lit 0) (nat_lit 0), rf (nat_lit 428), iv (nat_lit 512) (nat_lit 0), iv (nat_lit 0) (nat_lit 0), rf (nat_lit 435), iv (nat_lit 520) (nat_lit 0), iv (nat_lit 0) (nat_lit 0), rf (nat_lit 442), iv (nat_lit 529) (nat_lit 0), iv (nat_lit 0) (nat_lit 0), rf (nat_lit 449)] } 
noncomputable def o221 : Obj := { cls := Value.type "tuple", data := Data.seq #[] } 
noncomputable def o222 : Obj := { cls := Value.none, data := Data.fields #[] } 
noncomputable def o223 : Obj := { cls := Value.type "tuple", data := Data.seq #[sv "parts" (nat_lit 517), sv "text" (nat_lit 518), sv "place" (nat_lit 519), sv "at" (nat_lit 520), sv "back_place" (nat_lit 521), sv "back_at" (nat_lit 522)] } 
noncomputable def o224 : Obj := { cls := Value.type "tuple", data := Data.seq #[] } 
noncomputable def o225 : Obj := fnT MB (nat_lit 37) (Str.ofString "matches")
noncomputable def o226 : Obj := { cls := Value.type "code", data := Data.fields #[sv "matches" (nat_lit 514), sv "matches" (nat_lit 515), sv "/claim/cut.py" (nat_lit 516), iv (nat_lit 205) (nat_lit 0), iv (nat_lit 2) (nat_lit 0), iv (nat_lit 0) (nat_lit 0), iv (nat_lit 0) (nat_lit 0), iv (nat_lit 3) (nat_lit 0), rf (nat_lit 221), Value.bool true, iv (nat_lit 181) (nat_lit 0), rf (nat_lit 222), Value.none, rf (nat_lit 223), rf (nat_lit 224), rf (nat_lit 225), iv (nat_lit 523) (nat_lit 0), iv (nat_lit 205) (nat_lit 0), sv "/claim/cut.py" (nat_lit 524)] } 
noncomputable def o227 : Obj := fnX MB (nat_lit 37) (Str.ofString "matches") Value.none (sv "pagebase.text_match" (nat_lit 458)) (rf (nat_lit 226)) (.type "function")
noncomputable def o228 : Obj := { cls := Value.type "tuple", data := Data.seq #[] } 
noncomputable def o229 : Obj := { cls := Value.none, data := Data.fields #[] } 
noncomputable def o230 : Obj := { cls := Value.type "tuple", data := Data.seq #[sv "pattern" (nat_lit 529), sv "escape" (nat_lit 530), sv "parts" (nat_lit 531), sv "at" (nat_lit 532), sv "sign" (nat_lit 533)] } 
noncomputable def o231 : Obj := { cls := Value.type "tuple", data := Data.seq #[] } 
noncomputable def o232 : Obj := fnT MB (nat_lit 38) (Str.ofString "like_parts")
noncomputable def o233 : Obj := { cls := Value.type "code", data := Data.fields #[sv "like_parts" (nat_lit 526), sv "like_parts" (nat_lit 527), sv "/claim/cut.py" (nat_lit 528), iv (nat_lit 227) (nat_lit 0), iv (nat_lit 2) (nat_lit 0), iv (nat_lit 0) (nat_lit 0), iv (nat_lit 0) (nat_lit 0), iv (nat_lit 3) (nat_lit 0), rf (nat_lit 228), Value.bool true, iv (nat_lit 181) (nat_lit 0), rf (nat_lit 229), Value.none, rf (nat_lit 230), rf (nat_lit 231), rf (nat_lit 232), iv (nat_lit 534) (nat_lit 0), iv (nat_lit 227) (nat_lit 0), sv "/claim/cut.py" (nat_lit 535)] } 
noncomputable def o234 : Obj := fnX MB (nat_lit 38) (Str.ofString "like_parts") Value.none (sv "pagebase.text_match" (nat_lit 458)) (rf (nat_lit 233)) (.type "function")
noncomputable def o235 : Obj := { cls := Value.type "tuple", data := Data.seq #[Value.none] } 
noncomputable def o236 : Obj := { cls := Value.type "tuple", data := Data.seq #[] } 
noncomputable def o237 : Obj := { cls := Value.none, data := Data.fields #[] } 
noncomputable def o238 : Obj := { cls := Value.type "tuple", data := Data.seq #[sv "pattern" (nat_lit 540), sv "text" (nat_lit 541), sv "escape" (nat_lit 542), sv "parts" (nat_lit 543)] } 
noncomputable def o239 : Obj := { cls := Value.type "tuple", data := Data.seq #[] } 
noncomputable def o240 : Obj := fnT MB (nat_lit 39) (Str.ofString "like")
noncomputable def o241 : Obj := { cls := Value.type "code", data := Data.fields #[sv "like" (nat_lit 537), sv "like" (nat_lit 538), sv "/claim/cut.py" (nat_lit 539), iv (nat_lit 245) (nat_lit 0), iv (nat_lit 3) (nat_lit 0), iv (nat_lit 0) (nat_lit 0), iv (nat_lit 0) (nat_lit 0), iv (nat_lit 3) (nat_lit 0), rf (nat_lit 236), Value.bool true, iv (nat_lit 181) (nat_lit 0), rf (nat_lit 237), Value.none, rf (nat_lit 238), rf (nat_lit 239), rf (nat_lit 240), iv (nat_lit 544) (nat_lit 0), iv (nat_lit 245) (nat_lit 0), sv "/claim/cut.py" (nat_lit 545)] } 
noncomputable def o242 : Obj := fnX MB (nat_lit 39) (Str.ofString "like") (rf (nat_lit 235)) (sv "pagebase.text_match" (nat_lit 458)) (rf (nat_lit 241)) (.type "function")
noncomputable def o243 : Obj := { cls := Value.type "tuple", data := Data.seq #[] } 
noncomputable def o244 : Obj := { cls := Value.none, data := Data.fields #[] } 
noncomputable def o245 : Obj := { cls := Value.type "tuple", data := Data.seq #[sv "pattern" (nat_lit 550), sv "at" (nat_lit 551), sv "negated" (nat_lit 552), sv "ranges" (nat_lit 553), sv "low" (nat_lit 554)] } 
noncomputable def o246 : Obj := { cls := Value.type "tuple", data := Data.seq #[] } 
noncomputable def o247 : Obj := fnT MB (nat_lit 40) (Str.ofString "lot_at")
noncomputable def o248 : Obj := { cls := Value.type "code", data := Data.fields #[sv "lot_at" (nat_lit 547), sv "lot_at" (nat_lit 548), sv "/claim/cut.py" (nat_lit 549), iv (nat_lit 252) (nat_lit 0), iv (nat_lit 2) (nat_lit 0), iv (nat_lit 0) (nat_lit 0), iv (nat_lit 0) (nat_lit 0), iv (nat_lit 3) (nat_lit 0), rf (nat_lit 243), Value.bool true, iv (nat_lit 181) (nat_lit 0), rf (nat_lit 244), Value.none, rf (nat_lit 245), rf (nat_lit 246), rf (nat_lit 247), iv (nat_lit 555) (nat_lit 0), iv (nat_lit 252) (nat_lit 0), sv "/claim/cut.py" (nat_lit 556)] } 
noncomputable def o249 : Obj := fnX MB (nat_lit 40) (Str.ofString "lot_at") Value.none (sv "pagebase.text_match" (nat_lit 458)) (rf (nat_lit 248)) (.type "function")
noncomputable def o250 : Obj := { cls := Value.type "tuple", data := Data.seq #[] } 
noncomputable def o251 : Obj := { cls := Value.none, data := Data.fields #[] } 
noncomputable def o252 : Obj := { cls := Value.type "tuple", data := Data.seq #[sv "pattern" (nat_lit 561), sv "parts" (nat_lit 562), sv "at" (nat_lit 563), sv "sign" (nat_lit 564), sv "lot" (nat_lit 565)] } 
noncomputable def o253 : Obj := { cls := Value.type "tuple", data := Data.seq #[] } 
noncomputable def o254 : Obj := fnT MB (nat_lit 41) (Str.ofString "glob_parts")
noncomputable def o255 : Obj := { cls := Value.type "code", data := Data.fields #[sv "glob_parts" (nat_lit 558), sv "glob_parts" (nat_lit 559), sv "/claim/cut.py" (nat_lit 560), iv (nat_lit 272) (nat_lit 0), iv (nat_lit 1) (nat_lit 0), iv (nat_lit 0) (nat_lit 0), iv (nat_lit 0) (nat_lit 0), iv (nat_lit 3) (nat_lit 0), rf (nat_lit 250), Value.bool true, iv (nat_lit 181) (nat_lit 0), rf (nat_lit 251), Value.none, rf (nat_lit 252), rf (nat_lit 253), rf (nat_lit 254), iv (nat_lit 566) (nat_lit 0), iv (nat_lit 272) (nat_lit 0), sv "/claim/cut.py" (nat_lit 567)] } 
noncomputable def o256 : Obj := fnX MB (nat_lit 41) (Str.ofString "glob_parts") Value.none (sv "pagebase.text_match" (nat_lit 458)) (rf (nat_lit 255)) (.type "function")
noncomputable def o257 : Obj := { cls := Value.type "tuple", data := Data.seq #[] } 
noncomputable def o258 : Obj := { cls := Value.none, data := Data.fields #[] } 
noncomputable def o259 : Obj := { cls := Value.type "tuple", data := Data.seq #[sv "pattern" (nat_lit 572), sv "text" (nat_lit 573), sv "parts" (nat_lit 574)] } 
noncomputable def o260 : Obj := { cls := Value.type "tuple", data := Data.seq #[] } 
noncomputable def o261 : Obj := fnT MB (nat_lit 42) (Str.ofString "glob")
noncomputable def o262 : Obj := { cls := Value.type "code", data := Data.fields #[sv "glob" (nat_lit 569), sv "glob" (nat_lit 570), sv "/claim/cut.py" (nat_lit 571), iv (nat_lit 291) (nat_lit 0), iv (nat_lit 2) (nat_lit 0), iv (nat_lit 0) (nat_lit 0), iv (nat_lit 0) (nat_lit 0), iv (nat_lit 3) (nat_lit 0), rf (nat_lit 257), Value.bool true, iv (nat_lit 181) (nat_lit 0), rf (nat_lit 258), Value.none, rf (nat_lit 259), rf (nat_lit 260), rf (nat_lit 261), iv (nat_lit 575) (nat_lit 0), iv (nat_lit 291) (nat_lit 0), sv "/claim/cut.py" (nat_lit 576)] } 
noncomputable def o263 : Obj := fnX MB (nat_lit 42) (Str.ofString "glob") Value.none (sv "pagebase.text_match" (nat_lit 458)) (rf (nat_lit 262)) (.type "function")
noncomputable def o264 : Obj := { cls := Value.type "tuple", data := Data.seq #[] } 
noncomputable def o265 : Obj := { cls := Value.none, data := Data.fields #[] } 
noncomputable def o266 : Obj := { cls := Value.type "tuple", data := Data.seq #[sv "value" (nat_lit 583)] } 
noncomputable def o267 : Obj := { cls := Value.type "tuple", data := Data.seq #[] } 
noncomputable def o268 : Obj := fnT MB (nat_lit 44) (Str.ofString "octets_of")
noncomputable def o269 : Obj := { cls := Value.type "code", data := Data.fields #[sv "octets_of" (nat_lit 580), sv "octets_of" (nat_lit 581), sv "/claim/cut.py" (nat_lit 582), iv (nat_lit 297) (nat_lit 0), iv (nat_lit 1) (nat_lit 0), iv (nat_lit 0) (nat_lit 0), iv (nat_lit 0) (nat_lit 0), iv (nat_lit 3) (nat_lit 0), rf (nat_lit 264), Value.bool true, iv (nat_lit 181) (nat_lit 0), rf (nat_lit 265), Value.none, rf (nat_lit 266), rf (nat_lit 267), rf (nat_lit 268), iv (nat_lit 584) (nat_lit 0), iv (nat_lit 297) (nat_lit 0), sv "/claim/cut.py" (nat_lit 585)] } 
noncomputable def o271 : Obj := { cls := Value.type "tuple", data := Data.seq #[] } 
noncomputable def o272 : Obj := { cls := Value.none, data := Data.fields #[] } 
noncomputable def o273 : Obj := fnT MB (nat_lit 45) (Str.ofString "lowered")
noncomputable def o274 : Obj := { cls := Value.type "code", data := Data.fields #[sv "lowered" (nat_lit 587), sv "lowered" (nat_lit 588), sv "/claim/cut.py" (nat_lit 589), iv (nat_lit 299) (nat_lit 0), iv (nat_lit 1) (nat_lit 0), iv (nat_lit 0) (nat_lit 0), iv (nat_lit 0) (nat_lit 0), iv (nat_lit 3) (nat_lit 0), rf (nat_lit 271), Value.bool true, iv (nat_lit 181) (nat_lit 0), rf (nat_lit 272), Value.none, Value.none, Value.none, rf (nat_lit 273), iv (nat_lit 590) (nat_lit 0), iv (nat_lit 299) (nat_lit 0), sv "/claim/cut.py" (nat_lit 591)] } 
noncomputable def o275 : Obj := fnX MB (nat_lit 45) (Str.ofString "lowered") Value.none (sv "pagebase.functions" (nat_lit 578)) (rf (nat_lit 274)) (.type "function")
noncomputable def o276 : Obj := { cls := Value.type "tuple", data := Data.seq #[] } 
noncomputable def o277 : Obj := { cls := Value.none, data := Data.fields #[] } 
noncomputable def o278 : Obj := fnT MB (nat_lit 46) (Str.ofString "raised")
noncomputable def o279 : Obj := { cls := Value.type "code", data := Data.fields #[sv "raised" (nat_lit 593), sv "raised" (nat_lit 594), sv "/claim/cut.py" (nat_lit 595), iv (nat_lit 301) (nat_lit 0), iv (nat_lit 1) (nat_lit 0), iv (nat_lit 0) (nat_lit 0), iv (nat_lit 0) (nat_lit 0), iv (nat_lit 3) (nat_lit 0), rf (nat_lit 276), Value.bool true, iv (nat_lit 181) (nat_lit 0), rf (nat_lit 277), Value.none, Value.none, Value.none, rf (nat_lit 278), iv (nat_lit 596) (nat_lit 0), iv (nat_lit 301) (nat_lit 0), sv "/claim/cut.py" (nat_lit 597)] } 
noncomputable def o280 : Obj := fnX MB (nat_lit 46) (Str.ofString "raised") Value.none (sv "pagebase.functions" (nat_lit 578)) (rf (nat_lit 279)) (.type "function")
noncomputable def o281 : Obj := { cls := Value.type "tuple", data := Data.seq #[] } 
noncomputable def o282 : Obj := { cls := Value.none, data := Data.fields #[] } 
noncomputable def o283 : Obj := { cls := Value.type "tuple", data := Data.seq #[sv "value" (nat_lit 602)] } 
noncomputable def o284 : Obj := { cls := Value.type "tuple", data := Data.seq #[] } 
noncomputable def o285 : Obj := fnT MB (nat_lit 47) (Str.ofString "length_of")
noncomputable def o286 : Obj := { cls := Value.type "code", data := Data.fields #[sv "length_of" (nat_lit 599), sv "length_of" (nat_lit 600), sv "/claim/cut.py" (nat_lit 601), iv (nat_lit 303) (nat_lit 0), iv (nat_lit 1) (nat_lit 0), iv (nat_lit 0) (nat_lit 0), iv (nat_lit 0) (nat_lit 0), iv (nat_lit 3) (nat_lit 0), rf (nat_lit 281), Value.bool true, iv (nat_lit 181) (nat_lit 0), rf (nat_lit 282), Value.none, rf (nat_lit 283), rf (nat_lit 284), rf (nat_lit 285), iv (nat_lit 603) (nat_lit 0), iv (nat_lit 303) (nat_lit 0), sv "/claim/cut.py" (nat_lit 604)] } 
noncomputable def o288 : Obj := { cls := Value.type "tuple", data := Data.seq #[] } 
noncomputable def o289 : Obj := { cls := Value.none, data := Data.fields #[] } 
noncomputable def o290 : Obj := { cls := Value.type "tuple", data := Data.seq #[sv "value" (nat_lit 609), sv "part" (nat_lit 610)] } 
noncomputable def o291 : Obj := { cls := Value.type "tuple", data := Data.seq #[] } 
noncomputable def o292 : Obj := fnT MB (nat_lit 48) (Str.ofString "place_in")
noncomputable def o293 : Obj := { cls := Value.type "code", data := Data.fields #[sv "place_in" (nat_lit 606), sv "place_in" (nat_lit 607), sv "/claim/cut.py" (nat_lit 608), iv (nat_lit 305) (nat_lit 0), iv (nat_lit 2) (nat_lit 0), iv (nat_lit 0) (nat_lit 0), iv (nat_lit 0) (nat_lit 0), iv (nat_lit 3) (nat_lit 0), rf (nat_lit 288), Value.bool true, iv (nat_lit 181) (nat_lit 0), rf (nat_lit 289), Value.none, rf (nat_lit 290), rf (nat_lit 291), rf (nat_lit 292), iv (nat_lit 611) (nat_lit 0), iv (nat_lit 305) (nat_lit 0), sv "/claim/cut.py" (nat_lit 612)] } 
noncomputable def o294 : Obj := fnX MB (nat_lit 48) (Str.ofString "place_in") Value.none (sv "pagebase.functions" (nat_lit 578)) (rf (nat_lit 293)) (.type "function")
noncomputable def o295 : Obj := { cls := Value.type "tuple", data := Data.seq #[] } 
noncomputable def o296 : Obj := { cls := Value.none, data := Data.fields #[] } 
noncomputable def o297 : Obj := { cls := Value.type "tuple", data := Data.seq #[sv "word" (nat_lit 617), sv "arguments" (nat_lit 618), sv "text" (nat_lit 619), sv "signs" (nat_lit 620), sv "low" (nat_lit 621), sv "high" (nat_lit 622)] } 
noncomputable def o298 : Obj := { cls := Value.type "tuple", data := Data.seq #[] } 
noncomputable def o299 : Obj := fnT MB (nat_lit 49) (Str.ofString "trimmed")
noncomputable def o300 : Obj := { cls := Value.type "code", data := Data.fields #[sv "trimmed" (nat_lit 614), sv "trimmed" (nat_lit 615), sv "/claim/cut.py" (nat_lit 616), iv (nat_lit 309) (nat_lit 0), iv (nat_lit 2) (nat_lit 0), iv (nat_lit 0) (nat_lit 0), iv (nat_lit 0) (nat_lit 0), iv (nat_lit 3) (nat_lit 0), rf (nat_lit 295), Value.bool true, iv (nat_lit 181) (nat_lit 0), rf (nat_lit 296), Value.none, rf (nat_lit 297), rf (nat_lit 298), rf (nat_lit 299), iv (nat_lit 623) (nat_lit 0), iv (nat_lit 309) (nat_lit 0), sv "/claim/cut.py" (nat_lit 624)] } 
noncomputable def o301 : Obj := fnX MB (nat_lit 49) (Str.ofString "trimmed") Value.none (sv "pagebase.functions" (nat_lit 578)) (rf (nat_lit 300)) (.type "function")
noncomputable def o302 : Obj := { cls := Value.type "tuple", data := Data.seq #[] } 
noncomputable def o303 : Obj := { cls := Value.none, data := Data.fields #[] } 
noncomputable def o304 : Obj := { cls := Value.type "tuple", data := Data.seq #[sv "arguments" (nat_lit 629), sv "value" (nat_lit 630), sv "start" (nat_lit 631), sv "many" (nat_lit 632), sv "is_back" (nat_lit 633)] } 
noncomputable def o305 : Obj := { cls := Value.type "tuple", data := Data.seq #[] } 
noncomputable def o306 : Obj := fnT MB (nat_lit 50) (Str.ofString "part_of")
noncomputable def o307 : Obj := { cls := Value.type "code", data := Data.fields #[sv "part_of" (nat_lit 626), sv "part_of" (nat_lit 627), sv "/claim/cut.py" (nat_lit 628), iv (nat_lit 319) (nat_lit 0), iv (nat_lit 1) (nat_lit 0), iv (nat_lit 0) (nat_lit 0), iv (nat_lit 0) (nat_lit 0), iv (nat_lit 3) (nat_lit 0), rf (nat_lit 302), Value.bool true, iv (nat_lit 181) (nat_lit 0), rf (nat_lit 303), Value.none, rf (nat_lit 304), rf (nat_lit 305), rf (nat_lit 306), iv (nat_lit 634) (nat_lit 0), iv (nat_lit 319) (nat_lit 0), sv "/claim/cut.py" (nat_lit 635)] } 
noncomputable def o308 : Obj := fnX MB (nat_lit 50) (Str.ofString "part_of") Value.none (sv "pagebase.functions" (nat_lit 578)) (rf (nat_lit 307)) (.type "function")
noncomputable def o309 : Obj := { cls := Value.type "tuple", data := Data.seq #[] } 
noncomputable def o310 : Obj := { cls := Value.none, data := Data.fields #[] } 
noncomputable def o311 : Obj := fnT MB (nat_lit 51) (Str.ofString "replaced")
noncomputable def o312 : Obj := { cls := Value.type "code", data := Data.fields #[sv "replaced" (nat_lit 637), sv "replaced" (nat_lit 638), sv "/claim/cut.py" (nat_lit 639), iv (nat_lit 342) (nat_lit 0), iv (nat_lit 1) (nat_lit 0), iv (nat_lit 0) (nat_lit 0), iv (nat_lit 0) (nat_lit 0), iv (nat_lit 3) (nat_lit 0), rf (nat_lit 309), Value.bool true, iv (nat_lit 181) (nat_lit 0), rf (nat_lit 310), Value.none, Value.none, Value.none, rf (nat_lit 311), iv (nat_lit 640) (nat_lit 0), iv (nat_lit 342) (nat_lit 0), sv "/claim/cut.py" (nat_lit 641)] } 
noncomputable def o314 : Obj := { cls := Value.type "tuple", data := Data.seq #[] } 
noncomputable def o315 : Obj := { cls := Value.none, data := Data.fields #[] } 
noncomputable def o316 : Obj := { cls := Value.type "tuple", data := Data.seq #[sv "arguments" (nat_lit 646), sv "sign" (nat_lit 647), sv "collation" (nat_lit 648), sv "best" (nat_lit 649), sv "value" (nat_lit 650), sv "order" (nat_lit 651)] } 
noncomputable def o317 : Obj := { cls := Value.type "tuple", data := Data.seq #[] } 
noncomputable def o318 : Obj := fnT MB (nat_lit 52) (Str.ofString "chosen")
noncomputable def o319 : Obj := { cls := Value.type "code", data := Data.fields #[sv "chosen" (nat_lit 643), sv "chosen" (nat_lit 644), sv "/claim/cut.py" (nat_lit 645), iv (nat_lit 350) (nat_lit 0), iv (nat_lit 3) (nat_lit 0), iv (nat_lit 0) (nat_lit 0), iv (nat_lit 0) (nat_lit 0), iv (nat_lit 3) (nat_lit 0), rf (nat_lit 314), Value.bool true, iv (nat_lit 181) (nat_lit 0), rf (nat_lit 315), Value.none, rf (nat_lit 316), rf (nat_lit 317), rf (nat_lit 318), iv (nat_lit 652) (nat_lit 0), iv (nat_lit 350) (nat_lit 0), sv "/claim/cut.py" (nat_lit 653)] } 
noncomputable def o320 : Obj := fnX MB (nat_lit 52) (Str.ofString "chosen") Value.none (sv "pagebase.functions" (nat_lit 578)) (rf (nat_lit 319)) (.type "function")
noncomputable def o321 : Obj := { cls := Value.type "tuple", data := Data.seq #[] } 
noncomputable def o322 : Obj := { cls := Value.none, data := Data.fields #[] } 
noncomputable def o323 : Obj := { cls := Value.type "tuple", data := Data.seq #[sv "arguments" (nat_lit 658), sv "found" (nat_lit 659), sv "value" (nat_lit 660), sv "number" (nat_lit 661), sv "is_sign" (nat_lit 662)] } 
noncomputable def o324 : Obj := { cls := Value.type "tuple", data := Data.seq #[] } 
noncomputable def o325 : Obj := fnT MB (nat_lit 53) (Str.ofString "signs_of")
noncomputable def o326 : Obj := { cls := Value.type "code", data := Data.fields #[sv "signs_of" (nat_lit 655), sv "signs_of" (nat_lit 656), sv "/claim/cut.py" (nat_lit 657), iv (nat_lit 357) (nat_lit 0), iv (nat_lit 1) (nat_lit 0), iv (nat_lit 0) (nat_lit 0), iv (nat_lit 0) (nat_lit 0), iv (nat_lit 3) (nat_lit 0), rf (nat_lit 321), Value.bool true, iv (nat_lit 181) (nat_lit 0), rf (nat_lit 322), Value.none, rf (nat_lit 323), rf (nat_lit 324), rf (nat_lit 325), iv (nat_lit 663) (nat_lit 0), iv (nat_lit 357) (nat_lit 0), sv "/claim/cut.py" (nat_lit 664)] } 
noncomputable def o328 : Obj := { cls := Value.type "tuple", data := Data.seq #[] } 
noncomputable def o329 : Obj := { cls := Value.none, data := Data.fields #[] } 
noncomputable def o330 : Obj := { cls := Value.type "tuple", data := Data.seq #[sv "value" (nat_lit 669), sv "many" (nat_lit 670)] } 
noncomputable def o331 : Obj := { cls := Value.type "tuple", data := Data.seq #[] } 
noncomputable def o332 : Obj := fnT MB (nat_lit 54) (Str.ofString "zeros")
noncomputable def o333 : Obj := { cls := Value.type "code", data := Data.fields #[sv "zeros" (nat_lit 666), sv "zeros" (nat_lit 667), sv "/claim/cut.py" (nat_lit 668), iv (nat_lit 364) (nat_lit 0), iv (nat_lit 1) (nat_lit 0), iv (nat_lit 0) (nat_lit 0), iv (nat_lit 0) (nat_lit 0), iv (nat_lit 3) (nat_lit 0), rf (nat_lit 328), Value.bool true, iv (nat_lit 181) (nat_lit 0), rf (nat_lit 329), Value.none, rf (nat_lit 330), rf (nat_lit 331), rf (nat_lit 332), iv (nat_lit 671) (nat_lit 0), iv (nat_lit 364) (nat_lit 0), sv "/claim/cut.py" (nat_lit 672)] } 
noncomputable def o334 : Obj := fnX MB (nat_lit 54) (Str.ofString "zeros") Value.none (sv "pagebase.functions" (nat_lit 578)) (rf (nat_lit 333)) (.type "function")
noncomputable def o335 : Obj := { cls := Value.type "tuple", data := Data.seq #[] } 
noncomputable def o336 : Obj := { cls := Value.none, data := Data.fields #[] } 
noncomputable def o337 : Obj := { cls := Value.type "tuple", data := Data.seq #[sv "value" (nat_lit 677), sv "escape" (nat_lit 678)] } 
noncomputable def o338 : Obj := { cls := Value.type "tuple", data := Data.seq #[] } 
noncomputable def o339 : Obj := fnT MB (nat_lit 55) (Str.ofString "escape_of")
noncomputable def o340 : Obj := { cls := Value.type "code", data := Data.fields #[sv "escape_of" (nat_lit 674), sv "escape_of" (nat_lit 675), sv "/claim/cut.py" (nat_lit 676), iv (nat_lit 369) (nat_lit 0), iv (nat_lit 1) (nat_lit 0), iv (nat_lit 0) (nat_lit 0), iv (nat_lit 0) (nat_lit 0), iv (nat_lit 3) (nat_lit 0), rf (nat_lit 335), Value.bool true, iv (nat_lit 181) (nat_lit 0), rf (nat_lit 336), Value.none, rf (nat_lit 337), rf (nat_lit 338), rf (nat_lit 339), iv (nat_lit 679) (nat_lit 0), iv (nat_lit 369) (nat_lit 0), sv "/claim/cut.py" (nat_lit 680)] } 
noncomputable def o341 : Obj := fnX MB (nat_lit 55) (Str.ofString "escape_of") Value.none (sv "pagebase.functions" (nat_lit 578)) (rf (nat_lit 340)) (.type "function")
noncomputable def o342 : Obj := { cls := Value.type "tuple", data := Data.seq #[] } 
noncomputable def o343 : Obj := { cls := Value.none, data := Data.fields #[] } 
noncomputable def o344 : Obj := { cls := Value.type "tuple", data := Data.seq #[sv "word" (nat_lit 685), sv "arguments" (nat_lit 686), sv "escape" (nat_lit 687)] } 
noncomputable def o345 : Obj := { cls := Value.type "tuple", data := Data.seq #[] } 
noncomputable def o346 : Obj := fnT MB (nat_lit 56) (Str.ofString "matched")
noncomputable def o347 : Obj := { cls := Value.type "code", data := Data.fields #[sv "matched" (nat_lit 682), sv "matched" (nat_lit 683), sv "/claim/cut.py" (nat_lit 684), iv (nat_lit 374) (nat_lit 0), iv (nat_lit 2) (nat_lit 0), iv (nat_lit 0) (nat_lit 0), iv (nat_lit 0) (nat_lit 0), iv (nat_lit 3) (nat_lit 0), rf (nat_lit 342), Value.bool true, iv (nat_lit 181) (nat_lit 0), rf (nat_lit 343), Value.none, rf (nat_lit 344), rf (nat_lit 345), rf (nat_lit 346), iv (nat_lit 688) (nat_lit 0), iv (nat_lit 374) (nat_lit 0), sv "/claim/cut.py" (nat_lit 689)] } 
noncomputable def o348 : Obj := fnX MB (nat_lit 56) (Str.ofString "matched") Value.none (sv "pagebase.functions" (nat_lit 578)) (rf (nat_lit 347)) (.type "function")
noncomputable def o349 : Obj := { cls := Value.type "tuple", data := Data.seq #[] } 
noncomputable def o350 : Obj := { cls := Value.none, data := Data.fields #[] } 
noncomputable def o351 : Obj := fnT MB (nat_lit 57) (Str.ofString "call_with_nulls")
noncomputable def o352 : Obj := { cls := Value.type "code", data := Data.fields #[sv "call_with_nulls" (nat_lit 691), sv "call_with_nulls" (nat_lit 692), sv "/claim/cut.py" (nat_lit 693), iv (nat_lit 379) (nat_lit 0), iv (nat_lit 4) (nat_lit 0), iv (nat_lit 0) (nat_lit 0), iv (nat_lit 0) (nat_lit 0), iv (nat_lit 3) (nat_lit 0), rf (nat_lit 349), Value.bool true, iv (nat_lit 181) (nat_lit 0), rf (nat_lit 350), Value.none, Value.none, Value.none, rf (nat_lit 351), iv (nat_lit 694) (nat_lit 0), iv (nat_lit 379) (nat_lit 0), sv "/claim/cut.py" (nat_lit 695)] } 
noncomputable def o354 : Obj := { cls := Value.type "tuple", data := Data.seq #[] } 
noncomputable def o355 : Obj := { cls := Value.none, data := Data.fields #[] } 
noncomputable def o356 : Obj := { cls := Value.type "tuple", data := Data.seq #[sv "name" (nat_lit 700), sv "arguments" (nat_lit 701), sv "collation" (nat_lit 702), sv "connection" (nat_lit 703), sv "word" (nat_lit 704), sv "is_done" (nat_lit 705), sv "value" (nat_lit 706), sv "argument" (nat_lit 707), sv "number" (nat_lit 708)] } 
noncomputable def o357 : Obj := { cls := Value.type "tuple", data := Data.seq #[] } 
noncomputable def o358 : Obj := fnT MB (nat_lit 58) (Str.ofString "call_function")
noncomputable def o359 : Obj := { cls := Value.type "code", data := Data.fields #[sv "call_function" (nat_lit 697), sv "call_function" (nat_lit 698), sv "/claim/cut.py" (nat_lit 699), iv (nat_lit 404) (nat_lit 0), iv (nat_lit 4) (nat_lit 0), iv (nat_lit 0) (nat_lit 0), iv (nat_lit 0) (nat_lit 0), iv (nat_lit 3) (nat_lit 0), rf (nat_lit 354), Value.bool true, iv (nat_lit 181) (nat_lit 0), rf (nat_lit 355), Value.none, rf (nat_lit 356), rf (nat_lit 357), rf (nat_lit 358), iv (nat_lit 709) (nat_lit 0), iv (nat_lit 404) (nat_lit 0), sv "/claim/cut.py" (nat_lit 710)] } 
noncomputable def o361 : Obj := { cls := Value.type "tuple", data := Data.seq #[] } 
noncomputable def o362 : Obj := { cls := Value.none, data := Data.fields #[] } 
noncomputable def o363 : Obj := { cls := Value.type "tuple", data := Data.seq #[sv "word" (nat_lit 715), sv "arguments" (nat_lit 716), sv "text" (nat_lit 717)] } 
noncomputable def o364 : Obj := { cls := Value.type "tuple", data := Data.seq #[] } 
noncomputable def o365 : Obj := fnT MB (nat_lit 59) (Str.ofString "call_on_texts")
noncomputable def o366 : Obj := { cls := Value.type "code", data := Data.fields #[sv "call_on_texts" (nat_lit 712), sv "call_on_texts" (nat_lit 713), sv "/claim/cut.py" (nat_lit 714), iv (nat_lit 426) (nat_lit 0), iv (nat_lit 2) (nat_lit 0), iv (nat_lit 0) (nat_lit 0), iv (nat_lit 0) (nat_lit 0), iv (nat_lit 3) (nat_lit 0), rf (nat_lit 361), Value.bool true, iv (nat_lit 181) (nat_lit 0), rf (nat_lit 362), Value.none, rf (nat_lit 363), rf (nat_lit 364), rf (nat_lit 365), iv (nat_lit 718) (nat_lit 0), iv (nat_lit 426) (nat_lit 0), sv "/claim/cut.py" (nat_lit 719)] } 
noncomputable def o368 : Obj := { cls := Value.type "tuple", data := Data.seq #[] } 
noncomputable def o369 : Obj := { cls := Value.none, data := Data.fields #[] } 
noncomputable def o370 : Obj := { cls := Value.type "tuple", data := Data.seq #[sv "script" (nat_lit 726), sv "k" (nat_lit 727), sv "cell" (nat_lit 728), sv "big" (nat_lit 729), sv "mixed" (nat_lit 730)] } 
noncomputable def o371 : Obj := { cls := Value.type "tuple", data := Data.seq #[] } 
noncomputable def o372 : Obj := fnT MB (nat_lit 61) (Str.ofString "_law_pool")
noncomputable def o373 : Obj := { cls := Value.type "code", data := Data.fields #[sv "_law_pool" (nat_lit 723), sv "_law_pool" (nat_lit 724), sv "/claim/cut.py" (nat_lit 725), iv (nat_lit 448) (nat_lit 0), iv (nat_lit 2) (nat_lit 0), iv (nat_lit 0) (nat_lit 0), iv (nat_lit 0) (nat_lit 0), iv (nat_lit 3) (nat_lit 0), rf (nat_lit 368), Value.bool true, iv (nat_lit 181) (nat_lit 0), rf (nat_lit 369), Value.none, rf (nat_lit 370), rf (nat_lit 371), rf (nat_lit 372), iv (nat_lit 731) (nat_lit 0), iv (nat_lit 448) (nat_lit 0), sv "/claim/cut.py" (nat_lit 732)] } 
noncomputable def o375 : Obj := { cls := Value.type "tuple", data := Data.seq #[] } 
noncomputable def o376 : Obj := { cls := Value.none, data := Data.fields #[] } 
noncomputable def o377 : Obj := { cls := Value.type "tuple", data := Data.seq #[sv "source" (nat_lit 737), sv "top" (nat_lit 738), sv "drawn" (nat_lit 739)] } 
noncomputable def o378 : Obj := { cls := Value.type "tuple", data := Data.seq #[] } 
noncomputable def o379 : Obj := fnT MB (nat_lit 62) (Str.ofString "_law_take")
noncomputable def o380 : Obj := { cls := Value.type "code", data := Data.fields #[sv "_law_take" (nat_lit 734), sv "_law_take" (nat_lit 735), sv "/claim/cut.py" (nat_lit 736), iv (nat_lit 455) (nat_lit 0), iv (nat_lit 2) (nat_lit 0), iv (nat_lit 0) (nat_lit 0), iv (nat_lit 0) (nat_lit 0), iv (nat_lit 3) (nat_lit 0), rf (nat_lit 375), Value.bool true, iv (nat_lit 181) (nat_lit 0), rf (nat_lit 376), Value.none, rf (nat_lit 377), rf (nat_lit 378), rf (nat_lit 379), iv (nat_lit 740) (nat_lit 0), iv (nat_lit 455) (nat_lit 0), sv "/claim/cut.py" (nat_lit 741)] } 
noncomputable def o382 : Obj := { cls := Value.type "tuple", data := Data.seq #[] } 
noncomputable def o383 : Obj := { cls := Value.none, data := Data.fields #[] } 
noncomputable def o384 : Obj := { cls := Value.type "tuple", data := Data.seq #[sv "source" (nat_lit 746), sv "things" (nat_lit 747)] } 
noncomputable def o385 : Obj := { cls := Value.type "tuple", data := Data.seq #[] } 
noncomputable def o386 : Obj := fnT MB (nat_lit 63) (Str.ofString "_law_one")
noncomputable def o387 : Obj := { cls := Value.type "code", data := Data.fields #[sv "_law_one" (nat_lit 743), sv "_law_one" (nat_lit 744), sv "/claim/cut.py" (nat_lit 745), iv (nat_lit 462) (nat_lit 0), iv (nat_lit 2) (nat_lit 0), iv (nat_lit 0) (nat_lit 0), iv (nat_lit 0) (nat_lit 0), iv (nat_lit 3) (nat_lit 0), rf (nat_lit 382), Value.bool true, iv (nat_lit 181) (nat_lit 0), rf (nat_lit 383), Value.none, rf (nat_lit 384), rf (nat_lit 385), rf (nat_lit 386), iv (nat_lit 748) (nat_lit 0), iv (nat_lit 462) (nat_lit 0), sv "/claim/cut.py" (nat_lit 749)] } 
noncomputable def o389 : Obj := { cls := Value.type "tuple", data := Data.seq #[] } 
noncomputable def o390 : Obj := { cls := Value.none, data := Data.fields #[] } 
noncomputable def o391 : Obj := { cls := Value.type "tuple", data := Data.seq #[sv "name" (nat_lit 754), sv "arguments" (nat_lit 755)] } 
noncomputable def o392 : Obj := { cls := Value.type "tuple", data := Data.seq #[] } 
noncomputable def o393 : Obj := fnT MB (nat_lit 64) (Str.ofString "_law_call")
noncomputable def o394 : Obj := { cls := Value.type "code", data := Data.fields #[sv "_law_call" (nat_lit 751), sv "_law_call" (nat_lit 752), sv "/claim/cut.py" (nat_lit 753), iv (nat_lit 464) (nat_lit 0), iv (nat_lit 2) (nat_lit 0), iv (nat_lit 0) (nat_lit 0), iv (nat_lit 0) (nat_lit 0), iv (nat_lit 3) (nat_lit 0), rf (nat_lit 389), Value.bool true, iv (nat_lit 181) (nat_lit 0), rf (nat_lit 390), Value.none, rf (nat_lit 391), rf (nat_lit 392), rf (nat_lit 393), iv (nat_lit 756) (nat_lit 0), iv (nat_lit 464) (nat_lit 0), sv "/claim/cut.py" (nat_lit 757)] } 
noncomputable def o396 : Obj := { cls := Value.type "tuple", data := Data.seq #[] } 
noncomputable def o397 : Obj := { cls := Value.none, data := Data.fields #[] } 
noncomputable def o398 : Obj := { cls := Value.type "tuple", data := Data.seq #[sv "source" (nat_lit 762), sv "way" (nat_lit 763), sv "number" (nat_lit 764)] } 
noncomputable def o399 : Obj := { cls := Value.type "tuple", data := Data.seq #[] } 
noncomputable def o400 : Obj := fnT MB (nat_lit 65) (Str.ofString "_law_number")
noncomputable def o401 : Obj := { cls := Value.type "code", data := Data.fields #[sv "_law_number" (nat_lit 759), sv "_law_number" (nat_lit 760), sv "/claim/cut.py" (nat_lit 761), iv (nat_lit 466) (nat_lit 0), iv (nat_lit 1) (nat_lit 0), iv (nat_lit 0) (nat_lit 0), iv (nat_lit 0) (nat_lit 0), iv (nat_lit 3) (nat_lit 0), rf (nat_lit 396), Value.bool true, iv (nat_lit 181) (nat_lit 0), rf (nat_lit 397), Value.none, rf (nat_lit 398), rf (nat_lit 399), rf (nat_lit 400), iv (nat_lit 765) (nat_lit 0), iv (nat_lit 466) (nat_lit 0), sv "/claim/cut.py" (nat_lit 766)] } 
noncomputable def o403 : Obj := { cls := Value.type "tuple", data := Data.seq #[] } 
noncomputable def o404 : Obj := { cls := Value.none, data := Data.fields #[] } 
noncomputable def o405 : Obj := fnT MB (nat_lit 66) (Str.ofString "_law_hex")
noncomputable def o406 : Obj := { cls := Value.type "code", data := Data.fields #[sv "_law_hex" (nat_lit 768), sv "_law_hex" (nat_lit 769), sv "/claim/cut.py" (nat_lit 770), iv (nat_lit 476) (nat_lit 0), iv (nat_lit 1) (nat_lit 0), iv (nat_lit 0) (nat_lit 0), iv (nat_lit 0) (nat_lit 0), iv (nat_lit 3) (nat_lit 0), rf (nat_lit 403), Value.bool true, iv (nat_lit 181) (nat_lit 0), rf (nat_lit 404), Value.none, Value.none, Value.none, rf (nat_lit 405), iv (nat_lit 771) (nat_lit 0), iv (nat_lit 476) (nat_lit 0), sv "/claim/cut.py" (nat_lit 772)] } 
noncomputable def o408 : Obj := { cls := Value.type "tuple", data := Data.seq #[] } 
noncomputable def o409 : Obj := { cls := Value.none, data := Data.fields #[] } 
noncomputable def o410 : Obj := fnT MB (nat_lit 67) (Str.ofString "_law_signs_right")
noncomputable def o411 : Obj := { cls := Value.type "code", data := Data.fields #[sv "_law_signs_right" (nat_lit 774), sv "_law_signs_right" (nat_lit 775), sv "/claim/cut.py" (nat_lit 776), iv (nat_lit 479) (nat_lit 0), iv (nat_lit 1) (nat_lit 0), iv (nat_lit 0) (nat_lit 0), iv (nat_lit 0) (nat_lit 0), iv (nat_lit 3) (nat_lit 0), rf (nat_lit 408), Value.bool true, iv (nat_lit 181) (nat_lit 0), rf (nat_lit 409), Value.none, Value.none, Value.none, rf (nat_lit 410), iv (nat_lit 777) (nat_lit 0), iv (nat_lit 479) (nat_lit 0), sv "/claim/cut.py" (nat_lit 778)] } 
noncomputable def o413 : Obj := { cls := Value.type "tuple", data := Data.seq #[] } 
noncomputable def o414 : Obj := { cls := Value.none, data := Data.fields #[] } 
noncomputable def o415 : Obj := fnT MB (nat_lit 68) (Str.ofString "_law_text")
noncomputable def o416 : Obj := { cls := Value.type "code", data := Data.fields #[sv "_law_text" (nat_lit 780), sv "_law_text" (nat_lit 781), sv "/claim/cut.py" (nat_lit 782), iv (nat_lit 492) (nat_lit 0), iv (nat_lit 1) (nat_lit 0), iv (nat_lit 0) (nat_lit 0), iv (nat_lit 0) (nat_lit 0), iv (nat_lit 3) (nat_lit 0), rf (nat_lit 413), Value.bool true, iv (nat_lit 181) (nat_lit 0), rf (nat_lit 414), Value.none, Value.none, Value.none, rf (nat_lit 415), iv (nat_lit 783) (nat_lit 0), iv (nat_lit 492) (nat_lit 0), sv "/claim/cut.py" (nat_lit 784)] } 
noncomputable def o418 : Obj := { cls := Value.type "tuple", data := Data.seq #[] } 
noncomputable def o419 : Obj := { cls := Value.none, data := Data.fields #[] } 
noncomputable def o420 : Obj := fnT MB (nat_lit 69) (Str.ofString "_law_value")
noncomputable def o421 : Obj := { cls := Value.type "code", data := Data.fields #[sv "_law_value" (nat_lit 786), sv "_law_value" (nat_lit 787), sv "/claim/cut.py" (nat_lit 788), iv (nat_lit 494) (nat_lit 0), iv (nat_lit 1) (nat_lit 0), iv (nat_lit 0) (nat_lit 0), iv (nat_lit 0) (nat_lit 0), iv (nat_lit 3) (nat_lit 0), rf (nat_lit 418), Value.bool true, iv (nat_lit 181) (nat_lit 0), rf (nat_lit 419), Value.none, Value.none, Value.none, rf (nat_lit 420), iv (nat_lit 789) (nat_lit 0), iv (nat_lit 494) (nat_lit 0), sv "/claim/cut.py" (nat_lit 790)] } 
noncomputable def o423 : Obj := { cls := Value.type "tuple", data := Data.seq #[] } 
noncomputable def o424 : Obj := { cls := Value.none, data := Data.fields #[] } 
noncomputable def o425 : Obj := { cls := Value.type "tuple", data := Data.seq #[sv "source" (nat_lit 795), sv "text" (nat_lit 796), sv "way" (nat_lit 797), sv "at" (nat_lit 798)] } 
noncomputable def o426 : Obj := { cls := Value.type "tuple", data := Data.seq #[] } 
noncomputable def o427 : Obj := fnT MB (nat_lit 70) (Str.ofString "_law_part")
noncomputable def o428 : Obj := { cls := Value.type "code", data := Data.fields #[sv "_law_part" (nat_lit 792), sv "_law_part" (nat_lit 793), sv "/claim/cut.py" (nat_lit 794), iv (nat_lit 504) (nat_lit 0), iv (nat_lit 2) (nat_lit 0), iv (nat_lit 0) (nat_lit 0), iv (nat_lit 0) (nat_lit 0), iv (nat_lit 3) (nat_lit 0), rf (nat_lit 423), Value.bool true, iv (nat_lit 181) (nat_lit 0), rf (nat_lit 424), Value.none, rf (nat_lit 425), rf (nat_lit 426), rf (nat_lit 427), iv (nat_lit 799) (nat_lit 0), iv (nat_lit 504) (nat_lit 0), sv "/claim/cut.py" (nat_lit 800)] } 
noncomputable def o430 : Obj := { cls := Value.type "tuple", data := Data.seq #[] } 
noncomputable def o431 : Obj := { cls := Value.none, data := Data.fields #[] } 
noncomputable def o432 : Obj := { cls := Value.type "tuple", data := Data.seq #[sv "text" (nat_lit 805), sv "part" (nat_lit 806), sv "other" (nat_lit 807), sv "found" (nat_lit 808), sv "at" (nat_lit 809)] } 
noncomputable def o433 : Obj := { cls := Value.type "tuple", data := Data.seq #[] } 
noncomputable def o434 : Obj := fnT MB (nat_lit 71) (Str.ofString "_law_replaced")
noncomputable def o435 : Obj := { cls := Value.type "code", data := Data.fields #[sv "_law_replaced" (nat_lit 802), sv "_law_replaced" (nat_lit 803), sv "/claim/cut.py" (nat_lit 804), iv (nat_lit 512) (nat_lit 0), iv (nat_lit 3) (nat_lit 0), iv (nat_lit 0) (nat_lit 0), iv (nat_lit 0) (nat_lit 0), iv (nat_lit 3) (nat_lit 0), rf (nat_lit 430), Value.bool true, iv (nat_lit 181) (nat_lit 0), rf (nat_lit 431), Value.none, rf (nat_lit 432), rf (nat_lit 433), rf (nat_lit 434), iv (nat_lit 810) (nat_lit 0), iv (nat_lit 512) (nat_lit 0), sv "/claim/cut.py" (nat_lit 811)] } 
noncomputable def o437 : Obj := { cls := Value.type "tuple", data := Data.seq #[] } 
noncomputable def o438 : Obj := { cls := Value.none, data := Data.fields #[] } 
noncomputable def o439 : Obj := { cls := Value.type "tuple", data := Data.seq #[sv "source" (nat_lit 816), sv "value" (nat_lit 817), sv "text" (nat_lit 818), sv "part" (nat_lit 819), sv "other" (nat_lit 820), sv "due" (nat_lit 821), sv "nulls" (nat_lit 822)] } 
noncomputable def o440 : Obj := { cls := Value.type "tuple", data := Data.seq #[] } 
noncomputable def o441 : Obj := fnT MB (nat_lit 72) (Str.ofString "_law_replace_right")
noncomputable def o442 : Obj := { cls := Value.type "code", data := Data.fields #[sv "_law_replace_right" (nat_lit 813), sv "_law_replace_right" (nat_lit 814), sv "/claim/cut.py" (nat_lit 815), iv (nat_lit 520) (nat_lit 0), iv (nat_lit 1) (nat_lit 0), iv (nat_lit 0) (nat_lit 0), iv (nat_lit 0) (nat_lit 0), iv (nat_lit 3) (nat_lit 0), rf (nat_lit 437), Value.bool true, iv (nat_lit 181) (nat_lit 0), rf (nat_lit 438), Value.none, rf (nat_lit 439), rf (nat_lit 440), rf (nat_lit 441), iv (nat_lit 823) (nat_lit 0), iv (nat_lit 520) (nat_lit 0), sv "/claim/cut.py" (nat_lit 824)] } 
noncomputable def o444 : Obj := { cls := Value.type "tuple", data := Data.seq #[] } 
noncomputable def o445 : Obj := { cls := Value.none, data := Data.fields #[] } 
noncomputable def o446 : Obj := { cls := Value.type "tuple", data := Data.seq #[sv "script" (nat_lit 829), sv "k" (nat_lit 830), sv "source" (nat_lit 831)] } 
noncomputable def o447 : Obj := { cls := Value.type "tuple", data := Data.seq #[] } 
noncomputable def o448 : Obj := fnT MB (nat_lit 73) (Str.ofString "law")
noncomputable def o449 : Obj := { cls := Value.type "code", data := Data.fields #[sv "law" (nat_lit 826), sv "law" (nat_lit 827), sv "/claim/cut.py" (nat_lit 828), iv (nat_lit 529) (nat_lit 0), iv (nat_lit 1) (nat_lit 0), iv (nat_lit 0) (nat_lit 0), iv (nat_lit 0) (nat_lit 0), iv (nat_lit 3) (nat_lit 0), rf (nat_lit 444), Value.bool true, iv (nat_lit 181) (nat_lit 0), rf (nat_lit 445), Value.none, rf (nat_lit 446), rf (nat_lit 447), rf (nat_lit 448), iv (nat_lit 832) (nat_lit 0), iv (nat_lit 529) (nat_lit 0), sv "/claim/cut.py" (nat_lit 833)] } 
noncomputable def T0 (P : Params) : BT := (.node (boot_o_0 P) (.node (boot_o_1 P) (.node (boot_o_3 P) (.node (boot_o_7 P) .nil .nil) (.node o11 .nil .nil)) (.node (boot_o_5 P) (.node (boot_o_9 P) .nil .nil) (.node o13 .nil .nil))) (.node (boot_o_2 P) (.node (boot_o_4 P) (.node (boot_o_8 P) .nil .nil) (.node o12 .nil .nil)) (.node (boot_o_6 P) (.node (boot_o_10 P) .nil .nil) (.node o14 .nil .nil))))
noncomputable def TA (P : Params) : BT := (.node (boot_o_0 P) (.node (boot_o_1 P) (.node (o3 P) (.node (boot_o_7 P) (.node o15 (.node o31 (.node o63 .nil .nil) .nil) (.node o47 .nil .nil)) (.node o23 (.node o39 .nil .nil) (.node (o55 P) .nil .nil))) (.node o11 (.node o19 (.node o35 (.node (o67 P) .nil .nil) .nil) (.node o51 .nil .nil)) (.node o27 (.node (o43 P) .nil .nil) (.node o59 .nil .nil)))) (.node (boot_o_5 P) (.node (boot_o_9 P) (.node (o17 P) (.node o33 (.node o65 .nil .nil) .nil) (.node (o49 P) .nil .nil)) (.node o25 (.node o41 .nil .nil) (.node o57 .nil .nil))) (.node o13 (.node o21 (.node (o37 P) (.node o69 .nil .nil) .nil) (.node o53 .nil .nil)) (.node o29 (.node o45 .nil .nil) (.node (o61 P) .nil .nil))))) (.node (o2 P) (.node (boot_o_4 P) (.node (boot_o_8 P) (.node o16 (.node o32 (.node o64 .nil .nil) .nil) (.node o48 .nil .nil)) (.node o24 (.node o40 .nil .nil) (.node o56 .nil .nil))) (.node o12v1 (.node o20 (.node o36 (.node o68 .nil .nil) .nil) (.node o52 .nil .nil)) (.node o28 (.node o44 .nil .nil) (.node o60 .nil .nil)))) (.node (boot_o_6 P) (.node (boot_o_10 P) (.node o18 (.node o34 (.node o66 .nil .nil) .nil) (.node o50 .nil .nil)) (.node o26 (.node o42 .nil .nil) (.node o58 .nil .nil))) (.node o14 (.node o22 (.node o38 (.node o70 .nil .nil) .nil) (.node o54 .nil .nil)) (.node (o30 P) (.node o46 .nil .nil) (.node o62 .nil .nil))))))
noncomputable def TR (P : Params) : BT := (.node (boot_o_0 P) (.node (boot_o_1 P) (.node (o3v1 P) (.node (boot_o_7 P) (.node o15 (.node o31 (.node o63 .nil .nil) .nil) (.node o47 .nil .nil)) (.node o23 (.node o39 (.node (o71 P) .nil .nil) .nil) (.node (o55 P) .nil .nil))) (.node o11 (.node o19 (.node o35 (.node (o67 P) .nil .nil) .nil) (.node o51 .nil .nil)) (.node o27 (.node (o43 P) .nil .nil) (.node o59 .nil .nil)))) (.node (boot_o_5 P) (.node (boot_o_9 P) (.node (o17 P) (.node o33 (.node o65 .nil .nil) .nil) (.node (o49 P) .nil .nil)) (.node o25 (.node o41 .nil .nil) (.node o57 .nil .nil))) (.node o13 (.node o21 (.node (o37 P) (.node o69 .nil .nil) .nil) (.node o53 .nil .nil)) (.node o29 (.node o45 .nil .nil) (.node (o61 P) .nil .nil))))) (.node (o2 P) (.node (boot_o_4 P) (.node (boot_o_8 P) (.node o16 (.node o32 (.node o64 .nil .nil) .nil) (.node o48 .nil .nil)) (.node o24 (.node o40 .nil .nil) (.node o56 .nil .nil))) (.node o12v1 (.node o20 (.node o36 (.node o68 .nil .nil) .nil) (.node o52 .nil .nil)) (.node o28 (.node o44 .nil .nil) (.node o60 .nil .nil)))) (.node (boot_o_6 P) (.node (boot_o_10 P) (.node o18 (.node o34 (.node o66 .nil .nil) .nil) (.node o50 .nil .nil)) (.node o26 (.node o42 .nil .nil) (.node o58 .nil .nil))) (.node o14 (.node o22 (.node o38 (.node o70 .nil .nil) .nil) (.node o54 .nil .nil)) (.node (o30 P) (.node o46 .nil .nil) (.node o62 .nil .nil))))))
noncomputable def TB (P : Params) : BT := (.node (boot_o_0 P) (.node (boot_o_1 P) (.node (o3v2 P) (.node (boot_o_7 P) (.node o15 (.node o31 (.node o63 (.node o127 .nil .nil) (.node o191 .nil .nil)) (.node o95 (.node o159 .nil .nil) .nil)) (.node o47 (.node o79 (.node o143 .nil .nil) (.node o207 .nil .nil)) (.node o111 (.node o175 .nil .nil) .nil))) (.node o23 (.node o39 (.node (o71 P) (.node o135 .nil .nil) (.node o199 .nil .nil)) (.node o103 (.node o167 .nil .nil) .nil)) (.node (o55 P) (.node o87 (.node o151 .nil .nil) (.node (o215 P) .nil .nil)) (.node o119 (.node o183 .nil .nil) .nil)))) (.node o11 (.node o19 (.node o35 (.node (o67 P) (.node o131 .nil .nil) (.node o195 .nil .nil)) (.node f99 (.node f163 .nil .nil) .nil)) (.node o51 (.node o83 (.node o147 .nil .nil) (.node o211 .nil .nil)) (.node o115 (.node o179 .nil .nil) .nil))) (.node o27 (.node (o43 P) (.node o75 (.node o139 .nil .nil) (.node o203 .nil .nil)) (.node o107 (.node o171 .nil .nil) .nil)) (.node o59 (.node o91 (.node o155 .nil .nil) (.node o219 .nil .nil)) (.node o123 (.node o187 .nil .nil) .nil))))) (.node (boot_o_5 P) (.node (boot_o_9 P) (.node (o17 P) (.node o33 (.node o65 (.node o129 .nil .nil) (.node o193 .nil .nil)) (.node o97 (.node o161 .nil .nil) .nil)) (.node (o49 P) (.node o81 (.node o145 .nil .nil) (.node o209 .nil .nil)) (.node f113 (.node f177 .nil .nil) .nil))) (.node o25 (.node o41 (.node o73 (.node o137 .nil .nil) (.node o201 .nil .nil)) (.node o105 (.node o169 .nil .nil) .nil)) (.node o57 (.node o89 (.node o153 .nil .nil) (.node o217 .nil .nil)) (.node o121 (.node o185 .nil .nil) .nil)))) (.node o13 (.node o21 (.node (o37 P) (.node o69 (.node o133 .nil .nil) (.node o197 .nil .nil)) (.node o101 (.node o165 .nil .nil) .nil)) (.node o53 (.node f85 (.node f149 .nil .nil) (.node o213 .nil .nil)) (.node o117 (.node o181 .nil .nil) .nil))) (.node o29 (.node o45 (.node o77 (.node o141 .nil .nil) (.node o205 .nil .nil)) (.node o109 (.node o173 .nil .nil) .nil)) (.node (o61 P) (.node o93 (.node o157 .nil .nil) .nil) (.node o125 (.node o189 .nil .nil) .nil)))))) (.node (o2 P) (.node (boot_o_4 P) (.node (boot_o_8 P) (.node o16 (.node o32 (.node o64 (.node o128 .nil .nil) (.node o192 .nil .nil)) (.node o96 (.node o160 .nil .nil) .nil)) (.node o48 (.node o80 (.node o144 .nil .nil) (.node o208 .nil .nil)) (.node o112 (.node o176 .nil .nil) .nil))) (.node o24 (.node o40 (.node o72 (.node o136 .nil .nil) (.node o200 .nil .nil)) (.node o104 (.node o168 .nil .nil) .nil)) (.node o56 (.node o88 (.node o152 .nil .nil) (.node o216 .nil .nil)) (.node o120 (.node f184 .nil .nil) .nil)))) (.node o12v2 (.node o20 (.node o36 (.node o68 (.node o132 .nil .nil) (.node o196 .nil .nil)) (.node o100 (.node o164 .nil .nil) .nil)) (.node o52 (.node o84 (.node o148 .nil .nil) (.node o212 .nil .nil)) (.node o116 (.node o180 .nil .nil) .nil))) (.node o28 (.node o44 (.node o76 (.node o140 .nil .nil) (.node o204 .nil .nil)) (.node o108 (.node o172 .nil .nil) .nil)) (.node o60 (.node f92 (.node f156 .nil .nil) (.node o220 .nil .nil)) (.node o124 (.node o188 .nil .nil) .nil))))) (.node (boot_o_6 P) (.node (boot_o_10 P) (.node o18 (.node o34 (.node o66 (.node o130 .nil .nil) (.node (o194 P) .nil .nil)) (.node o98 (.node o162 .nil .nil) .nil)) (.node o50 (.node o82 (.node o146 .nil .nil) (.node o210 .nil .nil)) (.node o114 (.node o178 .nil .nil) .nil))) (.node o26 (.node o42 (.node o74 (.node o138 .nil .nil) (.node o202 .nil .nil)) (.node o106 (.node f170 .nil .nil) .nil)) (.node o58 (.node o90 (.node o154 .nil .nil) (.node o218 .nil .nil)) (.node o122 (.node o186 .nil .nil) .nil)))) (.node o14 (.node o22 (.node o38 (.node o70 (.node o134 .nil .nil) (.node o198 .nil .nil)) (.node o102 (.node o166 .nil .nil) .nil)) (.node o54 (.node o86 (.node o150 .nil .nil) (.node o214 .nil .nil)) (.node o118 (.node o182 .nil .nil) .nil))) (.node (o30 P) (.node o46 (.node f78 (.node o142 .nil .nil) (.node o206 .nil .nil)) (.node o110 (.node o174 .nil .nil) .nil)) (.node o62 (.node o94 (.node o158 .nil .nil) .nil) (.node o126 (.node o190 .nil .nil) .nil)))))))
noncomputable def TC (P : Params) : BT := (.node (boot_o_0 P) (.node (boot_o_1 P) (.node (o3v3 P) (.node (boot_o_7 P) (.node o15 (.node o31 (.node o63 (.node o127 (.node o255 .nil .nil) (.node o383 .nil .nil)) (.node o191 (.node o319 .nil .nil) (.node o447 .nil .nil))) (.node o95 (.node o159 (.node f287 .nil .nil) (.node o415 .nil .nil)) (.node o223 (.node o351 .nil .nil) .nil))) (.node o47 (.node o79 (.node o143 (.node o271 .nil .nil) (.node o399 .nil .nil)) (.node o207 (.node o335 .nil .nil) .nil)) (.node o111 (.node o175 (.node o303 .nil .nil) (.node o431 .nil .nil)) (.node o239 (.node f367 .nil .nil) .nil)))) (.node o23 (.node o39 (.node (o71 P) (.node o135 (.node o263 .nil .nil) (.node o391 .nil .nil)) (.node o199 (.node f327 .nil .nil) .nil)) (.node o103 (.node o167 (.node o295 .nil .nil) (.node o423 .nil .nil)) (.node o231 (.node o359 .nil .nil) .nil))) (.node (o55 P) (.node o87 (.node o151 (.node o279 .nil .nil) (.node f407 .nil .nil)) (.node (o215 P) (.node o343 .nil .nil) .nil)) (.node o119 (.node o183 (.node o311 .nil .nil) (.node o439 .nil .nil)) (.node o247 (.node o375 .nil .nil) .nil))))) (.node o11 (.node o19 (.node o35 (.node (o67 P) (.node o131 (.node o259 .nil .nil) (.node o387 .nil .nil)) (.node o195 (.node o323 .nil .nil) .nil)) (.node f99 (.node f163 (.node o291 .nil .nil) (.node o419 .nil .nil)) (.node o227 (.node o355 .nil .nil) .nil))) (.node o51 (.node o83 (.node o147 (.node o275 .nil .nil) (.node o403 .nil .nil)) (.node o211 (.node o339 .nil .nil) .nil)) (.node o115 (.node o179 (.node o307 .nil .nil) (.node o435 .nil .nil)) (.node o243 (.node o371 .nil .nil) .nil)))) (.node o27 (.node (o43 P) (.node o75 (.node o139 (.node o267 .nil .nil) (.node f395 .nil .nil)) (.node o203 (.node o331 .nil .nil) .nil)) (.node o107 (.node o171 (.node o299 .nil .nil) (.node o427 .nil .nil)) (.node o235 (.node o363 .nil .nil) .nil))) (.node o59 (.node o91 (.node o155 (.node o283 .nil .nil) (.node o411 .nil .nil)) (.node o219 (.node o347 .nil .nil) .nil)) (.node o123 (.node o187 (.node o315 .nil .nil) (.node f443 .nil .nil)) (.node o251 (.node o379 .nil .nil) .nil)))))) (.node (boot_o_5 P) (.node (boot_o_9 P) (.node (o17 P) (.node o33 (.node o65 (.node o129 (.node o257 .nil .nil) (.node o385 .nil .nil)) (.node o193 (.node o321 .nil .nil) (.node o449 .nil .nil))) (.node o97 (.node o161 (.node o289 .nil .nil) (.node f417 .nil .nil)) (.node o225 (.node f353 .nil .nil) .nil))) (.node (o49 P) (.node o81 (.node o145 (.node o273 .nil .nil) (.node o401 .nil .nil)) (.node o209 (.node o337 .nil .nil) .nil)) (.node f113 (.node f177 (.node o305 .nil .nil) (.node o433 .nil .nil)) (.node o241 (.node o369 .nil .nil) .nil)))) (.node o25 (.node o41 (.node o73 (.node o137 (.node o265 .nil .nil) (.node o393 .nil .nil)) (.node o201 (.node o329 .nil .nil) .nil)) (.node o105 (.node o169 (.node o297 .nil .nil) (.node o425 .nil .nil)) (.node o233 (.node o361 .nil .nil) .nil))) (.node o57 (.node o89 (.node o153 (.node o281 .nil .nil) (.node o409 .nil .nil)) (.node o217 (.node o345 .nil .nil) .nil)) (.node o121 (.node o185 (.node f313 .nil .nil) (.node o441 .nil .nil)) (.node o249 (.node o377 .nil .nil) .nil))))) (.node o13 (.node o21 (.node (o37 P) (.node o69 (.node o133 (.node o261 .nil .nil) (.node o389 .nil .nil)) (.node o197 (.node o325 .nil .nil) .nil)) (.node o101 (.node o165 (.node o293 .nil .nil) (.node o421 .nil .nil)) (.node o229 (.node o357 .nil .nil) .nil))) (.node o53 (.node f85 (.node f149 (.node o277 .nil .nil) (.node o405 .nil .nil)) (.node o213 (.node o341 .nil .nil) .nil)) (.node o117 (.node o181 (.node o309 .nil .nil) (.node o437 .nil .nil)) (.node o245 (.node o373 .nil .nil) .nil)))) (.node o29 (.node o45 (.node o77 (.node o141 (.node o269 .nil .nil) (.node o397 .nil .nil)) (.node o205 (.node o333 .nil .nil) .nil)) (.node o109 (.node o173 (.node o301 .nil .nil) (.node f429 .nil .nil)) (.node o237 (.node o365 .nil .nil) .nil))) (.node (o61 P) (.node o93 (.node o157 (.node o285 .nil .nil) (.node o413 .nil .nil)) (.node o221 (.node o349 .nil .nil) .nil)) (.node o125 (.node o189 (.node o317 .nil .nil) (.node o445 .nil .nil)) (.node o253 (.node f381 .nil .nil) .nil))))))) (.node (o2 P) (.node (boot_o_4 P) (.node (boot_o_8 P) (.node o16 (.node o32 (.node o64 (.node o128 (.node o256 .nil .nil) (.node o384 .nil .nil)) (.node o192 (.node o320 .nil .nil) (.node o448 .nil .nil))) (.node o96 (.node o160 (.node o288 .nil .nil) (.node o416 .nil .nil)) (.node o224 (.node o352 .nil .nil) .nil))) (.node o48 (.node o80 (.node o144 (.node o272 .nil .nil) (.node o400 .nil .nil)) (.node o208 (.node o336 .nil .nil) .nil)) (.node o112 (.node o176 (.node o304 .nil .nil) (.node o432 .nil .nil)) (.node o240 (.node o368 .nil .nil) .nil)))) (.node o24 (.node o40 (.node o72 (.node o136 (.node o264 .nil .nil) (.node o392 .nil .nil)) (.node o200 (.node o328 .nil .nil) .nil)) (.node o104 (.node o168 (.node o296 .nil .nil) (.node o424 .nil .nil)) (.node o232 (.node f360 .nil .nil) .nil))) (.node o56 (.node o88 (.node o152 (.node o280 .nil .nil) (.node o408 .nil .nil)) (.node o216 (.node o344 .nil .nil) .nil)) (.node o120 (.node f184 (.node o312 .nil .nil) (.node o440 .nil .nil)) (.node o248 (.node o376 .nil .nil) .nil))))) (.node o12v3 (.node o20 (.node o36 (.node o68 (.node o132 (.node o260 .nil .nil) (.node f388 .nil .nil)) (.node o196 (.node o324 .nil .nil) .nil)) (.node o100 (.node o164 (.node o292 .nil .nil) (.node o420 .nil .nil)) (.node o228 (.node o356 .nil .nil) .nil))) (.node o52 (.node o84 (.node o148 (.node o276 .nil .nil) (.node o404 .nil .nil)) (.node o212 (.node o340 .nil .nil) .nil)) (.node o116 (.node o180 (.node o308 .nil .nil) (.node f436 .nil .nil)) (.node o244 (.node o372 .nil .nil) .nil)))) (.node o28 (.node o44 (.node o76 (.node o140 (.node o268 .nil .nil) (.node o396 .nil .nil)) (.node o204 (.node o332 .nil .nil) .nil)) (.node o108 (.node o172 (.node o300 .nil .nil) (.node o428 .nil .nil)) (.node o236 (.node o364 .nil .nil) .nil))) (.node o60 (.node f92 (.node f156 (.node o284 .nil .nil) (.node f412 .nil .nil)) (.node o220 (.node o348 .nil .nil) .nil)) (.node o124 (.node o188 (.node o316 .nil .nil) (.node o444 .nil .nil)) (.node o252 (.node o380 .nil .nil) .nil)))))) (.node (boot_o_6 P) (.node (boot_o_10 P) (.node o18 (.node o34 (.node o66 (.node o130 (.node o258 .nil .nil) (.node o386 .nil .nil)) (.node (o194 P) (.node o322 .nil .nil) (.node f450 .nil .nil))) (.node o98 (.node o162 (.node o290 .nil .nil) (.node o418 .nil .nil)) (.node o226 (.node o354 .nil .nil) .nil))) (.node o50 (.node o82 (.node o146 (.node o274 .nil .nil) (.node f402 .nil .nil)) (.node o210 (.node o338 .nil .nil) .nil)) (.node o114 (.node o178 (.node o306 .nil .nil) (.node o434 .nil .nil)) (.node o242 (.node o370 .nil .nil) .nil)))) (.node o26 (.node o42 (.node o74 (.node o138 (.node o266 .nil .nil) (.node o394 .nil .nil)) (.node o202 (.node o330 .nil .nil) .nil)) (.node o106 (.node f170 (.node o298 .nil .nil) (.node o426 .nil .nil)) (.node o234 (.node o362 .nil .nil) .nil))) (.node o58 (.node o90 (.node o154 (.node o282 .nil .nil) (.node o410 .nil .nil)) (.node o218 (.node o346 .nil .nil) .nil)) (.node o122 (.node o186 (.node o314 .nil .nil) (.node o442 .nil .nil)) (.node o250 (.node o378 .nil .nil) .nil))))) (.node o14 (.node o22 (.node o38 (.node o70 (.node o134 (.node o262 .nil .nil) (.node o390 .nil .nil)) (.node o198 (.node o326 .nil .nil) .nil)) (.node o102 (.node o166 (.node o294 .nil .nil) (.node f422 .nil .nil)) (.node o230 (.node o358 .nil .nil) .nil))) (.node o54 (.node o86 (.node o150 (.node o278 .nil .nil) (.node o406 .nil .nil)) (.node o214 (.node o342 .nil .nil) .nil)) (.node o118 (.node o182 (.node o310 .nil .nil) (.node o438 .nil .nil)) (.node o246 (.node f374 .nil .nil) .nil)))) (.node (o30 P) (.node o46 (.node f78 (.node o142 (.node f270 .nil .nil) (.node o398 .nil .nil)) (.node o206 (.node o334 .nil .nil) .nil)) (.node o110 (.node o174 (.node o302 .nil .nil) (.node o430 .nil .nil)) (.node o238 (.node o366 .nil .nil) .nil))) (.node o62 (.node o94 (.node o158 (.node o286 .nil .nil) (.node o414 .nil .nil)) (.node o222 (.node o350 .nil .nil) .nil)) (.node o126 (.node o190 (.node o318 .nil .nil) (.node o446 .nil .nil)) (.node o254 (.node o382 .nil .nil) .nil))))))))
noncomputable def pos0 : Pos := { line := 0, col := 0, endLine := 0, endCol := 0 }
noncomputable def posE (a b c d : Nat) : Pos := { line := a, col := b, endLine := c, endCol := d }
noncomputable def benv : Env := { scope := PySem.Challenge.pw_pq0800_01.main.scope, locals := mainNs, globals := mainNs, cells := [], code := .ref 13, frame := some 14 }
noncomputable abbrev pc : Code := .body (behindTheImports PySem.Challenge.pw_pq0800_01) benv
noncomputable abbrev pB : List Frame := [topFrame pos0]
noncomputable abbrev pann : Option Value := some (.ref 6)
noncomputable abbrev stT (t : BT) (n k : Nat) (os : OsState) : SharedT := ⟨t, n, {}, Array.mk [], {}, k, os⟩
noncomputable abbrev stS (t : BT) (n k : Nat) (os : OsState) : Shared := ⟨absHeap t n {}, Array.mk [], {}, k, os⟩
noncomputable def sts (a n : Nat) : List Stmt := ((behindTheImports PySem.Challenge.pw_pq0800_01).drop a).take n
noncomputable abbrev pw := PySem.Challenge.pw_pq0800_01
theorem l_pre (w : World) (os : OsState) : topGo treeTable pw w 11 pann 12 ⟨boot_heap w.params, Array.mk [], boot_drawn, boot_toks, os⟩ (topStub pw) =
    some (stS (T0 w.params) 15 187 os, ⟨denote treeTable pc, pc, pos0, pB⟩) := by
  kernel_rfl
theorem l_block (w : World) (os : OsState) : segRun treeTable pw w 11 pann 1 1 (stS (T0 w.params) 15 187 os) (blockOf (behindTheImports pw) benv pc pos0 pB) = some (.next, stS (T0 w.params) 15 187 os, pc, pos0) := by
  kernel_rfl
theorem l_A (w : World) (os : OsState) : segRunT treeTable pw w 11 pann 1 1000 (stT (T0 w.params) 15 187 os) (piecesOf (sts 0 9) benv pc pos0 pB) = some (.next, stT (TA w.params) 71 281 os, pc, posE 15 0 15 11) := by
  kernel_rfl
theorem l_R (w : World) : ∀ os : OsState, segRunT treeTable pw w 11 pann 1 200 (stT (TA w.params) 71 281 os) (piecesOf (sts 9 1) benv pc (posE 15 0 15 11) pB) = some (.next, stT (TR w.params) 72 294 os, pc, posE 16 0 16 13) := by
  refine byRow2 "special-get-raises" (P := fun w => ∀ os : OsState, segRunT treeTable pw w 11 pann 1 200 (stT (TA w.params) 71 281 os) (piecesOf (sts 9 1) benv pc (posE 15 0 15 11) pB) = some (.next, stT (TR w.params) 72 294 os, pc, posE 16 0 16 13)) (fun w os => ?_) (fun w os => ?_) w
  · kernel_rfl
  · kernel_rfl
theorem l_B (w : World) (os : OsState) : segRunT treeTable pw w 11 pann 1 2000 (stT (TR w.params) 72 294 os) (piecesOf (sts 10 27) benv pc (posE 16 0 16 13) pB) = some (.next, stT (TB w.params) 221 514 os, pc, posE 187 0 204 37) := by
  kernel_rfl
theorem l_C (w : World) (os : OsState) : segRunT treeTable pw w 11 pann 1 2000 (stT (TB w.params) 221 514 os) (piecesOf (sts 37 37) benv pc (posE 187 0 204 37) pB) = some (.next, stT (TC w.params) 451 835 os, pc, posE 529 0 534 15) := by
  kernel_rfl
theorem l_F (w : World) (os : OsState) : topRun treeTable pw w 11 pann 2 (stS (TC w.params) 451 835 os) ⟨doneF .next, pc, posE 529 0 534 15, pB⟩ = some (stS (TC w.params) 451 835 os) := by
  kernel_rfl
theorem l_body : behindTheImports pw = sts 0 9 ++ (sts 9 1 ++ (sts 10 27 ++ (sts 37 37 ++ []))) := by
  kernel_rfl
theorem l_run (w : World) (os : OsState) : topRun treeTable pw w 11 pann (12 + (1 + (1000 + (200 + (2000 + (2000 + 2)))))) ⟨boot_heap w.params, Array.mk [], boot_drawn, boot_toks, os⟩ (topStub pw) = some (stS (TC w.params) 451 835 os) := by
  refine go_top (l_pre w os) (piece_block (l_block w os) ?_)
  have k : topRun treeTable pw w 11 pann (1000 + (200 + (2000 + (2000 + 2)))) (stS (T0 w.params) 15 187 os) (restOf (sts 0 9 ++ (sts 9 1 ++ (sts 10 27 ++ (sts 37 37 ++ [])))) benv pc pos0 pB) = some (stS (TC w.params) 451 835 os) :=
    piece_app (segRun_of (l_A w os)) (piece_app (segRun_of (l_R w os)) (piece_app (segRun_of (l_B w os)) (piece_app (segRun_of (l_C w os)) (piece_nil (l_F w os)))))
  exact (congrArg (fun l => topRun treeTable pw w 11 pann (1000 + (200 + (2000 + (2000 + 2)))) (stS (T0 w.params) 15 187 os) (restOf l benv pc pos0 pB)) l_body).trans k

noncomputable def keep : List Nat := (List.range 74).filter fun i => !([0, 5, 23, 31, 39, 43, 60].contains i)
noncomputable abbrev q : Program := view PySem.Challenge.pw_pq0800_01 keep
noncomputable def loose : List Str := ["MIN_INT", "MAX_INT", "STORAGE_RANKS", "REPLACEMENT", "compare_values", "like"]
noncomputable def lv : List (Str × WData) := [("MIN_INT", .int (-9223372036854775808)), ("MAX_INT", .int 9223372036854775807), ("REPLACEMENT", .str ⟨#[65533]⟩)]
noncomputable abbrev Xt : Shared → Bool := fun s => xlAt q lv s && recOk (RowW.records PySem.Challenge.rw_pq0800_01.row.toRowW) s
theorem k_1 (w : World) (os : OsState) : (staticsOk (importedModules pw.main.body) (boot_heap w.params) (absHeap (TC w.params) 451 {}) && namesBound pw (absHeap (TC w.params) 451 {}) && gensDone (stS (TC w.params) 451 835 os) && laidKept (boot_heap w.params) (absHeap (TC w.params) 451 {})) = true := by
  kernel_rfl
theorem k_2 (w : World) (os : OsState) : openSeen q loose (importedModules pw.main.body) Xt true (stS (TC w.params) 451 835 os) = openGood q loose := by
  kernel_rfl
theorem k_3 (w : World) (os : OsState) : Kas.map (stS (TC w.params) 451 835 os).heap.get? = (K w.params).map fun p => some p.2 := by
  kernel_rfl
theorem k_as (P : Params) : Kas = (K P).map (·.1) := by
  kernel_rfl
theorem k_open : opening pw = plainProg pw.main.scope.names := by
  kernel_rfl
theorem left : LeftO pw q loose Xt (fun s => Kas.map s.heap.get?) (fun w => (K w.params).map fun p => some p.2) 6084 :=
  LeftO.of_pieces (H₀ := boot_heap) (H₁ := fun P => absHeap (TC P) 451 {}) (gs₀ := Array.mk []) (gs₁ := Array.mk []) (d₀ := boot_drawn) (d₁ := {}) (k₀ := boot_toks) (k₁ := 835) (m₀ := 11) (ann := pann)
    (boot_open k_open (by decide) fun s => rfl) (fun w => by kernel_rfl) l_run (by decide) fun w => funext fun os => looks_pair (k_1 w os) (looks_pair (k_2 w os) (k_3 w os))

theorem fill_it (w : World) : PySem.Challenge.rw_pq0800_01.row.prog = PySem.Challenge.rw_pq0800_01.row.prog ∧ Mine.K w.params = Mine.K w.params := by
  k_fill
  exact ⟨rfl, rfl⟩
/-- the exceptions that never come -/
def noE : Value → Shared → Prop := fun _ _ => False
theorem noE_passes {M : Model} {A : Around} {env : Env} : PassesOwn M A env noE := fun _ _ h => False.elim h
/-- the setting at which every function of the text is called; k: how many frames more it may lay -/
structure At (w : World) (p : Program) (loose : List Str) (mean : ExcName → Option Value) (mg mb : Str → Option Value) (A : Around) (h₀ : Heap) (s : Shared) (k : Nat) : Prop where
  X : (Mine.K w.params).In h₀
  T : Top p loose mean mg mb h₀
  keep : ∀ b o, h₀.get? b = some o → s.heap.get? b = some o
  handled : A.handled = none
  depth : A.depth + k < 1000
  units : A.units + 8 * k ≤ 9800

/-- where a walked body stands: nothing is handled -/
abbrev arr (dp : Nat) (fr : Option (List Env)) (gd : Option (List Code)) (un : Nat) : Around := { handled := none, depth := dp, frames := fr, guards := gd, units := un }
abbrev prg := PySem.Challenge.rw_pq0800_01.row.prog

section
variable {w : World} {p : Program} {loose : List Str} {mean : ExcName → Option Value} {mg mb : Str → Option Value} {A : Around} {h₀ : Heap} {s : Shared}
  {name qual : Str} {params : Arguments} {body : List Stmt} {scope : Scope} {dV kV doc pm cdv ct oc : Value} {an od : Option Addr} {osl : Array (Option Value)} {f : Addr} {vals : List Value} {binds : List (Str × Value)}
  {Q E : Value → Shared → Prop} {k : Nat}

/-- entering a def without cells; the objects of the ledger are hidden from the ground -/
theorem enter (news : List (Addr × Obj)) (H : At w p loose mean mg mb A h₀ s (k + 1)) (N : ∀ q ∈ news, s.heap.get? q.1 = some q.2 ∧ h₀.get? q.1 = none)
    (ho : (Mine.K w.params).lookup f = some ⟨oc, od, .func (fnOf name qual params body scope dV kV doc pm an cdv ct), osl⟩) (hcd : codeIn (Mine.K w.params) cdv qual = true)
    (hbind : BindsTo s (fnOf name qual params body scope dV kV doc pm an cdv ct) ⟨vals, []⟩ binds) (hloc : ∀ y ∈ binds, scope.names.lookup y.1 = some .local)
    (h : ∀ dp fr gd un g L h₁ tk, (∀ b o, b ∉ news.map (·.1) → s.heap.get? b = some o → g.get? b = some o) → (∀ q ∈ news, q.1 < L) → Fr g L h₁ (fun y => binds.reverse.lookup y) → News g L h₁ news → (Mine.K w.params).In g → Top p loose mean mg mb g →
      (arr dp fr gd un).depth + k < 1000 → (arr dp fr gd un).units + 8 * k ≤ 9800 → (arr dp fr gd un).units ≤ 9800 →
      wpAny (model prg w) (arr dp fr gd un) (execs body (envOf qual scope L f cdv))
        (fun fl s' => Q (match fl with | .ret v => v | _ => .none) s') noE { s with heap := h₁, toks := tk })
    (hco : scope.isCoroutine = false) (hgen : scope.isGenerator = false) (hk : scope.kind = .function) (hcell : ∀ x ∈ scope.names, x.2 ≠ .cell) :
    wpAny (model prg w) A (call (.ref f) vals) Q E s := by
  obtain ⟨h9, dp, fr, gd, un⟩ := A
  obtain rfl : h9 = none := H.handled
  refine wpAny_call ?_
  have st : ∀ b o, h₀.get? b = some o → (hideAll s.heap (news.map (·.1))).get? b = some o := fun b o e => hideAll_get _ (H.keep b o e) fun q => by
    obtain ⟨r, hr, rfl⟩ := List.mem_map.mp q
    rw [(N r hr).2] at e; cases e
  have hdep := H.depth
  have hun := H.units
  refine codeAny_call_def (fd := fnOf name qual params body scope dV kV doc pm an cdv ct) (body := body) (binds := binds) (show dp < 1000 by simp only at hdep; omega) (H.keep _ _ (H.X _ _ ho)) rfl (H.T.nolimit.keeps H.keep) (codeRec_of (H.X.keeps H.keep) hcd) rfl hbind hcell hloc (fun h₁ hns hk₁ => ?_) hco hgen hk
  have := h (dp + 1) (fr.map ((envOf qual scope s.heap.objs.size f cdv) :: ·)) gd (un + 3) _ s.heap.objs.size h₁ (s.toks + binds.length) (fun b o hb e => hideAll_get _ e hb) (fun q hq => Heap.lt_size (N q hq).1) ⟨hns, fun b o e => hk₁ b o (of_hideAll _ e), Nat.le_of_eq (hideAll_size _ _)⟩
    (fun q hq => ⟨hk₁ _ _ (N q hq).1, Nat.ne_of_lt (Heap.lt_size (N q hq).1), hideAll_none _ (List.mem_map_of_mem hq)⟩) (H.X.keeps st) (H.T.keeps st)
    (show dp + 1 + k < 1000 by simp only at hdep; omega) (show un + 3 + 8 * k ≤ 9800 by simp only at hun; omega) (show un + 3 ≤ 9800 by simp only at hun; omega)
  exact wpAny_mono this (fun fl s' hl => hl) fun _ _ y => False.elim y

/-- the same for a def with cells -/
theorem enterC (news : List (Addr × Obj)) (H : At w p loose mean mg mb A h₀ s (k + 1)) (N : ∀ q ∈ news, s.heap.get? q.1 = some q.2 ∧ h₀.get? q.1 = none)
    (ho : (Mine.K w.params).lookup f = some ⟨oc, od, .func (fnOf name qual params body scope dV kV doc pm an cdv ct), osl⟩) (hcd : codeIn (Mine.K w.params) cdv qual = true)
    (hbind : BindsTo s (fnOf name qual params body scope dV kV doc pm an cdv ct) ⟨vals, []⟩ binds)
    (hkind : (binds.all fun y => scope.names.lookup y.1 == some .local || scope.names.lookup y.1 == some .cell) = true) (hnd : ((cellsFrom 0 scope.names []).map (·.1)).Nodup)
    (h : ∀ dp fr gd un g L h₁ tk cells, (∀ b o, b ∉ news.map (·.1) → s.heap.get? b = some o → g.get? b = some o) → (∀ q ∈ news, q.1 < L) → Fr g L h₁ (bindL (envOfC qual scope L f cdv).kindOf binds fun _ => none) → News g L h₁ (cells ++ news) →
      CellsAre (bindC (envOfC qual scope L f cdv).kindOf binds fun _ => none) (cellsFrom (L + 1) scope.names []) cells → (Mine.K w.params).In g → Top p loose mean mg mb g →
      (arr dp fr gd un).depth + k < 1000 → (arr dp fr gd un).units + 8 * k ≤ 9800 → (arr dp fr gd un).units ≤ 9800 →
      wpAny (model prg w) (arr dp fr gd un) (execs body (envOfC qual scope L f cdv))
        (fun fl s' => Q (match fl with | .ret v => v | _ => .none) s') noE { s with heap := h₁, toks := tk })
    (hco : scope.isCoroutine = false) (hgen : scope.isGenerator = false) (hk : scope.kind = .function) :
    wpAny (model prg w) A (call (.ref f) vals) Q E s := by
  obtain ⟨h9, dp, fr, gd, un⟩ := A
  obtain rfl : h9 = none := H.handled
  refine wpAny_call ?_
  have st : ∀ b o, h₀.get? b = some o → (hideAll s.heap (news.map (·.1))).get? b = some o := fun b o e => hideAll_get _ (H.keep b o e) fun q => by
    obtain ⟨r, hr, rfl⟩ := List.mem_map.mp q
    rw [(N r hr).2] at e; cases e
  have hdep := H.depth
  have hun := H.units
  refine codeAny_call_function (show dp < 1000 by simp only at hdep; omega) (H.keep _ _ (H.X _ _ ho)) rfl hco hgen rfl (codeRec_of (H.X.keeps H.keep) hcd) (hbind _ _ _ _ ?_)
  refine wpAny_newFunctionEnv_cells hk (kindsX hkind _) fun env' he s' x => ?_
  subst he
  refine ⟨(H.T.nolimit.keeps H.keep).keeps x.toInCall.keep, codeAny_func ?_⟩
  obtain ⟨h₁, tk, rfl, _⟩ := x.done
  have hk₁ := x.toInCall.keep
  obtain ⟨cells, NC, Y⟩ := Cl.news (h₀ := s.heap) (Nat.le_refl _) fun n c hm => ⟨x.cell n c (lookup_of_mem_nodup (cellsFrom_names scope.names 0 (s.heap.objs.size + 1) [] [] rfl ▸ hnd) hm), x.above n c hm⟩
  have := h (dp + 1) (fr.map ((envOfC qual scope s.heap.objs.size f cdv) :: ·)) gd (un + 3) _ s.heap.objs.size h₁ tk cells (fun b o hb e => hideAll_get _ e hb) (fun q hq => Heap.lt_size (N q hq).1) ⟨x.toInCall.ns, fun b o e => hk₁ b o (of_hideAll _ e), Nat.le_of_eq (hideAll_size _ _)⟩
    (fun q hq => by
      rcases List.mem_append.mp hq with hq | hq
      · refine ⟨(NC q hq).1, (NC q hq).2.1, ?_⟩
        cases e : (hideAll s.heap (news.map (·.1))).get? q.1 with
        | none => rfl
        | some o => have := of_hideAll _ e; rw [(NC q hq).2.2] at this; cases this
      · exact ⟨hk₁ _ _ (N q hq).1, Nat.ne_of_lt (Heap.lt_size (N q hq).1), hideAll_none _ (List.mem_map_of_mem hq)⟩) Y (H.X.keeps st) (H.T.keeps st)
    (show dp + 1 + k < 1000 by simp only at hdep; omega) (show un + 3 + 8 * k ≤ 9800 by simp only at hun; omega) (show un + 3 ≤ 9800 by simp only at hun; omega)
  exact wpAny_mono this (fun fl s' hl => hl) fun _ _ y => False.elim y
end

/-- the pool: its two ints -/
abbrev poolO (a b : Int) (ta tb : Tok) (n : Nat) : Obj := { cls := .type "list", data := .seq #[.int a ta, .int b tb] n }
def PoolOk (a b : Int) : Prop := 0 ≤ a ∧ 0 ≤ b ∧ b < 2147483647

theorem fm (x : Int) {m : Int} (h : 0 < m) : 0 ≤ x.fmod m ∧ x.fmod m < m := ⟨Int.fmod_nonneg_of_pos _ h, Int.fmod_lt_of_pos _ h⟩
theorem fd {x m : Int} (hx : 0 ≤ x) (h : 0 < m) : 0 ≤ x.fdiv m := by
  rw [Int.fdiv_eq_ediv_of_nonneg _ (by omega)]; exact Int.ediv_nonneg hx (by omega)

/-- what stands of the old heap behind a call that alone may change the pool -/
theorem news_drew {h₀ h' : Heap} {L src : Addr} {h : Heap} {m : Str → Option Value} {o o' : Obj} {news : List (Addr × Obj)} {f : Obj → List (Addr × Obj)} (F : Fr h₀ L h m) (N : News h₀ L h news) (U : UpdF src o news f)
    (k : ∀ b o, b ≠ src → h.get? b = some o → h'.get? b = some o) (ho : h'.get? src = some o') : Fr h₀ L h' m ∧ News h₀ L h' (f o') := by
  obtain ⟨own, rest, rfl, hg, h1, h2⟩ := U.split
  have hm := N (src, o) (List.mem_append_right _ (.head _))
  refine ⟨⟨F.ns.at' fun o e => k _ o (Ne.symm hm.2.1) e, fun b o e => k b o (fun q => by rw [q, hm.2.2] at e; cases e) (F.keep b o e), F.above⟩, ?_⟩
  rw [hg]
  intro q hq
  rcases List.mem_append.mp hq with hq | hq
  · have := N q (List.mem_append_left _ hq); exact ⟨k _ _ (h1 q hq) this.1, this.2⟩
  · rcases List.mem_cons.mp hq with rfl | hq
    · exact ⟨ho, hm.2⟩
    · have := N q (List.mem_append_right _ (.tail _ hq)); exact ⟨k _ _ (h2 q hq) this.1, this.2⟩
theorem upd_mem {src : Addr} {o : Obj} {news : List (Addr × Obj)} {f : Obj → List (Addr × Obj)} (U : UpdF src o news f) : (src, o) ∈ news := by
  obtain ⟨own, rest, rfl, _⟩ := U.split
  exact List.mem_append_right _ (.head _)

/-- the setting of a call out of a walked body -/
theorem At.of {w : World} {p : Program} {loose : List Str} {mean : ExcName → Option Value} {mg mb : Str → Option Value} {A : Around} {g : Heap} {s : Shared} {L : Addr} {m : Str → Option Value} {j k : Nat}
    (F : Fr g L s.heap m) (X : (Mine.K w.params).In g) (T : Top p loose mean mg mb g) (hh : A.handled = none) (hd : A.depth + k < 1000) (hu : A.units + 8 * k ≤ 9800) (hj : j ≤ k) : At w p loose mean mg mb A g s j :=
  ⟨X, T, F.keep, hh, by omega, by omega⟩



section
variable {w : World} {p : Program} {loose : List Str} {mean : ExcName → Option Value} {mg mb : Str → Option Value} {A : Around} {h₀ : Heap} {s : Shared}
  {name qual : Str} {params : Arguments} {body : List Stmt} {scope : Scope} {dV kV doc pm cdv ct oc : Value} {an od : Option Addr} {osl : Array (Option Value)} {f : Addr} {vals : List Value} {binds : List (Str × Value)}
  {Q E : Value → Shared → Prop} {k : Nat}
theorem enter0 (H : At w p loose mean mg mb A h₀ s (k + 1))
    (ho : (Mine.K w.params).lookup f = some ⟨oc, od, .func (fnOf name qual params body scope dV kV doc pm an cdv ct), osl⟩) (hcd : codeIn (Mine.K w.params) cdv qual = true)
    (hbind : BindsTo s (fnOf name qual params body scope dV kV doc pm an cdv ct) ⟨vals, []⟩ binds) (hloc : ∀ y ∈ binds, scope.names.lookup y.1 = some .local)
    (h : ∀ dp fr gd un g L h₁ tk, (∀ b o, s.heap.get? b = some o → g.get? b = some o) → Fr g L h₁ (fun y => binds.reverse.lookup y) → News g L h₁ [] → (Mine.K w.params).In g → Top p loose mean mg mb g →
      (arr dp fr gd un).depth + k < 1000 → (arr dp fr gd un).units + 8 * k ≤ 9800 → (arr dp fr gd un).units ≤ 9800 →
      wpAny (model prg w) (arr dp fr gd un) (execs body (envOf qual scope L f cdv))
        (fun fl s' => Q (match fl with | .ret v => v | _ => .none) s') noE { s with heap := h₁, toks := tk })
    (hco : scope.isCoroutine = false) (hgen : scope.isGenerator = false) (hk : scope.kind = .function) (hcell : ∀ x ∈ scope.names, x.2 ≠ .cell) :
    wpAny (model prg w) A (call (.ref f) vals) Q E s :=
  enter [] H (fun _ h => nomatch h) ho hcd hbind hloc (fun dp fr gd un g L h₁ tk k1 _ F N X T hd hu hU => h dp fr gd un g L h₁ tk (fun b o e => k1 b o (fun q => nomatch q) e) F N X T hd hu hU) hco hgen hk hcell
end

/-- what stands behind a call that leaves the old heap as it is -/
theorem news_up {h₀ h h' : Heap} {L : Addr} {m : Str → Option Value} {news : List (Addr × Obj)} (F : Fr h₀ L h m) (N : News h₀ L h news) (k : ∀ b o, h.get? b = some o → h'.get? b = some o) : Fr h₀ L h' m ∧ News h₀ L h' news :=
  ⟨F.keeps k, fun q hq => ⟨k _ _ (N q hq).1, (N q hq).2⟩⟩
theorem off1_of {D : Addr} : ∀ {l : List (Addr × Obj)}, (∀ q ∈ l, q.1 ≠ D) → LCg.Off1 D l
  | [], _ => trivial
  | _ :: _, h => ⟨h _ (.head _), off1_of fun q hq => h q (.tail _ hq)⟩
theorem news_sub {h₀ h : Heap} {L : Addr} {news news' : List (Addr × Obj)} (N : News h₀ L h news) (k : ∀ q ∈ news', q ∈ news) : News h₀ L h news' := fun q hq => N q (k q hq)

section loops
variable {prog : Program} {w : World} {A : Around} {E : Value → Shared → Prop} {Q : Flow → Shared → Prop} {s : Shared} {env : Env} {h₀ : Heap} {L : Addr}
/-- the names that stand -/
def Has (m : Str → Option Value) : List (Str × Value) → Prop
  | [] => True
  | q :: r => m q.1 = some q.2 ∧ Has m r
theorem Has.all {m : Str → Option Value} : ∀ {ps : List (Str × Value)}, Has m ps → ∀ q ∈ ps, m q.1 = some q.2
  | _ :: _, h, _, .head _ => h.1
  | _ :: _, h, _, .tail _ hq => h.2.all _ hq
theorem kst_now {m : Str → Option Value} {h : Heap} {ps : List (Str × Value)} (h1 : Has m ps) (F : Fr h₀ L h m) : Fr h₀ L h (kstB m ps) := by
  have em : kstB m ps = m := by
    funext y
    exact kstB_eq h1.all fun _ => rfl
  rw [em]; exact F

/-- the end of a turn: the next state -/
def TEnd {σ : Type} (h₀ : Heap) (L : Addr) (s : Shared) (Led : σ → List (Addr × Obj)) (ps : σ → List (Str × Value)) (P : σ → Prop) (s₂ : Shared) : Prop :=
  ∃ (c' : σ) (h' : Heap) (tk : Nat) (m' : Str → Option Value) (news' : List (Addr × Obj)), s₂ = { s with heap := h', toks := tk } ∧ Fr h₀ L h' m' ∧ News h₀ L h' news' ∧ (∀ q ∈ Led c', q ∈ news') ∧ Has m' (ps c') ∧ P c'
def TPost {σ : Type} (h₀ : Heap) (L : Addr) (s : Shared) (Led : σ → List (Addr × Obj)) (ps : σ → List (Str × Value)) (P : σ → Prop) (Q : Flow → Shared → Prop) (f : Flow) (s₂ : Shared) : Prop :=
  match f with
  | .ret v => Q (.ret v) s₂
  | .brk => Q .next s₂
  | _ => TEnd h₀ L s Led ps P s₂
theorem tend {σ : Type} {Led : σ → List (Addr × Obj)} {ps : σ → List (Str × Value)} {m' : Str → Option Value} {P : σ → Prop} {h' : Heap} {tk : Nat} {news' : List (Addr × Obj)} (c' : σ)
    (F : Fr h₀ L h' m') (N : News h₀ L h' news') (hn : ∀ q ∈ Led c', q ∈ news') (hk : Has m' (ps c')) (hp : P c') : TEnd h₀ L s Led ps P { s with heap := h', toks := tk } := ⟨c', h', tk, m', news', rfl, F, N, hn, hk, hp⟩

theorem while_my {σ : Type} {test : Expr} {body : List Stmt} {pos : Pos} {m₀ : Str → Option Value} (Led : σ → List (Addr × Obj)) (ps : σ → List (Str × Value)) (P : σ → Prop) (μ : σ → Nat) (c₀ : σ)
    (F : Fr h₀ L s.heap m₀) (N : News h₀ L s.heap (Led c₀)) (hk : Has m₀ (ps c₀)) (hp : P c₀)
    (turn : ∀ (c : σ) (u : Str → Option Value) h tk, P c → Fr h₀ L h (kstB u (ps c)) → News h₀ L h (Led c) →
      wpAny (model prog w) A (isTrue test env (eval test env)) (fun b s₂ =>
        if b = true then wpAny (model prog w) A (execs body env) (TPost h₀ L s Led ps (fun c' => P c' ∧ μ c' < μ c) Q) E s₂ else Q .next s₂) E { s with heap := h, toks := tk })
    (hE : PassesOwn (model prog w) A env E) :
    wpAny (model prog w) A (exec (.While test body [] pos) env) Q E s := by
  refine While_inv2 (fun n m nx => ∃ c : σ, nx = Led c ∧ μ c = n ∧ Has m (ps c) ∧ P c) F N ⟨c₀, rfl, rfl, hk, hp⟩ ?_ hE
  rintro n m₁ nx h tk F₁ N₁ ⟨c, hnx, hsz, h1, hp'⟩
  rw [hnx] at N₁
  rw [← hsz]
  refine wpAny_mono (turn c m₁ h tk hp' (kst_now h1 F₁) N₁) (fun b s₂ q => ?_) fun _ _ x => x
  cases b with
  | false => simpa using q
  | true =>
    simp only [if_true] at q ⊢
    refine wpAny_mono q (fun f s₃ z => ?_) fun _ _ x => x
    cases f with
    | ret v => exact z
    | brk => exact z
    | next =>
      obtain ⟨c', h', tk', m', news', rfl, F', N', hn, hk9, hp9, hm9⟩ := z
      exact ⟨h', tk', m', Led c', μ c', rfl, F', fun q hq => N' q (hn q hq), hm9, c', rfl, rfl, hk9, hp9⟩
    | cont =>
      obtain ⟨c', h', tk', m', news', rfl, F', N', hn, hk9, hp9, hm9⟩ := z
      exact ⟨h', tk', m', Led c', μ c', rfl, F', fun q hq => N' q (hn q hq), hm9, c', rfl, rfl, hk9, hp9⟩

/-- the same, an unnamed address in the ledger -/
theorem while_myD {σ : Type} {test : Expr} {body : List Stmt} {pos : Pos} {m₀ : Str → Option Value} (Led : Addr → σ → List (Addr × Obj)) (ps : Addr → σ → List (Str × Value)) (P : σ → Prop) (μ : σ → Nat) (c₀ : σ) {D : Addr}
    (F : Fr h₀ L s.heap m₀) (N : News h₀ L s.heap (Led D c₀)) (hk : Has m₀ (ps D c₀)) (hp : P c₀)
    (turn : ∀ (c : σ) (u : Str → Option Value) h tk, P c → Fr h₀ L h (kstB u (ps D c)) → News h₀ L h (Led D c) →
      wpAny (model prog w) A (isTrue test env (eval test env)) (fun b s₂ =>
        if b = true then wpAny (model prog w) A (execs body env) (TPost h₀ L s (Led D) (ps D) (fun c' => P c' ∧ μ c' < μ c) Q) E s₂ else Q .next s₂) E { s with heap := h, toks := tk })
    (hE : PassesOwn (model prog w) A env E) :
    wpAny (model prog w) A (exec (.While test body [] pos) env) Q E s := while_my (Led D) (ps D) P μ c₀ F N hk hp turn hE

/-- a for over an iterator that walks; ps: the names that stand, Led: the ledger; its addresses stay -/
theorem for_my {σ : Type} {I : Addr} {x : Str} {body : List Stmt} {fp : List Addr} {n : Nat} {P : Nat → Value → Prop} {St : Nat → Heap → Prop} {m₀ : Str → Option Value} (as : List Addr) (Led : σ → List (Addr × Obj)) (ps : σ → List (Str × Value)) (J : Nat → σ → Prop) (c₀ : σ)
    (W : Walks prog w A I fp [I] n P St) (hI : s.heap.get? I = none) (o : Obj) (hfp : ∀ b ∈ fp, b = I ∨ ∃ ob, h₀.get? b = some ob) (hst : St 0 (s.heap.push o)) (hIs : I = s.heap.objs.size)
    (hL : env.locals = L) (ha : ∀ c, (Led c).map (·.1) = as)
    (F : Fr h₀ L s.heap m₀) (N : News h₀ L s.heap (Led c₀)) (hk : Has m₀ (ps c₀)) (hj : J 0 c₀)
    (turn : ∀ i v (c : σ) (u : Str → Option Value) h tk own, i < n → P i v → J i c → OwnOff own as → Fr h₀ L h (fun y => if y = x then some v else kstB u (ps c) y) → News h₀ L h (Led c ++ own) →
      wpAny (model prog w) A (execs body env) (fun f s₂ => match f with | .ret v => Q (.ret v) s₂ | .brk => Q .next s₂ | _ => TEnd h₀ L { s with heap := h, toks := tk } (fun c' => Led c' ++ own) ps (J (i + 1)) s₂) E { s with heap := h, toks := tk })
    (done : ∀ (c : σ) (u : Str → Option Value) h tk, J n c → Fr h₀ L h (kstB u (ps c)) → News h₀ L h (Led c) → Q .next { s with heap := h, toks := tk }) :
    LoopAtV prog w A h₀ env x body Q E (.ref I) { s with heap := s.heap.push o } := by
  subst hL
  subst hIs
  have old : ∀ b ob, h₀.get? b = some ob → b ≠ s.heap.objs.size := fun b ob e q => absurd (Heap.lt_size (F.keep b ob e)) (q ▸ Nat.lt_irrefl _)
  refine loop_invN (fun i m nx => ∃ c : σ, nx = Led c ∧ Has m (ps c) ∧ J i c) W ?_ ?_ ?_ ?_ hst (F.push _) (fun q hq => ⟨Heap.get?_push_of_some _ (N q hq).1, (N q hq).2⟩) ⟨c₀, rfl, hk, hj⟩ ?_ ?_
  · intro hm
    rcases hfp _ hm with e | ⟨ob, e⟩
    · exact absurd F.ns.lt (e ▸ Nat.lt_irrefl _)
    · exact absurd (Nat.lt_of_lt_of_le (Heap.lt_size e) F.above) (Nat.lt_irrefl _)
  · intro b hb
    rw [List.mem_singleton.mp hb]
    exact next_is_new F
  · intro q hq hI
    exact absurd (Heap.lt_size (N q hq).1) ((List.mem_singleton.mp hI) ▸ Nat.lt_irrefl _)
  · intro q hq hI
    rcases hfp _ hI with e | ⟨ob, e⟩
    · exact absurd (Heap.lt_size (N q hq).1) (e ▸ Nat.lt_irrefl _)
    · have := (N q hq).2.2; rw [e] at this; cases this
  · rintro i v m₁ nx h tk own hi hP _ hoff ⟨c, rfl, h1, hp'⟩ F₁ N₁
    rw [ha] at hoff
    have F₂ : Fr h₀ env.locals h (fun y => if y = x then some v else kstB m₁ (ps c) y) := by
      have em : kstB m₁ (ps c) = m₁ := by
        funext y
        exact kstB_eq h1.all fun _ => rfl
      rw [em]; exact F₁
    refine wpAny_mono (turn i v c m₁ h tk own hi hP hp' hoff F₂ N₁) (fun f s₂ z => ?_) fun _ _ e => e
    have fin : TEnd h₀ env.locals { s with heap := h, toks := tk } (fun c' => Led c' ++ own) ps (J (i + 1)) s₂ → InvEndN h₀ env.locals (fun m nx => ∃ c : σ, nx = Led c ∧ Has m (ps c) ∧ J (i + 1) c) own ((Led c₀).map (·.1)) { s with heap := h, toks := tk } s₂ := by
      rintro ⟨c', h', tk', m', news', rfl, F', N', hn, hk9, hp9⟩
      exact ⟨h', tk', m', news', Led c', rfl, F', N', fun q hq => hn q (List.mem_append_left _ hq), fun q hq => hn q (List.mem_append_right _ hq), by rw [ha, ha], c', rfl, hk9, hp9⟩
    cases f with
    | ret v => exact z
    | brk => exact z
    | next => exact fin z
    | cont => exact fin z
  · rintro m₁ nx h tk ⟨c, rfl, h1, hp'⟩ F₁ N₁
    exact done c m₁ h tk hp' (kst_now h1 F₁) N₁

theorem for_str {σ : Type} {xt : Str} {tx : Tok} {x : Str} {body : List Stmt} {m₀ : Str → Option Value} (as : List Addr) (Led : σ → List (Addr × Obj)) (ps : σ → List (Str × Value)) (J : Nat → σ → Prop) (c₀ : σ)
    (hh : A.handled = none) (hL : env.locals = L) (ha : ∀ c, (Led c).map (·.1) = as)
    (F : Fr h₀ L s.heap m₀) (N : News h₀ L s.heap (Led c₀)) (hk : Has m₀ (ps c₀)) (hj : J 0 c₀)
    (turn : ∀ i (e : Nat) t (c : σ) (u : Str → Option Value) h tk own, xt.cps[i]? = some e → J i c → OwnOff own as → Fr h₀ L h (fun y => if y = x then some (.str ⟨#[e]⟩ t) else kstB u (ps c) y) → News h₀ L h (Led c ++ own) →
      wpAny (model prog w) A (execs body env) (fun f s₂ => match f with | .ret v => Q (.ret v) s₂ | .brk => Q .next s₂ | _ => TEnd h₀ L { s with heap := h, toks := tk } (fun c' => Led c' ++ own) ps (J (i + 1)) s₂) E { s with heap := h, toks := tk })
    (done : ∀ (c : σ) (u : Str → Option Value) h tk, J xt.cps.size c → Fr h₀ L h (kstB u (ps c)) → News h₀ L h (Led c) → Q .next { s with heap := h, toks := tk }) :
    wpAny (model prog w) A (pyIter (.str xt tx)) (fun it s₂ => LoopAtV prog w A h₀ env x body Q E it s₂) E s := by
  refine wpAny_pyIter_str fun o St hW hst => ?_
  refine for_my as Led ps J c₀ (hW A hh) (by cases e : s.heap.get? s.heap.objs.size with | none => rfl | some ob => exact absurd (Heap.lt_size e) (Nat.lt_irrefl _)) o (fun b hb => .inl (List.mem_singleton.mp hb)) hst rfl hL ha F N hk hj ?_ done
  rintro i v c u h tk own hi ⟨e, t, he, rfl⟩ hJ hoff F₁ N₁
  exact turn i e t c u h tk own he hJ hoff F₁ N₁

theorem for_list {σ : Type} {l : Addr} {vs : List Value} {x : Str} {body : List Stmt} {m₀ : Str → Option Value} (as : List Addr) (Led : σ → List (Addr × Obj)) (ps : σ → List (Str × Value)) (J : Nat → σ → Prop) (c₀ : σ)
    (hl : h₀.IsList l vs.toArray) (hh : A.handled = none) (hL : env.locals = L) (ha : ∀ c, (Led c).map (·.1) = as)
    (F : Fr h₀ L s.heap m₀) (N : News h₀ L s.heap (Led c₀)) (hk : Has m₀ (ps c₀)) (hj : J 0 c₀)
    (turn : ∀ i v (c : σ) (u : Str → Option Value) h tk own, vs[i]? = some v → J i c → OwnOff own as → Fr h₀ L h (fun y => if y = x then some v else kstB u (ps c) y) → News h₀ L h (Led c ++ own) →
      wpAny (model prog w) A (execs body env) (fun f s₂ => match f with | .ret v => Q (.ret v) s₂ | .brk => Q .next s₂ | _ => TEnd h₀ L { s with heap := h, toks := tk } (fun c' => Led c' ++ own) ps (J (i + 1)) s₂) E { s with heap := h, toks := tk })
    (done : ∀ (c : σ) (u : Str → Option Value) h tk, J vs.length c → Fr h₀ L h (kstB u (ps c)) → News h₀ L h (Led c) → Q .next { s with heap := h, toks := tk }) :
    wpAny (model prog w) A (pyIter (.ref l)) (fun it s₂ => LoopAtV prog w A h₀ env x body Q E it s₂) E s := by
  have hls : s.heap.IsList l vs.toArray := hl.at fun o e => F.keep l o e
  have hlt : l < s.heap.objs.size := by obtain ⟨_, e, _⟩ := hls; exact Heap.lt_size e
  refine wpAny_pyIter_list hls ?_
  have W := Walks.list (prog := prog) (w := w) hh s.heap.objs.size l (Nat.ne_of_lt hlt) vs.toArray
  rw [List.size_toArray] at W
  refine for_my as Led ps J c₀ W (by cases e : s.heap.get? s.heap.objs.size with | none => rfl | some ob => exact absurd (Heap.lt_size e) (Nat.lt_irrefl _)) _ (fun b hb => ?_) ⟨⟨_, Heap.get?_push_size _ rfl, rfl, rfl⟩, hls.push _⟩ rfl hL ha F N hk hj ?_ done
  · rcases List.mem_cons.mp hb with rfl | hb
    · exact .inl rfl
    · rw [List.mem_singleton.mp hb]; obtain ⟨ob, e, _⟩ := hl; exact .inr ⟨ob, e⟩
  · rintro i v c u h tk own hi he hJ hoff F₁ N₁
    exact turn i v c u h tk own (by simpa using he) hJ hoff F₁ N₁

theorem for_bytes {σ : Type} {b : Array UInt8} {tb : Tok} {x : Str} {body : List Stmt} {m₀ : Str → Option Value} (as : List Addr) (Led : σ → List (Addr × Obj)) (ps : σ → List (Str × Value)) (J : Nat → σ → Prop) (c₀ : σ)
    (hh : A.handled = none) (hL : env.locals = L) (ha : ∀ c, (Led c).map (·.1) = as)
    (F : Fr h₀ L s.heap m₀) (N : News h₀ L s.heap (Led c₀)) (hk : Has m₀ (ps c₀)) (hj : J 0 c₀)
    (turn : ∀ i (e : UInt8) t (c : σ) (u : Str → Option Value) h tk own, b[i]? = some e → J i c → OwnOff own as → Fr h₀ L h (fun y => if y = x then some (.int (e.toNat : Int) t) else kstB u (ps c) y) → News h₀ L h (Led c ++ own) →
      wpAny (model prog w) A (execs body env) (fun f s₂ => match f with | .ret v => Q (.ret v) s₂ | .brk => Q .next s₂ | _ => TEnd h₀ L { s with heap := h, toks := tk } (fun c' => Led c' ++ own) ps (J (i + 1)) s₂) E { s with heap := h, toks := tk })
    (done : ∀ (c : σ) (u : Str → Option Value) h tk, J b.size c → Fr h₀ L h (kstB u (ps c)) → News h₀ L h (Led c) → Q .next { s with heap := h, toks := tk }) :
    wpAny (model prog w) A (pyIter (.bytes b tb)) (fun it s₂ => LoopAtV prog w A h₀ env x body Q E it s₂) E s := by
  refine KBw.pyIter_bytes ?_
  have W := KBw.walks (prog := prog) (w := w) hh s.heap.objs.size b tb
  refine for_my as Led ps J c₀ W (by cases e : s.heap.get? s.heap.objs.size with | none => rfl | some ob => exact absurd (Heap.lt_size e) (Nat.lt_irrefl _)) _ (fun b hb => .inl (List.mem_singleton.mp hb)) ⟨_, Heap.get?_push_size _ rfl, rfl, rfl⟩ rfl hL ha F N hk hj ?_ done
  rintro i v c u h tk own hi ⟨e, t, he, rfl⟩ hJ hoff F₁ N₁
  exact turn i e t c u h tk own he hJ hoff F₁ N₁

theorem for_range {σ : Type} {r : Addr} {a b : Int} {t₀ u₀ v₀ : Tok} {n : Nat} {x : Str} {body : List Stmt} {m₀ : Str → Option Value} (as : List Addr) (Led : σ → List (Addr × Obj)) (ps : σ → List (Str × Value)) (J : Nat → σ → Prop) (c₀ : σ)
    (hr : IsRange s.heap r a b 1 t₀ u₀ v₀) (hsm : Builtin.Range.small a b 1 = true) (hn : Builtin.Range.rangeSize a b 1 = ((n : Nat) : Int)) (hh : A.handled = none) (hL : env.locals = L) (ha : ∀ c, (Led c).map (·.1) = as)
    (F : Fr h₀ L s.heap m₀) (N : News h₀ L s.heap (Led c₀)) (hk : Has m₀ (ps c₀)) (hj : J 0 c₀)
    (turn : ∀ (i : Nat) t (c : σ) (u : Str → Option Value) h tk own, i < n → J i c → OwnOff own as → Fr h₀ L h (fun y => if y = x then some (.int (a + (i : Int)) t) else kstB u (ps c) y) → News h₀ L h (Led c ++ own) →
      wpAny (model prog w) A (execs body env) (fun f s₂ => match f with | .ret v => Q (.ret v) s₂ | .brk => Q .next s₂ | _ => TEnd h₀ L { s with heap := h, toks := tk } (fun c' => Led c' ++ own) ps (J (i + 1)) s₂) E { s with heap := h, toks := tk })
    (done : ∀ (c : σ) (u : Str → Option Value) h tk, J n c → Fr h₀ L h (kstB u (ps c)) → News h₀ L h (Led c) → Q .next { s with heap := h, toks := tk }) :
    wpAny (model prog w) A (pyIter (.ref r)) (fun it s₂ => LoopAtV prog w A h₀ env x body Q E it s₂) E s := by
  refine wpAny_pyIter_range hr hsm ?_
  have W := LCg.range_walks (prog := prog) (w := w) (I := s.heap.objs.size) hh a n
  refine for_my as Led ps J c₀ W (by cases e : s.heap.get? s.heap.objs.size with | none => rfl | some ob => exact absurd (Heap.lt_size e) (Nat.lt_irrefl _)) _ (fun b hb => .inl (List.mem_singleton.mp hb)) (by show IsRangeIter _ _ _ _ _; rw [hn]; simpa using Heap.get?_push_size _ rfl) rfl hL ha F N hk hj ?_ done
  rintro i v c u h tk own hi ⟨t, rfl⟩ hJ hoff F₁ N₁
  exact turn i t c u h tk own hi hJ hoff F₁ N₁
theorem for_strD {σ : Type} {xt : Str} {tx : Tok} {x : Str} {body : List Stmt} {m₀ : Str → Option Value} (as : Addr → List Addr) (Led : Addr → σ → List (Addr × Obj)) (ps : Addr → σ → List (Str × Value)) (J : Nat → σ → Prop) (c₀ : σ) {D : Addr}
    (hh : A.handled = none) (hL : env.locals = L) (ha : ∀ c, (Led D c).map (·.1) = as D)
    (F : Fr h₀ L s.heap m₀) (N : News h₀ L s.heap (Led D c₀)) (hk : Has m₀ (ps D c₀)) (hj : J 0 c₀)
    (turn : ∀ i (e : Nat) t (c : σ) (u : Str → Option Value) h tk own, xt.cps[i]? = some e → J i c → OwnOff own (as D) → Fr h₀ L h (fun y => if y = x then some (.str ⟨#[e]⟩ t) else kstB u (ps D c) y) → News h₀ L h (Led D c ++ own) →
      wpAny (model prog w) A (execs body env) (fun f s₂ => match f with | .ret v => Q (.ret v) s₂ | .brk => Q .next s₂ | _ => TEnd h₀ L { s with heap := h, toks := tk } (fun c' => Led D c' ++ own) (ps D) (J (i + 1)) s₂) E { s with heap := h, toks := tk })
    (done : ∀ (c : σ) (u : Str → Option Value) h tk, J xt.cps.size c → Fr h₀ L h (kstB u (ps D c)) → News h₀ L h (Led D c) → Q .next { s with heap := h, toks := tk }) :
    wpAny (model prog w) A (pyIter (.str xt tx)) (fun it s₂ => LoopAtV prog w A h₀ env x body Q E it s₂) E s := for_str (as D) (Led D) (ps D) J c₀ hh hL ha F N hk hj turn done
theorem for_listD {σ : Type} {l : Addr} {vs : List Value} {x : Str} {body : List Stmt} {m₀ : Str → Option Value} (as : Addr → List Addr) (Led : Addr → σ → List (Addr × Obj)) (ps : Addr → σ → List (Str × Value)) (J : Nat → σ → Prop) (c₀ : σ) {D : Addr}
    (hl : h₀.IsList l vs.toArray) (hh : A.handled = none) (hL : env.locals = L) (ha : ∀ c, (Led D c).map (·.1) = as D)
    (F : Fr h₀ L s.heap m₀) (N : News h₀ L s.heap (Led D c₀)) (hk : Has m₀ (ps D c₀)) (hj : J 0 c₀)
    (turn : ∀ i v (c : σ) (u : Str → Option Value) h tk own, vs[i]? = some v → J i c → OwnOff own (as D) → Fr h₀ L h (fun y => if y = x then some v else kstB u (ps D c) y) → News h₀ L h (Led D c ++ own) →
      wpAny (model prog w) A (execs body env) (fun f s₂ => match f with | .ret v => Q (.ret v) s₂ | .brk => Q .next s₂ | _ => TEnd h₀ L { s with heap := h, toks := tk } (fun c' => Led D c' ++ own) (ps D) (J (i + 1)) s₂) E { s with heap := h, toks := tk })
    (done : ∀ (c : σ) (u : Str → Option Value) h tk, J vs.length c → Fr h₀ L h (kstB u (ps D c)) → News h₀ L h (Led D c) → Q .next { s with heap := h, toks := tk }) :
    wpAny (model prog w) A (pyIter (.ref l)) (fun it s₂ => LoopAtV prog w A h₀ env x body Q E it s₂) E s := for_list (as D) (Led D) (ps D) J c₀ hl hh hL ha F N hk hj turn done
theorem for_bytesD {σ : Type} {b : Array UInt8} {tb : Tok} {x : Str} {body : List Stmt} {m₀ : Str → Option Value} (as : Addr → List Addr) (Led : Addr → σ → List (Addr × Obj)) (ps : Addr → σ → List (Str × Value)) (J : Nat → σ → Prop) (c₀ : σ) {D : Addr}
    (hh : A.handled = none) (hL : env.locals = L) (ha : ∀ c, (Led D c).map (·.1) = as D)
    (F : Fr h₀ L s.heap m₀) (N : News h₀ L s.heap (Led D c₀)) (hk : Has m₀ (ps D c₀)) (hj : J 0 c₀)
    (turn : ∀ i (e : UInt8) t (c : σ) (u : Str → Option Value) h tk own, b[i]? = some e → J i c → OwnOff own (as D) → Fr h₀ L h (fun y => if y = x then some (.int (e.toNat : Int) t) else kstB u (ps D c) y) → News h₀ L h (Led D c ++ own) →
      wpAny (model prog w) A (execs body env) (fun f s₂ => match f with | .ret v => Q (.ret v) s₂ | .brk => Q .next s₂ | _ => TEnd h₀ L { s with heap := h, toks := tk } (fun c' => Led D c' ++ own) (ps D) (J (i + 1)) s₂) E { s with heap := h, toks := tk })
    (done : ∀ (c : σ) (u : Str → Option Value) h tk, J b.size c → Fr h₀ L h (kstB u (ps D c)) → News h₀ L h (Led D c) → Q .next { s with heap := h, toks := tk }) :
    wpAny (model prog w) A (pyIter (.bytes b tb)) (fun it s₂ => LoopAtV prog w A h₀ env x body Q E it s₂) E s := for_bytes (as D) (Led D) (ps D) J c₀ hh hL ha F N hk hj turn done
theorem for_rangeD {σ : Type} {r : Addr} {a b : Int} {t₀ u₀ v₀ : Tok} {n : Nat} {x : Str} {body : List Stmt} {m₀ : Str → Option Value} (as : Addr → List Addr) (Led : Addr → σ → List (Addr × Obj)) (ps : Addr → σ → List (Str × Value)) (J : Nat → σ → Prop) (c₀ : σ) {D : Addr}
    (hr : IsRange s.heap r a b 1 t₀ u₀ v₀) (hsm : Builtin.Range.small a b 1 = true) (hn : Builtin.Range.rangeSize a b 1 = ((n : Nat) : Int)) (hh : A.handled = none) (hL : env.locals = L) (ha : ∀ c, (Led D c).map (·.1) = as D)
    (F : Fr h₀ L s.heap m₀) (N : News h₀ L s.heap (Led D c₀)) (hk : Has m₀ (ps D c₀)) (hj : J 0 c₀)
    (turn : ∀ (i : Nat) t (c : σ) (u : Str → Option Value) h tk own, i < n → J i c → OwnOff own (as D) → Fr h₀ L h (fun y => if y = x then some (.int (a + (i : Int)) t) else kstB u (ps D c) y) → News h₀ L h (Led D c ++ own) →
      wpAny (model prog w) A (execs body env) (fun f s₂ => match f with | .ret v => Q (.ret v) s₂ | .brk => Q .next s₂ | _ => TEnd h₀ L { s with heap := h, toks := tk } (fun c' => Led D c' ++ own) (ps D) (J (i + 1)) s₂) E { s with heap := h, toks := tk })
    (done : ∀ (c : σ) (u : Str → Option Value) h tk, J n c → Fr h₀ L h (kstB u (ps D c)) → News h₀ L h (Led D c) → Q .next { s with heap := h, toks := tk }) :
    wpAny (model prog w) A (pyIter (.ref r)) (fun it s₂ => LoopAtV prog w A h₀ env x body Q E it s₂) E s := for_range (as D) (Led D) (ps D) J c₀ hr hsm hn hh hL ha F N hk hj turn done
end loops
local macro_rules | `(tactic| walk_at "my steps") => `(tactic| repeat' (first | (k_unfold; (try dsimp only)) | ((fail_if_success (first | (with_reducible show wpAny _ _ (exec (Stmt.While _ _ _ _) _) _ _ _) | (with_reducible show wpAny _ _ (exec (Stmt.For _ _ _ _ _) _) _ _ _) | (with_reducible show wpAny _ _ (pyIter _) _ _ _) | (with_reducible show wpAny _ _ (eval (Expr.ListComp _ _ _ _) _) _ _ _) | (with_reducible show wpAny _ _ (exec (Stmt.Assign _ (Expr.ListComp _ _ _ _) _) _) _ _ _))); first | walk1 | (dsimp only; (fail_if_success (first | (with_reducible show wpAny _ _ (exec (Stmt.While _ _ _ _) _) _ _ _) | (with_reducible show wpAny _ _ (exec (Stmt.For _ _ _ _ _) _) _ _ _) | (with_reducible show wpAny _ _ (pyIter _) _ _ _) | (with_reducible show wpAny _ _ (eval (Expr.ListComp _ _ _ _) _) _ _ _) | (with_reducible show wpAny _ _ (exec (Stmt.Assign _ (Expr.ListComp _ _ _ _) _) _) _ _ _))); walk1)) | (leave1; (try dsimp only)) | fail "no step"))
local macro_rules | `(tactic| walk_at "my for") => `(tactic| ((rename Fr _ _ _ _ => F9); (refine' For_invVF F9 ?hx ?hp ?_ (hE := noE_passes)); (case hx => exact rfl); (case hp => exact rfl)))
local macro_rules | `(tactic| walk_at "my enter") => `(tactic| (
  (case k6 => k_is); (case k7 => k_is); (case k9 => exact BindsTo.of_eq rfl); (case c5 => decide); (case kB => exact locs rfl); (case c2 => exact rfl); (case c3 => exact rfl); (case c4 => exact rfl)))
local macro_rules | `(tactic| walk_at "my end") => `(tactic| ((try dsimp only); (try k_unfold); (try dsimp only)))
/-- the numbers of a text's signs -/
def cpl (x : Str) : List Nat := x.cps.toList
section rules
variable {prog : Program} {w : World} {A : Around} {E : Value → Shared → Prop} {s : Shared} {g : Heap} {L : Addr} {news : List (Addr × Obj)}
theorem bytes_item {value slice : PySem.Expr} {b : Array UInt8} {t u : Tok} {i : Nat} {Q : Value → Shared → Prop} (hf : b.size ≤ 1000000) (hi : i < b.size)
    (h : ∀ t' tk, Q (.int (b[i].toNat : Int) t') { s with toks := tk })
    (hs : subscripted slice false (.bytes b t) (.int i u) = operate [.bytes b t, .int i u] (getItem (.bytes b t) (.int i u)) := by with_unfolding_all rfl) :
    wpAny (model prog w) A (subscriptTail value slice (.bytes b t) (.int i u)) Q E s := by
  have e : b = b.toList.toArray := by simp
  have hg : wpAny (model prog w) A (getItem (.bytes b.toList.toArray t) (.int i u)) Q E s := by
    refine getItem_bytes (by simp; omega) (by omega) (by simp; omega) ?_
    have : (b.toList.getD (Int.toNat (i : Int)) 0) = b[i] := by simp [hi]
    rw [this]; exact h _ _
  exact tail_any (typeIs_bytes s b t) (by exact FB.slot_bytes_getitem.lookup) (e ▸ hg) hs
theorem str_item {value slice : PySem.Expr} {x : Str} {t u : Tok} {k : Int} {Q : Value → Shared → Prop} (hf : x.length ≤ 1000000) (h0 : 0 ≤ k) (hk : k < (x.length : Int))
    (h : ∀ t' tk, Q (.str ⟨#[(cpl x).getD k.toNat 0]⟩ t') { s with toks := tk })
    (hs : subscripted slice false (.str x t) (.int k u) = operate [.str x t, .int k u] (getItem (.str x t) (.int k u)) := by with_unfolding_all rfl) :
    wpAny (model prog w) A (subscriptTail value slice (.str x t) (.int k u)) Q E s := by
  have hl : k.toNat < x.cps.size := by have : x.length = x.cps.size := rfl; omega
  have hc : (seqIndex? k x.length).bind (x.cps[·]?) = some ((cpl x).getD k.toNat 0) := by
    have hn : ¬ k < 0 := by omega
    have e : seqIndex? k x.length = some k.toNat := by simp [seqIndex?, hn, h0, hk]
    rw [e]
    simp [cpl, hl]
  exact tail_any (typeIs_str s x t) (by exact F.slot_str_getitem.lookup) (P.getItem_str (by simp only [Bool.or_eq_false_iff, decide_eq_false_iff_not]; omega) hc (h _ _)) hs
theorem list_of {D : Addr} {vs : List Value} {n : Nat} {c : Value} {d : Option Addr} {sl : Array (Option Value)} (N : News g L s.heap news) (hm : (D, PySem.W.listOf vs.toArray n) ∈ news) : s.heap.IsList D vs.toArray := ⟨_, (N _ hm).1, rfl, _, rfl⟩
theorem join_news {D : Addr} {vs : List Value} {ys : List Str} {n : Nat} {x : Str} {t : Tok} {Q : Value → Shared → Prop} (N : News g L s.heap news) (hm : (D, PySem.W.listOf vs.toArray n) ∈ news) (hi : StrsAre vs ys)
    (hok : (ys.map (·.length)).sum + ys.length * x.length ≤ 16777216) (h : ∀ t' k, Q (.str (Txt.join x ys) t') { s with toks := k }) : wpAny (model prog w) A (call (.builtin "str.join") [.str x t, .ref D]) Q E s :=
  join_list (items := vs.toArray) ⟨_, (N _ hm).1, rfl, _, rfl⟩ hi hok h
theorem append_my {D : Addr} {vs : List Value} {n : Nat} {x : Value} {m : Str → Option Value} {f : Obj → List (Addr × Obj)} {Q : Value → Shared → Prop} (F : Fr g L s.heap m) (N : News g L s.heap news) (U : UpdF D (PySem.W.listOf vs.toArray n) news f)
    (hz : vs.length ≤ 100000) (h : ∀ h', Fr g L h' m → News g L h' (f (PySem.W.listOf (vs ++ [x]).toArray (n + 1))) → Q .none { s with heap := h' }) : wpAny (model prog w) A (call (.builtin "list.append") [.ref D, x]) Q E s := by
  obtain ⟨pre, post, rfl, hg, a, b⟩ := U.split
  have z := N (D, PySem.W.listOf vs.toArray n) (List.mem_append.mpr (.inr (.head _)))
  refine append_at (hsz := by rw [List.size_toArray, sizeLine_eq]; omega) z.1 fun h' hs ho' => h h' (F.change hs z.2.1 z.2.2) ?_
  rw [hg]
  rw [List.push_toArray] at ho'
  exact news_set N a b hs ho'
end rules

theorem cpl_ext {x y : Str} (h : cpl x = cpl y) : x = y := Str.ext' (Array.toList_inj.mp h)
theorem cpl_append (x y : Str) : cpl (x ++ y) = cpl x ++ cpl y := by show (x ++ y).cps.toList = _; rw [Str.cps_append, Array.toList_append]; rfl
theorem band_pow {n k : Nat} : Builtin.bitAnd (n : Int) ((2 ^ k - 1 : Nat) : Int) = ((n % 2 ^ k : Nat) : Int) := by
  rw [bitAnd_pp (by omega) (by omega)]
  simp only [Int.toNat_natCast]
  rw [Nat.and_two_pow_sub_one_eq_mod]
theorem bor_low {a n m : Nat} (hn : n < m) (h : ∀ k, k < m → a &&& k = 0) : Builtin.bitOr (a : Int) (n : Int) = ((a + n : Nat) : Int) := by
  rw [bitOr_and, bitAnd_pp (by omega) (by omega)]
  simp only [Int.toNat_natCast]
  rw [h n hn]
  omega
theorem shr_nat {n k : Nat} : ((n : Int)).fdiv (2 ^ k) = ((n / 2 ^ k : Nat) : Int) := by
  rw [Int.fdiv_eq_ediv_of_nonneg _ (by exact Int.le_of_lt (Int.pow_pos (by decide)))]
  norm_cast
theorem glued_go (ys : List Str) : ∀ acc : Array Nat, ((ys.foldl (fun acc p => acc ++ (Str.empty).cps ++ p.cps) acc) : Array Nat).toList = acc.toList ++ (ys.map cpl).flatten := by
  induction ys with
  | nil => intro acc; simp
  | cons y r ih => intro acc; rw [List.foldl_cons, ih]; simp [cpl, Str.empty]
theorem cpl_join0 {e : Str} (he : cpl e = []) (ys : List Str) : cpl (Txt.join e ys) = (ys.map cpl).flatten := by
  have : e = Str.empty := cpl_ext he
  subst this
  cases ys with
  | nil => rfl
  | cons y r =>
    show ((r.foldl _ _ : Array Nat)).toList = _
    rw [glued_go]; rfl
theorem length_cpl (x : Str) : x.length = (cpl x).length := by simp [cpl, Str.length]
theorem strs_snoc {us : List Value} {ws : List Str} {x : Str} {t : Tok} (h : StrsAre us ws) : StrsAre (us ++ [.str x t]) (ws ++ [x]) := KStt.strs_snoc h
theorem strs_len : ∀ {us : List Value} {ws : List Str}, StrsAre us ws → us.length = ws.length
  | _, _, .nil => rfl
  | _, _, .cons _ _ r => by rw [List.length_cons, List.length_cons, strs_len r]
local macro_rules | `(tactic| walk_at "call builtin:list.append") => `(tactic| ((with_reducible show wpAny _ _ (call (Value.builtin _) [Value.ref _, _]) _ _ _); k_dflt (refine' append_my ?F ?N ?U ?hz ?_; (case F => k_asm); (case N => k_asm); (case U => k_updF); (case hz => ((try simp only [List.length_append, List.length_cons, List.length_nil]); omega)); k_whole); intro h' F' N'; (try dsimp only at N'); (try k_sweep)))
local macro_rules | `(tactic| walk_at "subscriptTail") => `(tactic| ((with_reducible show wpAny _ _ (subscriptTail _ _ (Value.bytes _ _) (Value.int _ _)) _ _ _); (refine' bytes_item ?hf ?hi ?_ ?hs; (case hs => with_unfolding_all rfl); (case hf => omega); (case hi => omega); k_whole); intro t' tk'))
theorem take_ok {w : World} {p : Program} {loose : List Str} {mean : ExcName → Option Value} {mg mb : Str → Option Value} {A : Around} {h₀ : Heap} {s : Shared} {Q E : Value → Shared → Prop}
  {src : Addr} {a b top : Int} {ta tb tt : Tok} {n : Nat}
  (H : At w p loose mean mg mb A h₀ s 1) (hs : s.heap.get? src = some (poolO a b ta tb n)) (h0 : h₀.get? src = none)
  (P : PoolOk a b) (ht : 0 < top) (ht2 : top < 1000000)
  (hQ : ∀ r t h' tk a' b' ta' tb', (∀ b o, b ≠ src → s.heap.get? b = some o → h'.get? b = some o) → h'.get? src = some (poolO a' b' ta' tb' n) → PoolOk a' b' → 0 ≤ r → r < top → Q (.int r t) { s with heap := h', toks := tk }) :
  wpAny (model prg w) A (call (.ref 381) [.ref src, .int top tt]) Q E s := by
  refine' enter [(src, poolO a b ta tb n)] H ?N ?k6 ?k7 ?k9 ?kB ?_ ?c2 ?c3 ?c4 ?c5
  walk_at "my enter"
  case N => exact fun q hq => by
              rcases List.mem_singleton.mp hq with rfl
              exact ⟨hs, h0⟩
  intro dp fr gd un g L h₁ tk₁ hg hL F N X T hd hu hU
  dsimp only at F ⊢
  have hb := P.2
  have ha := P.1
  have keep : ∀ (h' : Heap) (m' : Str → Option Value), Fr g L h' m' → ∀ b o, b ≠ src → s.heap.get? b = some o → h'.get? b = some o := by
    intro h' m' F' b o hb e
    exact F'.keep _ _ (hg _ _ (by simpa using hb) e)
  k_steps
  · rename Fr _ _ _ _ => F'; rename News _ _ _ _ => N'
    walk_at "my end"
    exact hQ _ _ _ _ _ _ _ _ (keep _ _ F') (N' _ (.head _)).1 ⟨fd ha ht, hb⟩ (fm _ ht).1 (fm _ ht).2
  · have hb1 := fm (b * 39373 + 7) (m := 2147483647) (by decide)
    refine mul_int ?_ (IntMulOk.of_left (intBits_le_64 ?_ ?_))
    rotate_left
    · show -(2 ^ 64) < (b * 39373 + 7).fmod 2147483647
      omega
    · show (b * 39373 + 7).fmod 2147483647 < 2 ^ 64
      omega
    k_steps
    rename Fr _ _ _ _ => F'; rename News _ _ _ _ => N'
    walk_at "my end"
    exact hQ _ _ _ _ _ _ _ _ (keep _ _ F') (N' _ (.head _)).1 ⟨ha, hb1⟩ (fm _ ht).1 (fm _ ht).2

theorem take_call {w : World} {p : Program} {loose : List Str} {mean : ExcName → Option Value} {mg mb : Str → Option Value} {A : Around} {g : Heap} {s : Shared} {Q E : Value → Shared → Prop} {L : Addr} {m : Str → Option Value} {news : List (Addr × Obj)} {f : Obj → List (Addr × Obj)} {k : Nat}
  {src : Addr} {a b top : Int} {ta tb tt : Tok} {n : Nat} (F : Fr g L s.heap m) (N : News g L s.heap news) (X : (Mine.K w.params).In g) (T : Top p loose mean mg mb g) (hh : A.handled = none) (hd : A.depth + k < 1000) (hu : A.units + 8 * k ≤ 9800)
  (hk : 1 ≤ k) (U : UpdF src (poolO a b ta tb n) news f) (P : PoolOk a b) (ht : 0 < top) (ht2 : top < 1000000)
  (hQ : ∀ r t h' tk a' b' ta' tb', Fr g L h' m → News g L h' (f (poolO a' b' ta' tb' n)) → PoolOk a' b' → 0 ≤ r → r < top → Q (.int r t) { s with heap := h', toks := tk }) :
  wpAny (model prg w) A (call (.ref 381) [.ref src, .int top tt]) Q E s :=
  take_ok (At.of F X T hh hd hu hk) (N _ (upd_mem U)).1 (N _ (upd_mem U)).2.2 P ht ht2 fun r t h' tk a' b' ta' tb' k1 k2 P' r0 r1 =>
    let ⟨F', N'⟩ := news_drew F N U k1 k2
    hQ r t h' tk a' b' ta' tb' F' N' P' r0 r1
local macro_rules | `(tactic| walk_at "call ref") => `(tactic| (k_here; (with_reducible show wpAny _ _ (call (Value.ref 381) [Value.ref _, Value.int _ _]) _ _ _); k_dflt (refine' take_call ?F ?N ?X ?T ?hh ?hd ?hu ?hk ?U ?P ?t1 ?t2 ?_; (case F => k_asm); (case N => k_asm); (case X => k_asm); (case T => assumption); (case hh => exact rfl); (case hd => assumption); (case hu => assumption); (case hk => decide); (case U => k_updF); (case P => assumption); (case t1 => first | decide | omega); (case t2 => first | decide | omega); k_whole); intro r' t' h' tk' a' b' ta' tb' F' N' P' r0 r1; (try dsimp only at N'); (try k_sweep)))
theorem nth_of {vs : List Value} {r : Int} (h0 : 0 ≤ r) (h1 : r < (vs.length : Int)) : ∃ v, vs[r.toNat]? = some v :=
  ⟨_, List.getElem?_eq_getElem (show r.toNat < vs.length by omega)⟩
theorem one_ok {w : World} {p : Program} {loose : List Str} {mean : ExcName → Option Value} {mg mb : Str → Option Value} {A : Around} {h₀ : Heap} {s : Shared} {Q E : Value → Shared → Prop}
  {src l : Addr} {a b : Int} {ta tb : Tok} {n : Nat} {vs : List Value}
  (H : At w p loose mean mg mb A h₀ s 2) (hs : s.heap.get? src = some (poolO a b ta tb n)) (h0 : h₀.get? src = none)
  (hl : s.heap.IsList l vs.toArray) (hne : l ≠ src)
  (P : PoolOk a b) (ht : 0 < vs.length) (ht2 : vs.length < 1000000)
  (hQ : ∀ (i : Nat) v h' tk a' b' ta' tb', (∀ b o, b ≠ src → s.heap.get? b = some o → h'.get? b = some o) → h'.get? src = some (poolO a' b' ta' tb' n) → PoolOk a' b' → vs[i]? = some v → Q v { s with heap := h', toks := tk }) :
  wpAny (model prg w) A (call (.ref 388) [.ref src, .ref l]) Q E s := by
  refine' enter [(src, poolO a b ta tb n)] H ?N ?k6 ?k7 ?k9 ?kB ?_ ?c2 ?c3 ?c4 ?c5
  walk_at "my enter"
  case N => exact fun q hq => by
              rcases List.mem_singleton.mp hq with rfl
              exact ⟨hs, h0⟩
  intro dp fr gd un g L h₁ tk₁ hg hL F N X T hd hu hU
  dsimp only at F ⊢
  have hlg : g.IsList l vs.toArray := hl.at fun o e => hg _ _ (by simpa using hne) e
  have keep : ∀ (h' : Heap) (m' : Str → Option Value), Fr g L h' m' → ∀ b o, b ≠ src → s.heap.get? b = some o → h'.get? b = some o := by
    intro h' m' F' b o hb e
    exact F'.keep _ _ (hg _ _ (by simpa using hb) e)
  k_steps
  refine len_list (Fr.lst (by assumption) hlg) (by simp only [List.size_toArray]; omega) ?_
  rw [List.size_toArray]
  k_steps
  rename Fr _ _ _ _ => F'
  rename News _ _ _ _ => N'
  rename (0 : Int) ≤ _ => r0
  rename (_ : Int) < (vs.length : Int) => r1
  obtain ⟨v, hv⟩ := nth_of r0 r1
  refine item_listL (F'.lst hlg) r0 (by omega) hv ?_
  walk_at "my end"
  exact hQ _ _ _ _ _ _ _ _ (keep _ _ F') (N' _ (.head _)).1 (by assumption) hv

theorem one_call {w : World} {p : Program} {loose : List Str} {mean : ExcName → Option Value} {mg mb : Str → Option Value} {A : Around} {g : Heap} {s : Shared} {Q E : Value → Shared → Prop} {L : Addr} {m : Str → Option Value} {news : List (Addr × Obj)} {f : Obj → List (Addr × Obj)} {k : Nat}
  {src l : Addr} {a b : Int} {ta tb : Tok} {n : Nat} {vs : List Value} (F : Fr g L s.heap m) (N : News g L s.heap news) (X : (Mine.K w.params).In g) (T : Top p loose mean mg mb g) (hh : A.handled = none) (hd : A.depth + k < 1000) (hu : A.units + 8 * k ≤ 9800)
  (hk : 2 ≤ k) (U : UpdF src (poolO a b ta tb n) news f) (P : PoolOk a b) (hl : s.heap.IsList l vs.toArray) (hne : l ≠ src) (ht : 0 < vs.length) (ht2 : vs.length < 1000000)
  (hQ : ∀ (i : Nat) v h' tk a' b' ta' tb', Fr g L h' m → News g L h' (f (poolO a' b' ta' tb' n)) → PoolOk a' b' → vs[i]? = some v → Q v { s with heap := h', toks := tk }) :
  wpAny (model prg w) A (call (.ref 388) [.ref src, .ref l]) Q E s :=
  one_ok (At.of F X T hh hd hu hk) (N _ (upd_mem U)).1 (N _ (upd_mem U)).2.2 hl hne P ht ht2 fun i v h' tk a' b' ta' tb' k1 k2 P' e =>
    let ⟨F', N'⟩ := news_drew F N U k1 k2
    hQ i v h' tk a' b' ta' tb' F' N' P' e
theorem astext_str {w : World} {p : Program} {loose : List Str} {mean : ExcName → Option Value} {mg mb : Str → Option Value} {A : Around} {h₀ : Heap} {s : Shared} {Q E : Value → Shared → Prop}
  {x : Str} {t : Tok} (H : At w p loose mean mg mb A h₀ s 1)
  (hQ : ∀ h' tk, (∀ b o, s.heap.get? b = some o → h'.get? b = some o) → Q (.str x t) { s with heap := h', toks := tk }) :
  wpAny (model prg w) A (call (.ref 177) [.str x t]) Q E s := by
  refine' enter0 H ?k6 ?k7 ?k9 ?kB ?_ ?c2 ?c3 ?c4 ?c5
  walk_at "my enter"
  intro dp fr gd un g L h₁ tk₁ hg F N X T hd hu hU
  dsimp only at F ⊢
  k_steps
  walk_at "my end"
  exact hQ _ _ fun b o e => Fr.keep (by assumption) b o (hg b o e)
theorem astext_int {w : World} {p : Program} {loose : List Str} {mean : ExcName → Option Value} {mg mb : Str → Option Value} {A : Around} {h₀ : Heap} {s : Shared} {Q E : Value → Shared → Prop}
  {z : Int} {t : Tok} (H : At w p loose mean mg mb A h₀ s 1) (hz : z.natAbs < 10 ^ 30)
  (hQ : ∀ t' h' tk, (∀ b o, s.heap.get? b = some o → h'.get? b = some o) → Q (.str (Str.ofString (toString z)) t') { s with heap := h', toks := tk }) :
  wpAny (model prg w) A (call (.ref 177) [.int z t]) Q E s := by
  refine' enter0 H ?k6 ?k7 ?k9 ?kB ?_ ?c2 ?c3 ?c4 ?c5
  walk_at "my enter"
  intro dp fr gd un g L h₁ tk₁ hg F N X T hd hu hU
  dsimp only at F ⊢
  k_steps
  walk_at "my end"
  exact hQ _ _ _ fun b o e => Fr.keep (by assumption) b o (hg b o e)
local macro_rules | `(tactic| walk_at "my calm") => `(tactic| ((rename Fr _ _ _ _ => F9); (rename News _ _ _ _ => N9); (rename ∀ b o, _ = some o → _ = some o => up9); (obtain ⟨F', N'⟩ := news_up F9 N9 up9); (clear up9); (try k_sweep)))
local macro_rules | `(tactic| walk_at "call ref") => `(tactic| (k_here; (with_reducible show wpAny _ _ (call (Value.ref 177) [Value.str _ _]) _ _ _); (refine' astext_str (At.of ?F ?X ?T ?hh ?hd ?hu ?hk) ?_; (case F => k_asm); (case X => k_asm); (case T => assumption); (case hh => exact rfl); (case hd => assumption); (case hu => assumption); (case hk => decide); k_whole); intro h' tk' up'; walk_at "my calm"))
local macro_rules | `(tactic| walk_at "call ref") => `(tactic| (k_here; (with_reducible show wpAny _ _ (call (Value.ref 177) [Value.int _ _]) _ _ _); (refine' astext_int (At.of ?F ?X ?T ?hh ?hd ?hu ?hk) ?hz ?_; (case F => k_asm); (case X => k_asm); (case T => assumption); (case hh => exact rfl); (case hd => assumption); (case hu => assumption); (case hk => decide); (case hz => first | assumption | decide | omega); k_whole); intro t' h' tk' up'; walk_at "my calm"))
theorem leadof_ok {w : World} {p : Program} {loose : List Str} {mean : ExcName → Option Value} {mg mb : Str → Option Value} {A : Around} {h₀ : Heap} {s : Shared} {Q E : Value → Shared → Prop}
  {e : Int} {t : Tok} (H : At w p loose mean mg mb A h₀ s 1) (h0 : 0 ≤ e) (h1 : e < 128)
  (hQ : ∀ h' tk d ta tb tc n, (∀ b o, s.heap.get? b = some o → h'.get? b = some o) → s.heap.get? d = none → h'.get? d = some { cls := .type "tuple", data := .seq #[.int 0 ta, .int e tb, .int 0 tc] n } → Q (.ref d) { s with heap := h', toks := tk }) :
  wpAny (model prg w) A (call (.ref 85) [.int e t]) Q E s := by
  refine' enter0 H ?k6 ?k7 ?k9 ?kB ?_ ?c2 ?c3 ?c4 ?c5
  walk_at "my enter"
  intro dp fr gd un g L h₁ tk₁ hg F N X T hd hu hU
  dsimp only at F ⊢
  walk_at "my steps"
  walk_at "my end"
  rename News _ _ _ _ => N'
  have hn := (N' _ (.head _)).2.2
  refine hQ _ _ _ _ _ _ _ (fun b o e => Fr.keep (by assumption) b o (hg b o e)) ?_ (N' _ (.head _)).1
  cases q : s.heap.get? _ with
  | none => rfl
  | some o => have := hg _ _ q; rw [hn] at this; cases this
theorem leadof_call {w : World} {p : Program} {loose : List Str} {mean : ExcName → Option Value} {mg mb : Str → Option Value} {A : Around} {g : Heap} {s : Shared} {Q E : Value → Shared → Prop} {L : Addr} {m : Str → Option Value} {news : List (Addr × Obj)} {k : Nat}
  {e : Int} {t : Tok} (F : Fr g L s.heap m) (N : News g L s.heap news) (X : (Mine.K w.params).In g) (T : Top p loose mean mg mb g) (hh : A.handled = none) (hd : A.depth + k < 1000) (hu : A.units + 8 * k ≤ 9800)
  (hk : 1 ≤ k) (h0 : 0 ≤ e) (h1 : e < 128)
  (hQ : ∀ h' tk d ta tb tc n, Fr g L h' m → News g L h' ((d, { cls := .type "tuple", data := .seq #[.int 0 ta, .int e tb, .int 0 tc] n }) :: news) → LCg.Off1 d news → Q (.ref d) { s with heap := h', toks := tk }) :
  wpAny (model prg w) A (call (.ref 85) [.int e t]) Q E s := by
  refine leadof_ok (At.of F X T hh hd hu hk) h0 h1 fun h' tk d ta tb tc n up hn ho => ?_
  obtain ⟨F', N'⟩ := news_up F N up
  refine hQ h' tk d ta tb tc n F' (fun q hq => ?_) (off1_of fun q hq e => by rw [← e, (N q hq).1] at hn; cases hn)
  rcases List.mem_cons.mp hq with rfl | hq
  · refine ⟨ho, fun e => ?_, ?_⟩
    · obtain ⟨oL, _, _, hL, _⟩ := F.ns
      subst e; rw [hL] at hn; cases hn
    · cases q : g.get? d with
      | none => rfl
      | some o => have := F.keep _ _ q; rw [hn] at this; cases this
  · exact N' q hq
theorem codeat_ok {w : World} {p : Program} {loose : List Str} {mean : ExcName → Option Value} {mg mb : Str → Option Value} {A : Around} {h₀ : Heap} {s : Shared} {Q E : Value → Shared → Prop}
  {b : Array UInt8} {at' e : Int} {tb t ta te tc : Tok} {d : Addr} {n : Nat} (H : At w p loose mean mg mb A h₀ s 1) (h0 : 0 ≤ e) (h1 : e < 128) (h2 : 0 ≤ at') (h3 : at' ≤ b.size) (h4 : b.size < 1000)
  (hd : s.heap.get? d = some { cls := .type "tuple", data := .seq #[.int 0 ta, .int e te, .int 0 tc] n }) (hd0 : h₀.get? d = none)
  (hQ : ∀ t' h' tk, (∀ b o, s.heap.get? b = some o → h'.get? b = some o) → Q (.int e t') { s with heap := h', toks := tk }) :
  wpAny (model prg w) A (call (.ref 99) [.bytes b tb, .int at' t, .ref d]) Q E s := by
  refine' enter [(d, { cls := .type "tuple", data := .seq #[.int 0 ta, .int e te, .int 0 tc] n })] H ?N ?k6 ?k7 ?k9 ?kB ?_ ?c2 ?c3 ?c4 ?c5
  walk_at "my enter"
  case N => exact fun q hq => by
              rcases List.mem_singleton.mp hq with rfl
              exact ⟨hd, hd0⟩
  intro dp fr gd un g L h₁ tk₁ hg hL F N X T hd' hu hU
  dsimp only at F ⊢
  have keep : ∀ (h' : Heap) (m' : Str → Option Value), Fr g L h' m' → News g L h' [(d, { cls := .type "tuple", data := .seq #[.int 0 ta, .int e te, .int 0 tc] n })] → ∀ b o, s.heap.get? b = some o → h'.get? b = some o := by
    intro h' m' F' N' b o q
    by_cases hb : b = d
    · subst hb; rw [hd] at q; cases q; exact (N' _ (.head _)).1
    · exact F'.keep _ _ (hg _ _ (by simpa using hb) q)
  walk_at "my steps"
  walk_at "my for"
  walk_at "my steps"
  rename IsRange _ _ _ _ _ _ _ _ => hr
  rename Fr _ _ _ _ => F2
  rename News _ _ _ _ => N2
  refine for_range (σ := Unit) [d] (fun _ => [(d, { cls := .type "tuple", data := .seq #[.int 0 ta, .int e te, .int 0 tc] n })]) (fun _ => [(Str.ofString "code", .int e te), (Str.ofString "least", .int 0 tc)]) (fun _ _ => True) ()
    hr (small_one (by omega) (by omega) (by omega) (by omega)) (rangeSize_nat _ _) rfl rfl (fun _ => rfl) F2 N2 ⟨rfl, rfl, trivial⟩ trivial ?_ ?_
  · intro i t c u h tk own hi
    exfalso
    omega
  · intro c u h tk _ F3 N3
    try dsimp only at N3
    walk_at "my steps"
    walk_at "my end"
    exact hQ _ _ _ (keep _ _ F3 N3)

theorem codeat_call {w : World} {p : Program} {loose : List Str} {mean : ExcName → Option Value} {mg mb : Str → Option Value} {A : Around} {g : Heap} {s : Shared} {Q E : Value → Shared → Prop} {L : Addr} {m : Str → Option Value} {news : List (Addr × Obj)} {k : Nat}
  {b : Array UInt8} {at' e : Int} {tb t ta te tc : Tok} {d : Addr} {n : Nat} (F : Fr g L s.heap m) (N : News g L s.heap news) (X : (Mine.K w.params).In g) (T : Top p loose mean mg mb g) (hh : A.handled = none) (hd : A.depth + k < 1000) (hu : A.units + 8 * k ≤ 9800)
  (hk : 1 ≤ k) (hm : (d, ({ cls := .type "tuple", data := .seq #[.int 0 ta, .int e te, .int 0 tc] n } : Obj)) ∈ news) (h0 : 0 ≤ e) (h1 : e < 128) (h2 : 0 ≤ at') (h3 : at' ≤ b.size) (h4 : b.size < 1000)
  (hQ : ∀ t' h' tk, Fr g L h' m → News g L h' news → Q (.int e t') { s with heap := h', toks := tk }) :
  wpAny (model prg w) A (call (.ref 99) [.bytes b tb, .int at' t, .ref d]) Q E s :=
  codeat_ok (At.of F X T hh hd hu hk) h0 h1 h2 h3 h4 (N _ hm).1 (N _ hm).2.2 fun t' h' tk up => let ⟨F', N'⟩ := news_up F N up; hQ t' h' tk F' N'
local macro_rules | `(tactic| walk_at "call ref") => `(tactic| (k_here; (with_reducible show wpAny _ _ (call (Value.ref 85) [Value.int _ _]) _ _ _); (refine' leadof_call ?F ?N ?X ?T ?hh ?hd ?hu ?hk ?z0 ?z1 ?_; (case F => k_asm); (case N => k_asm); (case X => k_asm); (case T => assumption); (case hh => exact rfl); (case hd => assumption); (case hu => assumption); (case hk => decide); (case z0 => omega); (case z1 => omega); k_whole); intro h' tk' d' ta' tb' tc' n' F' N' o1'; (try simp only [LCg.Off1, and_true] at o1'); (try k_sweep)))
local macro_rules | `(tactic| walk_at "call ref") => `(tactic| (k_here; (with_reducible show wpAny _ _ (call (Value.ref 99) [Value.bytes _ _, Value.int _ _, Value.ref _]) _ _ _); (refine' codeat_call ?F ?N ?X ?T ?hh ?hd ?hu ?hk ?hm ?z0 ?z1 ?z2 ?z3 ?z4 ?_; (case F => k_asm); (case N => k_asm); (case X => k_asm); (case T => assumption); (case hh => exact rfl); (case hd => assumption); (case hu => assumption); (case hk => decide); (case hm => k_mem); (case z0 => omega); (case z1 => omega); (case z2 => omega); (case z3 => omega); (case z4 => omega); k_whole); intro t' h' tk' F' N'; (try k_sweep)))

/-- the signs of octets below 128 -/
def sgn (e : UInt8) : Str := ⟨#[e.toNat]⟩
def signsOf (b : Array UInt8) : Str := ⟨(b.toList.map (·.toNat)).toArray⟩
theorem sum_ones {α : Type} : ∀ l : List α, (l.map fun _ => 1).sum = l.length
  | [] => rfl
  | _ :: r => by rw [List.map_cons, List.sum_cons, sum_ones r, List.length_cons]; omega
theorem textof_ok {w : World} {p : Program} {loose : List Str} {mean : ExcName → Option Value} {mg mb : Str → Option Value} {A : Around} {h₀ : Heap} {s : Shared} {Q E : Value → Shared → Prop}
  {b : Array UInt8} {t : Tok} (H : At w p loose mean mg mb A h₀ s 2) (hb : ∀ i (h : i < b.size), b[i].toNat < 128) (h4 : b.size < 1000)
  (hQ : ∀ t' h' tk, (∀ b o, s.heap.get? b = some o → h'.get? b = some o) → Q (.str (signsOf b) t') { s with heap := h', toks := tk }) :
  wpAny (model prg w) A (call (.ref 92) [.bytes b t]) Q E s := by
  refine' enter0 H ?k6 ?k7 ?k9 ?kB ?_ ?c2 ?c3 ?c4 ?c5
  walk_at "my enter"
  intro dp fr gd un g L h₁ tk₁ hg F N X T hd' hu hU
  dsimp only at F ⊢
  walk_at "my steps"
  rename Fr _ _ _ _ => F2
  rename News _ _ _ _ => N2
  refine while_myD (σ := Nat × Tok × List Value × Nat) (fun D c => [(D, PySem.W.listOf c.2.2.1.toArray c.2.2.2)]) (fun D c => [(Str.ofString "octets", .bytes b t), (Str.ofString "signs", .ref D), (Str.ofString "at", .int c.1 c.2.1)])
    (fun c => c.1 ≤ b.size ∧ StrsAre c.2.2.1 ((b.toList.take c.1).map sgn)) (fun c => b.size - c.1) (0, _, [], 0) F2 N2 ⟨rfl, rfl, rfl, trivial⟩ ⟨Nat.zero_le _, .nil⟩ ?_ noE_passes
  rintro ⟨i, ta, vs, n⟩ u h tk ⟨hi, hv⟩ F3 N3
  dsimp only [kstB] at *
  have hvl := strs_len hv
  rw [List.length_map, List.length_take] at hvl
  have hbl : b.toList.length = b.size := rfl
  walk_at "my steps"
  · have hbi := hb i (by omega)
    walk_at "my steps"
    rename Fr _ _ _ _ => F4
    rename News _ _ _ _ => N4
    refine tend (i + 1, _, vs ++ [_], n + 1) F4 N4 (fun _ hq => .tail _ hq) ⟨rfl, rfl, rfl, trivial⟩ ⟨⟨by dsimp only; omega, ?_⟩, by dsimp only; omega⟩
    have e : (b.toList.take (i + 1)).map sgn = (b.toList.take i).map sgn ++ [sgn b[i]] := by
      rw [List.take_add_one, List.map_append]; simp [show i < b.size by omega]
    dsimp only
    rw [e]
    exact strs_snoc hv
  · have hall : (b.toList.take i).map sgn = b.toList.map sgn := by rw [List.take_of_length_le (by omega)]
    rw [hall] at hv
    have hl1 : ((b.toList.map sgn).map (·.length)).sum = b.size := by
      rw [List.map_map]
      exact sum_ones b.toList
    have e0 : (Str.ofString "").length = 0 := rfl
    refine join_news N3 (.head _) hv (by rw [hl1, e0]; omega) fun t' k' => ?_
    walk_at "my end"
    have e : Txt.join (Str.ofString "") (b.toList.map sgn) = signsOf b := by
      refine cpl_ext ?_
      rw [cpl_join0 rfl]
      show _ = ((b.toList.map (·.toNat)).toArray).toList
      rw [List.map_map]
      show (b.toList.map fun x => [x.toNat]).flatten = _
      generalize b.toList = l
      induction l with
      | nil => rfl
      | cons x r ih => rw [List.map_cons, List.flatten_cons, ih]; rfl
    rw [e]
    exact hQ _ _ _ fun b o q => F3.keep b o (hg b o q)

theorem textof_call {w : World} {p : Program} {loose : List Str} {mean : ExcName → Option Value} {mg mb : Str → Option Value} {A : Around} {g : Heap} {s : Shared} {Q E : Value → Shared → Prop} {L : Addr} {m : Str → Option Value} {news : List (Addr × Obj)} {k : Nat}
  {b : Array UInt8} {t : Tok} (F : Fr g L s.heap m) (N : News g L s.heap news) (X : (Mine.K w.params).In g) (T : Top p loose mean mg mb g) (hh : A.handled = none) (hd : A.depth + k < 1000) (hu : A.units + 8 * k ≤ 9800)
  (hk : 2 ≤ k) (hb : ∀ i (h : i < b.size), b[i].toNat < 128) (h4 : b.size < 1000)
  (hQ : ∀ t' h' tk, Fr g L h' m → News g L h' news → Q (.str (signsOf b) t') { s with heap := h', toks := tk }) :
  wpAny (model prg w) A (call (.ref 92) [.bytes b t]) Q E s :=
  textof_ok (At.of F X T hh hd hu hk) hb h4 fun t' h' tk up => let ⟨F', N'⟩ := news_up F N up; hQ t' h' tk F' N'
local macro_rules | `(tactic| walk_at "call ref") => `(tactic| (k_here; (with_reducible show wpAny _ _ (call (Value.ref 92) [Value.bytes _ _]) _ _ _); (refine' textof_call ?F ?N ?X ?T ?hh ?hd ?hu ?hk ?hb ?h4 ?_; (case F => k_asm); (case N => k_asm); (case X => k_asm); (case T => assumption); (case hh => exact rfl); (case hd => assumption); (case hu => assumption); (case hk => decide); (case hb => assumption); (case h4 => omega); k_whole); intro t' h' tk' F' N'; (try k_sweep)))

theorem astext_bytes {w : World} {p : Program} {loose : List Str} {mean : ExcName → Option Value} {mg mb : Str → Option Value} {A : Around} {h₀ : Heap} {s : Shared} {Q E : Value → Shared → Prop}
  {b : Array UInt8} {t : Tok} (H : At w p loose mean mg mb A h₀ s 3) (hb : ∀ i (h : i < b.size), b[i].toNat < 128) (h4 : b.size < 1000)
  (hQ : ∀ t' h' tk, (∀ b o, s.heap.get? b = some o → h'.get? b = some o) → Q (.str (signsOf b) t') { s with heap := h', toks := tk }) :
  wpAny (model prg w) A (call (.ref 177) [.bytes b t]) Q E s := by
  refine' enter0 H ?k6 ?k7 ?k9 ?kB ?_ ?c2 ?c3 ?c4 ?c5
  walk_at "my enter"
  intro dp fr gd un g L h₁ tk₁ hg F N X T hd' hu hU
  dsimp only at F ⊢
  walk_at "my steps"
  walk_at "my end"
  exact hQ _ _ _ fun b o q => Fr.keep (by assumption) b o (hg b o q)
local macro_rules | `(tactic| walk_at "call ref") => `(tactic| (k_here; (with_reducible show wpAny _ _ (call (Value.ref 177) [Value.bytes _ _]) _ _ _); (refine' astext_bytes (At.of ?F ?X ?T ?hh ?hd ?hu ?hk) ?hb ?h4 ?_; (case F => k_asm); (case X => k_asm); (case T => assumption); (case hh => exact rfl); (case hd => assumption); (case hu => assumption); (case hk => decide); (case hb => assumption); (case h4 => omega); k_whole); intro t' h' tk' up'; walk_at "my calm"))
/-- the figures of an octet -/
def figs : List Nat := [48, 49, 50, 51, 52, 53, 54, 55, 56, 57, 65, 66, 67, 68, 69, 70]
def figStr : Str := Str.ofString "0123456789ABCDEF"
def hexSign (k : Nat) : Str := ⟨#[figs.getD k 0]⟩
def hexOf (b : Array UInt8) : Str := ⟨(b.toList.flatMap fun e => [figs.getD (e.toNat / 16) 0, figs.getD (e.toNat % 16) 0]).toArray⟩
theorem two_len {α β : Type} (f g : α → β) : ∀ l : List α, (l.flatMap fun e => [f e, g e]).length = 2 * l.length
  | [] => rfl
  | a :: r => by rw [List.flatMap_cons, List.length_append, two_len f g r, List.length_cons]; simp only [List.length_cons, List.length_nil]; omega
theorem figs_len : (Str.ofString "0123456789ABCDEF").length = 16 := by decide +kernel
theorem figs_cpl : cpl (Str.ofString "0123456789ABCDEF") = figs := by decide +kernel
theorem hextext_ok {w : World} {p : Program} {loose : List Str} {mean : ExcName → Option Value} {mg mb : Str → Option Value} {A : Around} {h₀ : Heap} {s : Shared} {Q E : Value → Shared → Prop}
  {x : Array UInt8} {t : Tok} (H : At w p loose mean mg mb A h₀ s 1) (hz : x.size < 1000)
  (hQ : ∀ t' h' tk, (∀ b o, s.heap.get? b = some o → h'.get? b = some o) → Q (.str (hexOf x) t') { s with heap := h', toks := tk }) :
  wpAny (model prg w) A (call (.ref 113) [.bytes x t]) Q E s := by
  refine' enter0 H ?k6 ?k7 ?k9 ?kB ?_ ?c2 ?c3 ?c4 ?c5
  walk_at "my enter"
  intro dp fr gd un g L h₁ tk₁ hg F N X T hd hu hU
  dsimp only at F ⊢
  walk_at "my steps"
  walk_at "my for"
  walk_at "my steps"
  rename Fr _ _ _ _ => F2
  rename News _ _ _ _ => N2
  refine for_bytesD (σ := List Value × Nat) (fun D => [D]) (fun D c => [(D, PySem.W.listOf c.1.toArray c.2)]) (fun D c => [(Str.ofString "signs", .ref D)])
    (fun i c => StrsAre c.1 ((x.toList.take i).flatMap fun e => [hexSign (e.toNat / 16), hexSign (e.toNat % 16)])) ([], 0) rfl rfl (fun _ => rfl) F2 N2 ⟨rfl, trivial⟩ .nil ?_ ?_
  · rintro i e te ⟨vs, n⟩ u h tk own he hv hoff F3 N3
    dsimp only [kstB, List.cons_append, List.nil_append] at *
    have he256 : e.toNat < 256 := UInt8.toNat_lt e
    have hvl := strs_len hv
    rw [two_len] at hvl
    have htk : (x.toList.take i).length ≤ x.size := by rw [List.length_take]; exact Nat.min_le_right _ _
    walk_at "my steps"
    have e1 : ((e.toNat : Int)).fdiv (2 ^ Int.toNat 4) = ((e.toNat / 16 : Nat) : Int) := by
      rw [show ((2 : Int) ^ Int.toNat 4) = 16 from rfl, Int.fdiv_eq_ediv_of_nonneg _ (by decide)]; omega
    rw [e1]
    refine str_item (by rw [figs_len]; omega) (by omega) (by rw [figs_len]; omega) fun t5 tk5 => ?_
    rw [figs_cpl]
    walk_at "my steps"
    have e2 : Builtin.bitAnd ((e.toNat : Int)) 15 = ((e.toNat % 16 : Nat) : Int) := band_pow (k := 4)
    rw [e2]
    refine str_item (by rw [figs_len]; omega) (by omega) (by rw [figs_len]; omega) fun t6 tk6 => ?_
    rw [figs_cpl]
    walk_at "my steps"
    rename Fr _ _ _ _ => F4
    rename News _ _ _ _ => N4
    refine tend (vs ++ [_] ++ [_], n + 1 + 1) F4 N4 (fun _ hq => hq) ⟨rfl, trivial⟩ ?_
    have e3 : ((x.toList.take (i + 1)).flatMap fun e => [hexSign (e.toNat / 16), hexSign (e.toNat % 16)]) = ((x.toList.take i).flatMap fun e => [hexSign (e.toNat / 16), hexSign (e.toNat % 16)]) ++ [hexSign (e.toNat / 16)] ++ [hexSign (e.toNat % 16)] := by
      rw [List.take_add_one, List.flatMap_append, List.append_assoc]
      congr 1
      have : x.toList[i]? = some e := by simpa using he
      rw [this]; rfl
    dsimp only
    rw [e3]
    exact strs_snoc (strs_snoc hv)
  · rintro ⟨vs, n⟩ u h tk hv F3 N3
    dsimp only [kstB] at *
    walk_at "my steps"
    rw [List.take_of_length_le (by simp)] at hv
    have hl1 : ∀ l : List UInt8, (((l.flatMap fun e => [hexSign (e.toNat / 16), hexSign (e.toNat % 16)])).map (·.length)).sum = 2 * l.length := by
      intro l
      induction l with
      | nil => rfl
      | cons a r ih => rw [List.flatMap_cons, List.map_append, List.sum_append, ih, List.length_cons]; show 2 + _ = _; omega
    have e0 : (Str.ofString "").length = 0 := rfl
    refine join_news N3 (.head _) hv (by rw [hl1, e0]; have : x.toList.length = x.size := rfl; omega) fun t' k' => ?_
    walk_at "my end"
    have e : Txt.join (Str.ofString "") (x.toList.flatMap fun e => [hexSign (e.toNat / 16), hexSign (e.toNat % 16)]) = hexOf x := by
      refine cpl_ext ?_
      rw [cpl_join0 rfl]
      show _ = ((x.toList.flatMap fun e => [figs.getD (e.toNat / 16) 0, figs.getD (e.toNat % 16) 0]).toArray).toList
      generalize x.toList = l
      induction l with
      | nil => rfl
      | cons a r ih => rw [List.flatMap_cons, List.map_append, List.flatten_append, ih, List.flatMap_cons]; rfl
    rw [e]
    exact hQ _ _ _ fun b o q => F3.keep b o (hg b o q)
local macro_rules | `(tactic| walk_at "call ref") => `(tactic| (k_here; (with_reducible show wpAny _ _ (call (Value.ref 113) [Value.bytes _ _]) _ _ _); (refine' hextext_ok (At.of ?F ?X ?T ?hh ?hd ?hu ?hk) ?hz ?_; (case F => k_asm); (case X => k_asm); (case T => assumption); (case hh => exact rfl); (case hd => assumption); (case hu => assumption); (case hk => decide); (case hz => first | assumption | omega); k_whole); intro t' h' tk' up'; walk_at "my calm"))
/-- the builtin frames that may hold a bytearray's memory -/
def heldIds : List String := ["bytearray.__contains__", "bytearray.__mod__", "bytearray.__rmod__", "_struct.pack_into.held", "bytearray.find.held"] ++ Builtin.Bytes.decodersThatHold
def Clr (c : Code) : Bool := match c with
  | .builtin id _ => !heldIds.contains id
  | _ => true
/-- no frame of the stack holds a bytearray's memory -/
def Clear (Γ : Ctx) : Prop := Clr Γ.code = true ∧ ∀ x ∈ Γ.below, Clr x.1 = true
theorem Clear.enter {Γ : Ctx} {c : Code} {hd : Option Value} {p : Pos} (h : Clear Γ) (hc : Clr c = true) : Clear (Γ.enter c hd p) :=
  ⟨hc, fun x hx => by
    rcases List.mem_cons.mp hx with rfl | hx
    · exact h.1
    · exact h.2 x hx⟩
theorem Clear.goto {Γ : Ctx} {c : Code} (h : Clear Γ) (hc : Clr c = true) : Clear (Γ.goto c) := ⟨hc, h.2⟩

def wpR {α : Type} (M : Model) (A : Around) (t : Sem α) (Q : α → Shared → Prop) (E : Value → Shared → Prop) (s : Shared) : Prop :=
  ∀ Γ p, Γ.In A → Clear Γ → Sem.wp M Γ t (fun a _ s' => Q a s') (fun e _ s' => E e s') p s
def codeR (M : Model) (A : Around) (c : Code) (R : Result → Shared → Prop) (s : Shared) : Prop :=
  ∀ Γ p, Γ.code = c → Γ.Below A → Clear Γ → wpCode M Γ R p s

section
variable {α β : Type} {M : Model} {A : Around} {E : Value → Shared → Prop} {s : Shared}
theorem wpR_of {t : Sem α} {Q : α → Shared → Prop} (h : wpAny M A t Q E s) : wpR M A t Q E s := fun Γ p hΓ _ => h Γ p hΓ
theorem codeR_of {c : Code} {R : Result → Shared → Prop} (h : codeAny M A c R s) : codeR M A c R s := fun Γ p hc hΓ _ => h Γ p hc hΓ
theorem wpR_pure {a : α} {Q : α → Shared → Prop} (h : Q a s) : wpR M A (pure a) Q E s := fun _ _ _ _ => h
theorem wpR_mono {t : Sem α} {Q Q' : α → Shared → Prop} {E' : Value → Shared → Prop} (h : wpR M A t Q E s)
    (hQ : ∀ a s, Q a s → Q' a s) (hE : ∀ e s, E e s → E' e s) : wpR M A t Q' E' s :=
  fun Γ p hΓ hc => Sem.wp_mono M Γ t (fun a _ s => hQ a s) (fun e _ s => hE e s) p s (h Γ p hΓ hc)
theorem wpR_bind {m : Sem α} {f : α → Sem β} {Q : β → Shared → Prop} (h : wpR M A m (fun a s' => wpR M A (f a) Q E s') E s) :
    wpR M A (m >>= f) Q E s := fun Γ p hΓ hc => by
  rw [Sem.wp_bind']
  exact Sem.wp_mono M Γ m (fun a p' s' h' => h' Γ p' hΓ hc) (fun _ _ _ h' => h') p s (h Γ p hΓ hc)
/-- a plain first part -/
theorem wpR_bindA {m : Sem α} {f : α → Sem β} {Q : β → Shared → Prop} (h : wpAny M A m (fun a s' => wpR M A (f a) Q E s') E s) :
    wpR M A (m >>= f) Q E s := wpR_bind (wpR_of h)
theorem wpR_onRaise {m : Sem α} {k : Value → Sem Unit} {Q : α → Shared → Prop}
    (h : wpR M A m Q (fun e s' => wpR M A (k e) (fun _ s'' => E e s'') E s') s) : wpR M A (m.onRaise k) Q E s := fun Γ p hΓ hc => by
  rw [Sem.wp_onRaise]
  exact Sem.wp_mono M Γ m (fun _ _ _ h' => h') (fun e p' s' h' => h' Γ p' hΓ hc) p s (h Γ p hΓ hc)
theorem wpR_holding {vs : List Value} {m : Sem α} {Q : α → Shared → Prop} (h : wpR M A m Q E s) : wpR M A (holding vs m) Q E s :=
  fun Γ p hΓ hc => by rw [Sem.wp_holding]; exact h Γ p hΓ hc
theorem wpR_keep {vs : List Value} {m : Sem α} {Q : α → Shared → Prop} (h : wpR M A m Q E s) : wpR M A (m.keep vs) Q E s :=
  fun Γ p hΓ hc => by rw [Sem.wp_keep]; exact h Γ p hΓ hc
theorem wpR_run {c : Code} {h : Option Value} {Q : Flow → Shared → Prop} (hl : Clr c = true)
    (hc : codeR M (A.mark h) c (fun r s' => match r with | .ok f => Q f s' | .error e => E e s') s) (hnb : h ≠ some byPass := by intro x; cases x) :
    wpR M A (run c h) Q E s :=
  fun Γ p hΓ hC => by rw [Sem.wp_run]; exact hc _ p rfl (hΓ.enter c h p hnb) (hC.enter hl)
theorem wpR_runValue {c : Code} {Q : Value → Shared → Prop} (hl : Clr c = true)
    (hc : codeR M A c (fun r s' => match r with | .ok (.ret v) => Q v s' | .ok _ => False | .error e => E e s') s) :
    wpR M A (runValue c) Q E s := fun Γ p hΓ hC => by rw [Sem.wp_runValue]; exact hc _ p rfl (hΓ.enter c none p (by intro x; cases x)) (hC.enter hl)
theorem wpR_call {f : Value} {pos : List Value} {kw : List (Str × Value)} {Q : Value → Shared → Prop}
    (hc : codeR M A (.call f ⟨pos, kw⟩) (fun r s' => match r with | .ok (.ret v) => Q v s' | .ok _ => False | .error e => E e s') s) :
    wpR M A (call f pos kw) Q E s := wpR_runValue rfl hc
theorem codeR_mono {c : Code} {R R' : Result → Shared → Prop} (h : codeR M A c R s) (hR : ∀ r s, R r s → R' r s) : codeR M A c R' s :=
  fun Γ p hc hΓ hC => wpCode_mono hR (h Γ p hc hΓ hC)
theorem codeR_of_tree {c : Code} {R : Result → Shared → Prop}
    (h : wpR M (A.under c) (M.den c) (fun fin s' => match fin with | .done f => R (.ok f) s' | .again c' => c'.quiet = true ∧ Clr c' = true ∧ codeR M A c' R s')
      (fun e s' => R (.error e) s') s) : codeR M A c R s := fun Γ p hc hΓ hC => by
  rw [wpCode_iff_wp, hc]
  refine Sem.wp_mono M Γ _ (fun fin p' s' h' => ?_) (fun _ _ _ h' => h') p s (h Γ p (hc ▸ hΓ.in) hC)
  cases fin with
  | done f => exact h'
  | again c' => exact ⟨h'.1, h'.2.2 (Γ.goto c') p' rfl (hΓ.goto c') (hC.goto h'.2.1)⟩
theorem codeR_loop {c : Code} {R : Result → Shared → Prop} (hl : Clr c = true) (hq : c.quiet = true) (I : Nat → Shared → Prop)
    (turn : ∀ n s, I n s → wpR M (A.under c) (M.den c)
      (fun fin s' => match fin with | .done f => R (.ok f) s' | .again c' => (c' = c ∧ ∃ m, m < n ∧ I m s') ∨ (c'.quiet = true ∧ Clr c' = true ∧ codeR M A c' R s')) (fun e s' => R (.error e) s') s)
    (n : Nat) (h : I n s) : codeR M A c R s := by
  induction n using Nat.strongRecOn generalizing s with
  | ind n ih =>
    refine codeR_of_tree (wpR_mono (turn n s h) (fun fin s' hf => ?_) fun _ _ h' => h')
    cases fin with
    | done f => exact hf
    | again c' =>
      rcases hf with ⟨rfl, m, hm, hI⟩ | hf
      · exact ⟨hq, hl, ih m hm hI⟩
      · exact hf

theorem wpR_exported {b : Value} {Q : Bool → Shared → Prop} (h : Q false s) : wpR M A (Builtin.Bytes.exported b) Q E s := fun Γ p hΓ hC => by
  unfold Builtin.Bytes.exported
  show Q (List.any ((Γ.code, p) :: Γ.below) _) s
  rw [List.any_eq_false.mpr]
  · exact h
  · rintro ⟨c, q⟩ hx
    have hc : Clr c = true := by
      rcases List.mem_cons.mp hx with e | hx
      · cases e; exact hC.1
      · exact hC.2 _ hx
    cases c with
    | builtin id args =>
      have h2 : (!heldIds.contains id) = true := hc
      have h3 : Builtin.Bytes.decodersThatHold.contains id = false := by
        cases q : Builtin.Bytes.decodersThatHold.contains id with
        | false => rfl
        | true =>
          exfalso
          have : heldIds.contains id = true := List.contains_iff_mem.mpr (List.mem_append_right _ (List.contains_iff_mem.mp q))
          rw [this] at h2
          cases h2
      intro hm
      revert hm
      split <;> rename_i e <;> simp only [Prod.mk.injEq, Code.builtin.injEq] at e
      · obtain ⟨⟨rfl, _⟩, _⟩ := e; exact absurd h2 (by decide +kernel)
      · obtain ⟨⟨rfl, _⟩, _⟩ := e; exact absurd h2 (by decide +kernel)
      · obtain ⟨⟨rfl, _⟩, _⟩ := e; exact absurd h2 (by decide +kernel)
      · obtain ⟨⟨rfl, _⟩, _⟩ := e; exact absurd h2 (by decide +kernel)
      · obtain ⟨⟨rfl, _⟩, _⟩ := e; exact absurd h2 (by decide +kernel)
      · obtain ⟨⟨rfl, _⟩, _⟩ := e
        rw [h3, Bool.and_false]
        exact fun z => by cases z
      · exact fun z => by cases z
    | _ => exact fun z => by cases z
/-- the one step that looks at the stack: no frame holds the bytearray -/
theorem wpR_checkResize {b : Addr} {x : Array UInt8} {o : Obj} {Q : Unit → Shared → Prop} (ho : s.heap.get? b = some o) (hd : o.data = .bytearray x 0) (h : Q () s) :
    wpR M A (Builtin.Bytes.checkResize (.ref b)) Q E s := by
  unfold Builtin.Bytes.checkResize
  refine wpR_bind (m := (Builtin.Bytes.exported (.ref b) <||> (do return (← Builtin.Bytes.exportsOf (.ref b)) > 0))) ?_
  refine wpR_bind (m := Builtin.Bytes.exported (.ref b)) (wpR_exported ?_)
  refine wpR_of (wpAny_bind (m := Builtin.Bytes.exportsOf (.ref b)) ?_)
  unfold Builtin.Bytes.exportsOf
  refine wpAny_bind (wpAny_load ho ?_)
  rw [hd]
  refine wpAny_pure (wpAny_pure ?_)
  exact wpR_pure h

variable {env : Env}
theorem wpR_execs_cons {st : Stmt} {rest : List Stmt} {Q : Flow → Shared → Prop}
    (h : wpR M A (exec st env) (fun f s' => match f with | .next => wpR M A (execs rest env) Q E s' | f => Q f s') E s) :
    wpR M A (execs (st :: rest) env) Q E s := fun Γ p hΓ hC => by
  rw [execs_cons, Sem.wp_bind']
  refine Sem.wp_mono M Γ _ (fun f p' s' h' => ?_) (fun _ _ _ h' => h') _ _ (h Γ p hΓ hC)
  cases f <;> first | exact h' Γ p' hΓ hC | exact h'
theorem wpR_Return {e : PySem.Expr} {pos : Pos} {Q : Flow → Shared → Prop} (h : wpR M A (eval e env) (fun v => Q (.ret v)) E s) :
    wpR M A (exec (.Return (some e) pos) env) Q E s := fun Γ p hΓ hC => by
  simp only [exec_Return_some, Sem.wp_bind', Sem.wp_cmd_standAt, Sem.wp_pure']; exact h Γ _ hΓ hC
theorem wpR_If {test : PySem.Expr} {body orelse : List Stmt} {pos : Pos} {Q : Flow → Shared → Prop}
    (h : wpR M A (isTrue test env (eval test env))
      (fun b s₂ => if b then wpR M A (execs body env) Q E s₂ else wpR M A (execs orelse env) Q E s₂) E s) :
    wpR M A (exec (.If test body orelse pos) env) Q E s := fun Γ p hΓ hC => by
  simp only [exec_If, Sem.wp_bind', Sem.wp_cmd_standAt]
  refine Sem.wp_mono M Γ _ (fun b p₂ s₂ h₂ => ?_) (fun _ _ _ h' => h') _ _ (h Γ _ hΓ hC)
  cases b <;> exact h₂ Γ p₂ hΓ hC
theorem wpR_Expr {e : PySem.Expr} {pos : Pos} {Q : Flow → Shared → Prop} (h : wpR M A (eval e env) (fun v s' => match v with | .ref _ => False | _ => Q .next s') E s)
    (hi : interactive env = false := by rfl) (hs : swapsWith e none pos.line env = pure false := by rfl) :
    wpR M A (exec (.Expr e pos) env) Q E s := by
  rw [exec_Expr env e pos hi hs]
  refine wpR_bindA (wpAny_standAt (wpR_bind (wpR_mono h (fun v s' h' => ?_) fun _ _ x => x)))
  have hv : ∀ a, v ≠ .ref a := fun a hva => by subst hva; exact h'
  rw [dropValue_plain hv]
  refine wpR_pure ?_
  cases v <;> first | exact h' | exact (hv _ rfl).elim
theorem wpR_ret {a : Sem α} {b : α} {Q : α → Shared → Prop} (e : a = pure b) (h : Q b s) : wpR M A a Q E s := by rw [e]; exact wpR_pure h

theorem splicedR_nil {Q : List Value → Shared → Prop} (h : Q [] s) : wpR M A (spliced []) Q E s := wpR_pure h
theorem splicedR_cons {x : Sem Value} {rest : List (Bool × Sem Value)} {Q : List Value → Shared → Prop}
    (h : wpR M A x (fun v s₁ => wpR M A (spliced rest) (fun vs s₂ => Q (v :: vs) s₂) E s₁) E s) : wpR M A (spliced ((false, x) :: rest)) Q E s := by
  rw [spliced]
  refine wpR_bind (wpR_mono h (fun v s₁ h₁ => ?_) fun _ _ x => x)
  simp only [Bool.false_eq_true, if_false]
  exact wpR_bind (wpR_pure (wpR_bind (wpR_holding (wpR_mono h₁ (fun vs s₂ h₂ => wpR_pure h₂) fun _ _ x => x))))
theorem evalArgsR {f : Value} {x : Sem Value} {rest : List (Bool × Sem Value)} {Q : Args → Shared → Prop}
    (h : wpR M A (spliced ((false, x) :: rest)) (fun vs s' => Q ⟨vs, []⟩ s') E s) : wpR M A (evalArgs f true ((false, x) :: rest) []) Q E s := by
  unfold evalArgs
  show wpR M A (spliced ((false, x) :: rest) >>= _) Q E s
  refine wpR_bind (wpR_mono h (fun vs s' h' => ?_) fun _ _ x => x)
  refine wpR_holding ?_
  exact wpR_bind (wpR_pure (wpR_bind (wpR_pure (wpR_pure h'))))
theorem callWithR_builtin {pos : Pos} {id : String} {first : List Value} {args : List (Bool × Sem Value)} {Q : Value → Shared → Prop} (hplain : args.any (·.1) = false)
    (h : wpR M A (evalArgs (.builtin id) true args []) (fun a s₁ => wpR M A (call (.builtin id) (first ++ a.pos) a.kw) Q E s₁) E s) :
    wpR M A (callWith pos (.builtin id) first args []) Q E s := by
  unfold callWith
  refine wpR_bind (wpR_holding (wpR_mono h (fun a s₁ h₁ => wpR_bindA (wpAny_standAt ?_)) fun _ _ x => x))
  simp only [hplain, List.any_nil, Bool.or_false]
  refine wpR_bind (wpR_pure ?_)
  exact wpR_bind (wpR_mono h₁ (fun r s₂ hr => wpR_of (wpAny_bind (wpAny_holding (wpAny_point (wpAny_pure hr))))) fun _ _ x => x)
theorem callWithR_def {pos : Pos} {a : Addr} {o : Obj} {fd : FuncData} {first : List Value} {args : List (Bool × Sem Value)} {Q : Value → Shared → Prop}
    (hplain : args.any (·.1) = false) (hfew : ¬ args.length > 30)
    (h : wpR M A (evalArgs (.ref a) true args []) (fun x s₁ => (s₁.heap.get? a = some o ∧ o.data = .func fd) ∧ wpR M A (call (.ref a) (first ++ x.pos) x.kw) Q E s₁) E s) :
    wpR M A (callWith pos (.ref a) first args []) Q E s := by
  unfold callWith
  refine wpR_bind (wpR_holding (wpR_mono h (fun x s₁ h₁ => wpR_bindA (wpAny_standAt ?_)) fun _ _ x => x))
  have tail : ∀ {t : Sem Value}, wpR M A t Q E s₁ → wpR M A (t >>= fun r => holding [r] point >>= fun _ => pure r) Q E s₁ :=
    fun ht => wpR_bind (wpR_mono ht (fun r s₂ hr => wpR_of (wpAny_bind (wpAny_holding (wpAny_point (wpAny_pure hr))))) fun _ _ x => x)
  simp only [hplain, List.any_nil, Bool.or_false]
  refine wpR_bindA (m := keeperOf (.ref a)) ?_
  unfold keeperOf
  refine wpAny_bind (wpAny_load h₁.1.1 ?_)
  rw [h₁.1.2]
  refine wpAny_pure ?_
  show wpR M A (if args.length + 2 * ([] : List (Option Str × Sem Value)).length > 30 then _ else _) Q E s₁
  rw [if_neg (by simpa using hfew)]
  exact tail (wpR_keep h₁.2)
end
section
variable {prog : Program} {w : World} {A : Around} {E : Value → Shared → Prop} {R : Result → Shared → Prop} {s : Shared}
theorem codeR_func {body : List Stmt} {env : Env}
    (h : wpR (model prog w) (A.deeper env) (execs body env) (fun f s' => R (.ok (.ret (match f with | .ret v => v | _ => .none))) s') noE s) :
    codeR (model prog w) A (.func body env) R s := by
  refine codeR_of_tree ?_
  show wpR _ (A.deeper env) (do point; match ← (execs body env).onRaise (leaving env) with | .ret v => ret v | _ => ret .none) _ _ s
  refine wpR_bindA (wpAny_point (wpR_bind (wpR_onRaise (wpR_mono h (fun f s' h' => ?_) fun _ _ h' => False.elim h'))))
  cases f <;> exact wpR_pure h'
theorem codeR_call_function {a : Addr} {args : Args} {o : Obj} {fd : FuncData} {body : List Stmt} (hroom : A.depth < recursionLimit)
    (ho : s.heap.get? a = some o)
    (hd' : o.data = .func fd) (hco : fd.scope.isCoroutine = false) (hgen : fd.scope.isGenerator = false) (hbody : fd.body = .stmts body) (hcd : s.heap.CodeRec fd.code fd.qualname)
    (h : wpAny (model prog w) A.in1 (bindArgs fd args) (fun binds s₁ =>
      wpAny (model prog w) A.in1 (newFunctionEnv fd.scope fd.globals fd.closure binds (fd.qualname ++ ".<locals>.") (some a) fd.code none fd.builtins)
        (fun env s₂ => s₂.heap.NoLimit ∧ codeR (model prog w) A (.func body env) R s₂) (fun e s' => R (.error e) s') s₁) (fun e s' => R (.error e) s') s) :
    codeR (model prog w) A (.call (.ref a) args) R s := by
  refine codeR_of_tree ?_
  show wpR _ A.in1 (callAny (.ref a) args) _ _ s
  simp only [callAny]
  refine wpR_of (wpAny_bind (wpAny_load ho ?_))
  obtain ⟨c, oc, vs, tq, hc, hoc, hdc, hq⟩ := hcd
  simp only [hd', callFunction, hco, hgen, hbody, hc]
  rw [hc] at h
  refine wpAny_bind (m := field (.ref c) 1) (wpAny_field hoc hdc hq (wpAny_bind (wpAny_pure ?_)))
  exact wpAny_bind (wpAny_mono h (fun binds s₁ h₁ => wpAny_bind (wpAny_mono h₁ (fun env s₂ h₂ => wpAny_bind (wpAny_enterFrame h₂.1 hroom
    (wpAny_pure ⟨rfl, rfl, h₂.2⟩))) fun _ _ h' => h')) fun _ _ h' => h')
theorem codeR_call_def {a : Addr} {o : Obj} {fd : FuncData} {body : List Stmt} {args : Args} {binds : List (Str × Value)}
    (hroom : A.depth < recursionLimit) (ho : s.heap.get? a = some o) (hdata : o.data = .func fd) (hlim : s.heap.NoLimit) (hcd : s.heap.CodeRec fd.code fd.qualname)
    (hbody : fd.body = .stmts body) (hbind : BindsTo s fd args binds)
    (hcell : ∀ x ∈ fd.scope.names, x.2 ≠ .cell) (hloc : ∀ x ∈ binds, fd.scope.names.lookup x.1 = some .local)
    (h : ∀ h₀, h₀.Ns s.heap.objs.size (fun x => binds.reverse.lookup x) → (∀ b o, s.heap.get? b = some o → h₀.get? b = some o) →
      wpR (model prog w) (A.deeper (callEnv fd s.heap.objs.size a)) (execs body (callEnv fd s.heap.objs.size a)) (fun f s' => R (.ok (.ret (match f with | .ret v => v | _ => .none))) s')
        noE { s with heap := h₀, toks := s.toks + binds.length })
    (hco : fd.scope.isCoroutine = false := by rfl) (hgen : fd.scope.isGenerator = false := by rfl) (hk : fd.scope.kind = .function := by rfl) :
    codeR (model prog w) A (.call (.ref a) args) R s := by
  refine codeR_call_function hroom ho hdata hco hgen hbody hcd (hbind _ _ _ _ ?_)
  refine wpAny_newFunctionEnv hcell hloc (fun h₀ hns₀ hsb₀ => ⟨hlim.fresh _ hsb₀, codeR_func (h h₀ hns₀ fun b o e => ?_)⟩) hk
  exact hsb₀.extBut b o (Nat.ne_of_lt (Heap.lt_size e)) (Heap.get?_push_of_some _ e)

theorem codeR_block_nil {env : Env} (h : R (.ok .next) s) : codeR (model prog w) A (.block [] env) R s :=
  codeR_of (codeAny_block (wpAny_execs_nil h))
theorem codeR_forLoop {x : Str} {px : Pos} {it : Value} {body : List Stmt} {env : Env} (I : Nat → Shared → Prop)
    (turn : ∀ n s, I n s → wpAny (model prog w) A (pyNext it) (fun r s₁ => match r with
      | none => R (.ok .next) s₁
      | some v => wpAny (model prog w) A (assign (.Name x px) env v) (fun _ s₂ => wpR (model prog w) A (execs body env) (fun f s₃ => match f with
          | .next | .cont => ∃ m, m < n ∧ I m s₃
          | .brk => R (.ok .next) s₃
          | .ret v => R (.ok (.ret v)) s₃) noE s₂) noE s₁) noE s)
    (n : Nat) (h : I n s) : codeR (model prog w) A (.forLoop (.Name x px) it body [] env) R s := by
  refine codeR_loop rfl rfl I (fun n s hI => ?_) n h
  show wpR _ _ ((forTurn (.Name x px) it body [] env).onRaise (fun x => do noteFrame x env; theTreesLotGoes x)) _ _ s
  refine wpR_onRaise (wpR_mono (E := noE) ?_ (fun _ _ q => q) fun _ _ q => False.elim q)
  simp only [forTurn]
  refine wpR_bindA (wpAny_standAt (wpR_bindA (wpAny_onRaise (wpAny_mono (turn n s hI) (fun r s₁ h₁ => ?_) fun _ _ q => False.elim q))))
  cases r with
  | none => exact wpR_pure (.inr ⟨rfl, rfl, codeR_block_nil h₁⟩)
  | some v =>
    refine wpR_bindA (wpAny_of_eq (show letOwnedTupleGo (.Name x px) it v = pure () from rfl) ?_)
    refine wpR_bindA (wpAny_mono h₁ (fun _ s₂ h₂ => wpR_bind (wpR_mono h₂ (fun f s₃ h₃ => ?_) fun _ _ h' => h')) fun _ _ h' => h')
    cases f with
    | next => exact wpR_pure (.inl ⟨rfl, h₃⟩)
    | cont => exact wpR_pure (.inl ⟨rfl, h₃⟩)
    | brk => exact wpR_pure h₃
    | ret v => exact wpR_pure h₃
theorem wpR_For {x : Str} {px : Pos} {iter : PySem.Expr} {body : List Stmt} {pos : Pos} {env : Env} {Q : Flow → Shared → Prop}
    (h : wpAny (model prog w) A (eval iter env) (fun xv s₁ => wpAny (model prog w) A (pyIter xv) (fun it s₂ =>
      codeR (model prog w) A (.forLoop (.Name x px) it body [] env) (fun r s' => match r with | .ok f => Q f s' | .error e => False) s₂) noE s₁) noE s)
    (hs : ∀ x, foldedSetIterable iter env x = pure x := by intro _; rfl) :
    wpR (model prog w) A (exec (.For (.Name x px) iter body [] pos) env) Q noE s := by
  rw [exec_For]
  refine wpR_bindA (wpAny_standAt (wpR_bindA (wpAny_mono h (fun xv s₁ h₁ => wpR_bindA (wpAny_of_eq (hs xv) (wpR_bindA (wpAny_standAt (wpR_bindA (wpAny_holding
    (wpAny_mono h₁ (fun it s₂ h₂ => ?_) fun _ _ h' => h'))))))) fun _ _ h' => h')))
  unfold runOwn
  refine wpR_onRaise (wpR_run rfl (codeR_mono h₂ fun r s' hr => ?_))
  cases r with
  | ok f => exact hr
  | error e => exact False.elim hr

/-- the loop at the ledger -/
theorem forR {σ : Type} {h₀ : Heap} {env : Env} {I : Addr} {x : Str} {px : Pos} {body : List Stmt} {fp : List Addr} {n : Nat} {P : Nat → Value → Prop} {St : Nat → Heap → Prop} {m₀ : Str → Option Value} (as : List Addr) (Led : σ → List (Addr × Obj)) (ps : σ → List (Str × Value)) (J : Nat → σ → Prop) (c₀ : σ)
    (W : Walks prog w A I fp [I] n P St) (hI : s.heap.get? I = none) (o : Obj) (hfp : ∀ b ∈ fp, b = I ∨ ∃ ob, h₀.get? b = some ob) (hst : St 0 (s.heap.push o)) (hIs : I = s.heap.objs.size)
    (hx : env.kindOf x = some .local) (hp : (env.scope.kind == .class || (env.scope.kind == .module && env.locals != env.globals)) = false)
    (ha : ∀ c, (Led c).map (·.1) = as)
    (F : Fr h₀ env.locals s.heap m₀) (N : News h₀ env.locals s.heap (Led c₀)) (hk : Has m₀ (ps c₀)) (hj : J 0 c₀)
    (turn : ∀ i v (c : σ) (u : Str → Option Value) h tk own, i < n → P i v → J i c → OwnOff own as → Fr h₀ env.locals h (fun y => if y = x then some v else kstB u (ps c) y) → News h₀ env.locals h (Led c ++ own) →
      wpR (model prog w) A (execs body env) (fun f s₂ => match f with | .ret v => R (.ok (.ret v)) s₂ | .brk => R (.ok .next) s₂ | _ => TEnd h₀ env.locals { s with heap := h, toks := tk } (fun c' => Led c' ++ own) ps (J (i + 1)) s₂) noE { s with heap := h, toks := tk })
    (done : ∀ (c : σ) (u : Str → Option Value) h tk, J n c → Fr h₀ env.locals h (kstB u (ps c)) → News h₀ env.locals h (Led c) → R (.ok .next) { s with heap := h, toks := tk }) :
    codeR (model prog w) A (.forLoop (.Name x px) (.ref I) body [] env) R { s with heap := s.heap.push o } := by
  subst hIs
  have hLf : env.locals ∉ fp := by
    intro hm
    rcases hfp _ hm with e | ⟨ob, e⟩
    · exact absurd F.ns.lt (e ▸ Nat.lt_irrefl _)
    · exact absurd (Nat.lt_of_lt_of_le (Heap.lt_size e) F.above) (Nat.lt_irrefl _)
  have hwr : ∀ b ∈ [s.heap.objs.size], h₀.get? b = none := fun b hb => by
    rw [List.mem_singleton.mp hb]
    exact next_is_new F
  have hLw : env.locals ∉ [s.heap.objs.size] := fun h => hLf (W.sub _ h)
  have old : ∀ b o, h₀.get? b = some o → b ∉ [s.heap.objs.size] := fun b o e hb => by rw [hwr b hb] at e; cases e
  have hnI : s.heap.objs.size ∉ as := fun hm => by
    rw [← ha c₀] at hm
    obtain ⟨q, hq, e⟩ := List.mem_map.mp hm
    exact absurd (Heap.lt_size (N q hq).1) (e ▸ Nat.lt_irrefl _)
  have hfn : ∀ b ∈ as, b ∉ fp := fun b hb hI => by
    rw [← ha c₀] at hb
    obtain ⟨q, hq, rfl⟩ := List.mem_map.mp hb
    rcases hfp _ hI with e | ⟨ob, e⟩
    · exact absurd (Heap.lt_size (N q hq).1) (e ▸ Nat.lt_irrefl _)
    · have := (N q hq).2.2; rw [e] at this; cases this
  have hoffL : ∀ c, ∀ p ∈ Led c, p.1 ∉ [s.heap.objs.size] := fun c p hp hb => hnI (by rw [← List.mem_singleton.mp hb, ← ha c]; exact List.mem_map_of_mem hp)
  refine codeR_forLoop
    (fun k s' => ∃ h' tk m' c i, s' = { s with heap := h', toks := tk } ∧ St i h' ∧ Fr h₀ env.locals h' m' ∧ News h₀ env.locals h' (Led c) ∧ Has m' (ps c) ∧ J i c ∧ i ≤ n ∧ k = n + 1 - i) ?_ (n + 1)
    ⟨s.heap.push o, s.toks, m₀, c₀, 0, rfl, hst, F.push _, (fun q hq => ⟨Heap.get?_push_of_some _ (N q hq).1, (N q hq).2⟩), hk, hj, Nat.zero_le _, rfl⟩
  rintro k s' ⟨h', tk, m', c, i, rfl, hst', F', N', hk', hJ, hi, rfl⟩
  have next : ∀ h₁ : Heap, (∀ b o, b ∉ [s.heap.objs.size] → h'.get? b = some o → h₁.get? b = some o) → Fr h₀ env.locals h₁ m' ∧ News h₀ env.locals h₁ (Led c) := fun h₁ hk₁ =>
    ⟨⟨F'.ns.at' fun o e => hk₁ _ o hLw e, fun b o e => hk₁ b o (old b o e) (F'.keep b o e), F'.above⟩, fun p hp => ⟨hk₁ _ _ (hoffL c p hp) (N' p hp).1, (N' p hp).2⟩⟩
  by_cases hlt : i < n
  · refine W.item i _ _ _ hlt hst' fun v h₁ tk₁ hP hst₁ hk₁ => ?_
    obtain ⟨F₁, N₁⟩ := next h₁ hk₁
    refine wpAny_assign_Name (wpAny_storeName_local hx F₁.ns (fun h₂ hn₂ hs₂ => ?_) hp)
    have F₂ := F₁.set hn₂ hs₂
    have Nown : News h₀ env.locals h₂ (ownOf h₀ fp h₂) := news_ownOf hLf
    have hst₂ : St (i + 1) h₂ := W.frame _ _ _ hst₁ fun b hb o e => (hs₂.2 b fun q => hLf (q ▸ hb)).trans e
    have hoff : OwnOff (ownOf h₀ fp h₂) as := fun p hp b hb e => hfn b hb (e ▸ ownOf_sub p hp)
    have F₃ : Fr h₀ env.locals h₂ (fun y => if y = x then some v else kstB m' (ps c) y) := by
      have em : kstB m' (ps c) = m' := by
        funext y
        exact kstB_eq hk'.all fun _ => rfl
      rw [em]; exact F₂
    have N₂ := N₁.set hs₂
    refine wpR_mono (turn i v c m' h₂ _ (ownOf h₀ fp h₂) hlt hP hJ hoff F₃ (fun p hp => (List.mem_append.mp hp).elim (N₂ p) (Nown p))) (fun f s₃ h₃ => ?_) fun _ _ e => e
    have fin : ∀ tk₀, TEnd h₀ env.locals { s with heap := h₂, toks := tk₀ } (fun c' => Led c' ++ ownOf h₀ fp h₂) ps (J (i + 1)) s₃ → ∃ m, m < n + 1 - i ∧ ∃ h' tk m' c i, s₃ = { s with heap := h', toks := tk } ∧ St i h' ∧ Fr h₀ env.locals h' m' ∧ News h₀ env.locals h' (Led c) ∧ Has m' (ps c) ∧ J i c ∧ i ≤ n ∧ m = n + 1 - i := by
      rintro tk₀ ⟨c', h₄, tk₄, m₄, news₄, rfl, F₄, N₄, hn, hk₄, hJ₄⟩
      refine ⟨n + 1 - (i + 1), by omega, h₄, tk₄, m₄, c', i + 1, rfl, ?_, F₄, fun p hp => N₄ p (hn p (List.mem_append_left _ hp)), hk₄, hJ₄, hlt, rfl⟩
      refine W.frame _ _ _ hst₁ fun b hb o e => ?_
      have e₂ : h₂.get? b = some o := (hs₂.2 b fun q => hLf (q ▸ hb)).trans e
      cases hn' : h₀.get? b with
      | some o₀ =>
        have : o₀ = o := by have := F₂.keep b o₀ hn'; rw [e₂] at this; exact (Option.some.inj this).symm
        exact this ▸ F₄.keep b o₀ hn'
      | none => exact (N₄ _ (hn _ (List.mem_append_right _ (mem_ownOf hb hn' e₂)))).1
    cases f with
    | ret v => exact h₃
    | brk => exact h₃
    | next => exact fin _ h₃
    | cont => exact fin _ h₃
  · have hin : i = n := by omega
    subst hin
    refine W.done _ _ _ hst' fun h₁ tk₁ hk₁ => ?_
    obtain ⟨F₁, N₁⟩ := next h₁ hk₁
    exact done c m' h₁ tk₁ hJ (kst_now hk' F₁) N₁
end

section
variable {w : World} {p : Program} {loose : List Str} {mean : ExcName → Option Value} {mg mb : Str → Option Value} {A : Around} {h₀ : Heap} {s : Shared}
  {name qual : Str} {params : Arguments} {body : List Stmt} {scope : Scope} {dV kV doc pm cdv ct oc : Value} {an od : Option Addr} {osl : Array (Option Value)} {f : Addr} {vals : List Value} {binds : List (Str × Value)}
  {Q : Value → Shared → Prop} {k : Nat}
/-- entering a def without cells, restricted; the objects of the ledger are hidden from the ground -/
theorem enterR (news : List (Addr × Obj)) (H : At w p loose mean mg mb A h₀ s (k + 1)) (N : ∀ q ∈ news, s.heap.get? q.1 = some q.2 ∧ h₀.get? q.1 = none)
    (ho : (Mine.K w.params).lookup f = some ⟨oc, od, .func (fnOf name qual params body scope dV kV doc pm an cdv ct), osl⟩) (hcd : codeIn (Mine.K w.params) cdv qual = true)
    (hbind : BindsTo s (fnOf name qual params body scope dV kV doc pm an cdv ct) ⟨vals, []⟩ binds) (hloc : ∀ y ∈ binds, scope.names.lookup y.1 = some .local)
    (h : ∀ dp fr gd un g L h₁ tk, (∀ b o, b ∉ news.map (·.1) → s.heap.get? b = some o → g.get? b = some o) → (∀ q ∈ news, q.1 < L) → Fr g L h₁ (fun y => binds.reverse.lookup y) → News g L h₁ news → (Mine.K w.params).In g → Top p loose mean mg mb g →
      (arr dp fr gd un).depth + k < 1000 → (arr dp fr gd un).units + 8 * k ≤ 9800 → (arr dp fr gd un).units ≤ 9800 →
      wpR (model prg w) (arr dp fr gd un) (execs body (envOf qual scope L f cdv))
        (fun fl s' => Q (match fl with | .ret v => v | _ => .none) s') noE { s with heap := h₁, toks := tk })
    (hco : scope.isCoroutine = false) (hgen : scope.isGenerator = false) (hk : scope.kind = .function) (hcell : ∀ x ∈ scope.names, x.2 ≠ .cell) :
    wpR (model prg w) A (call (.ref f) vals) Q noE s := by
  obtain ⟨h9, dp, fr, gd, un⟩ := A
  obtain rfl : h9 = none := H.handled
  refine wpR_call ?_
  have st : ∀ b o, h₀.get? b = some o → (hideAll s.heap (news.map (·.1))).get? b = some o := fun b o e => hideAll_get _ (H.keep b o e) fun q => by
    obtain ⟨r, hr, rfl⟩ := List.mem_map.mp q
    rw [(N r hr).2] at e; cases e
  have hdep := H.depth
  have hun := H.units
  refine codeR_call_def (fd := fnOf name qual params body scope dV kV doc pm an cdv ct) (body := body) (binds := binds) (show dp < 1000 by simp only at hdep; omega) (H.keep _ _ (H.X _ _ ho)) rfl (H.T.nolimit.keeps H.keep) (codeRec_of (H.X.keeps H.keep) hcd) rfl hbind hcell hloc (fun h₁ hns hk₁ => ?_) hco hgen hk
  have := h (dp + 1) (fr.map ((envOf qual scope s.heap.objs.size f cdv) :: ·)) gd (un + 3) _ s.heap.objs.size h₁ (s.toks + binds.length) (fun b o hb e => hideAll_get _ e hb) (fun q hq => Heap.lt_size (N q hq).1) ⟨hns, fun b o e => hk₁ b o (of_hideAll _ e), Nat.le_of_eq (hideAll_size _ _)⟩
    (fun q hq => ⟨hk₁ _ _ (N q hq).1, Nat.ne_of_lt (Heap.lt_size (N q hq).1), hideAll_none _ (List.mem_map_of_mem hq)⟩) (H.X.keeps st) (H.T.keeps st)
    (show dp + 1 + k < 1000 by simp only at hdep; omega) (show un + 3 + 8 * k ≤ 9800 by simp only at hun; omega) (show un + 3 ≤ 9800 by simp only at hun; omega)
  exact wpR_mono this (fun fl s' hl => hl) fun _ _ y => False.elim y
theorem enterR0 (H : At w p loose mean mg mb A h₀ s (k + 1))
    (ho : (Mine.K w.params).lookup f = some ⟨oc, od, .func (fnOf name qual params body scope dV kV doc pm an cdv ct), osl⟩) (hcd : codeIn (Mine.K w.params) cdv qual = true)
    (hbind : BindsTo s (fnOf name qual params body scope dV kV doc pm an cdv ct) ⟨vals, []⟩ binds) (hloc : ∀ y ∈ binds, scope.names.lookup y.1 = some .local)
    (h : ∀ dp fr gd un g L h₁ tk, (∀ b o, s.heap.get? b = some o → g.get? b = some o) → Fr g L h₁ (fun y => binds.reverse.lookup y) → News g L h₁ [] → (Mine.K w.params).In g → Top p loose mean mg mb g →
      (arr dp fr gd un).depth + k < 1000 → (arr dp fr gd un).units + 8 * k ≤ 9800 → (arr dp fr gd un).units ≤ 9800 →
      wpR (model prg w) (arr dp fr gd un) (execs body (envOf qual scope L f cdv))
        (fun fl s' => Q (match fl with | .ret v => v | _ => .none) s') noE { s with heap := h₁, toks := tk })
    (hco : scope.isCoroutine = false) (hgen : scope.isGenerator = false) (hk : scope.kind = .function) (hcell : ∀ x ∈ scope.names, x.2 ≠ .cell) :
    wpR (model prg w) A (call (.ref f) vals) Q noE s :=
  enterR [] H (fun _ h => nomatch h) ho hcd hbind hloc (fun dp fr gd un g L h₁ tk k1 _ F N X T hd hu hU => h dp fr gd un g L h₁ tk (fun b o e => k1 b o (fun q => nomatch q) e) F N X T hd hu hU) hco hgen hk hcell
end
section
variable {M : Model} {A : Around} {E : Value → Shared → Prop} {s : Shared} {env : Env}
theorem wpR_IfExp {test body orelse : PySem.Expr} {pos : Pos} {Q : Value → Shared → Prop}
    (h : wpAny M A (isTrue test env (eval test env)) (fun b s₁ => if b then wpR M A (eval body env) Q E s₁ else wpR M A (eval orelse env) Q E s₁) E s) :
    wpR M A (eval (.IfExp test body orelse pos) env) Q E s := by
  rw [eval_IfExp]
  refine wpR_bindA (wpAny_mono h (fun b s₁ h₁ => ?_) fun _ _ x => x)
  cases b <;> exact h₁
theorem splicedR_star {e : PySem.Expr} {rest : List PySem.Expr} {pos : Pos} {Q : List Value → Shared → Prop}
    (h : wpR M A (eval e env) (fun v s₁ => wpR M A (spliced (backTo pos (starEach rest env))) (fun vs s₂ => Q (v :: vs) s₂) E s₁) E s)
    (he : starEach (e :: rest) env = (false, eval e env) :: starEach rest env := by rfl) : wpR M A (spliced (backTo pos (starEach (e :: rest) env))) Q E s := by
  rw [he]; exact splicedR_cons h
/-- a call of a def by its name; the arguments may be restricted ones -/
theorem wpR_CallName {f : Str} {p pos : Pos} {a : Addr} {o : Obj} {fd : FuncData} {e : PySem.Expr} {args : List PySem.Expr} {Q : Value → Shared → Prop}
    (hd : o.data = .func fd)
    (hf : wpAny M A (eval (.Name f p) env) (fun v s₁ => v = .ref a ∧ wpR M A (spliced (backTo pos (starEach (e :: args) env)))
      (fun vs s₂ => s₂.heap.get? a = some o ∧ wpR M A (call (.ref a) vs) Q E s₂) E s₁) E s)
    (hplain : (backTo pos (starEach (e :: args) env)).any (·.1) = false := by rfl) (hfew : ¬ (backTo pos (starEach (e :: args) env)).length > 30 := by exact Nat.not_lt_of_le (Nat.le_of_ble_eq_true rfl))
    (he : starEach (e :: args) env = (false, eval e env) :: starEach args env := by rfl) :
    wpR M A (eval (.Call (.Name f p) (e :: args) [] pos) env) Q E s := by
  show wpR M A (do callWith pos (← eval (.Name f p) env) [] (backTo pos (starEach (e :: args) env)) (backToKw pos (keywordEach [] env))) Q E s
  refine wpR_bindA (wpAny_mono hf (fun v s₁ h₁ => ?_) fun _ _ x => x)
  obtain ⟨rfl, h₁⟩ := h₁
  refine callWithR_def (o := o) (fd := fd) hplain hfew ?_
  rw [he] at h₁ ⊢
  exact evalArgsR (wpR_mono h₁ (fun vs s₂ h₂ => ⟨⟨h₂.1, hd⟩, h₂.2⟩) fun _ _ x => x)
theorem wpR_List {elts : List PySem.Expr} {pos : Pos} {Q : Value → Shared → Prop}
    (h : wpR M A (spliced (backTo pos (starEach elts env)))
      (fun vs s₁ => vs.length ≤ sizeLine ∧ Q (.ref s₁.heap.objs.size) { s₁ with heap := s₁.heap.push { cls := .type "list", data := .seq vs.toArray } }) E s) : wpR M A (eval (.List elts pos) env) Q E s := by
  rw [arm_eval_List]
  exact wpR_bindA (wpAny_standAt (wpR_bind (wpR_mono h (fun vs s₁ h₁ => wpR_of (wpAny_newObj_type h₁.2 (by show vs.toArray.size ≤ sizeLine; rw [List.size_toArray]; exact h₁.1))) fun _ _ x => x)))
theorem wpR_Compare1 {l r : PySem.Expr} {op : CmpOp} {pos : Pos} {Q : Value → Shared → Prop}
    (h : wpR M A (eval l env) (fun a s₁ => wpAny M A (eval r env) (fun b s₂ => wpAny M A (compareOp op a b) Q E s₂) E s₁) E s)
    (hm : behindInMarks op r = false := by with_unfolding_all rfl) :
    wpR M A (eval (.Compare l [op] [r] pos) env) Q E s := fun Γ p hΓ hC => by
  simp only [eval_Compare1, markedBehindIn_of_false hm, Sem.wp_bind', Sem.wp_holding, Sem.wp_cmd_standAt, Sem.wp_operate]
  exact Sem.wp_mono M Γ _ (fun a p₁ s₁ h₁ => Sem.wp_mono M Γ _ (fun b _ s₂ h₂ => h₂ Γ _ hΓ) (fun _ _ _ h' => h') _ _ (h₁ Γ p₁ hΓ))
    (fun _ _ _ h' => h') _ _ (h Γ p hΓ hC)
/-- 'a and b', the first restricted and true -/
theorem wpR_And2 {x y : PySem.Expr} {pos : Pos} {Q : Value → Shared → Prop}
    (h : wpR M A (eval x env) (fun v s₁ => wpAny M A (truthy v) (fun b s₂ => b = true ∧ wpAny M A (eval y env) Q E s₂) E s₁) E s) :
    wpR M A (eval (.BoolOp .And [x, y] pos) env) Q E s := by
  show wpR M A (do let v ← eval x env; standAt pos; let t ← holding [v] (truthy v); match BoolOp.And, t with | .And, false | .Or, true => pure v | _, _ => boolOp pos .And [eval y env]) Q E s
  refine wpR_bind (wpR_mono h (fun v s₁ h₁ => wpR_of (wpAny_bind (wpAny_standAt (wpAny_bind (wpAny_holding (wpAny_mono h₁ (fun b s₂ h₂ => ?_) fun _ _ x => x)))))) fun _ _ x => x)
  obtain ⟨rfl, h₂⟩ := h₂
  exact h₂
theorem isTrueR_Not {x : PySem.Expr} {pos : Pos} {whole : Sem Value} {Q : Bool → Shared → Prop} (h : wpR M A (isTrue x env (eval x env)) (fun b s₁ => Q (!b) s₁) E s) :
    wpR M A (isTrue (.UnaryOp .Not x pos) env whole) Q E s := by
  show wpR M A (do return !(← isTrue x env (eval x env))) Q E s
  exact wpR_bind (wpR_mono h (fun b s₁ h₁ => wpR_pure h₁) fun _ _ x => x)
theorem isTrueR_call {f : PySem.Expr} {args : List PySem.Expr} {kws : List Keyword} {pos : Pos} {whole : Sem Value} {Q : Bool → Shared → Prop} (h : wpR M A whole (fun v s₁ => wpAny M A (truthy v) Q E s₁) E s) :
    wpR M A (isTrue (.Call f args kws pos) env whole) Q E s := by
  show wpR M A (do let v ← whole; standAt (PySem.Expr.Call f args kws pos).pos; holding [v] (truthy v)) Q E s
  exact wpR_bind (wpR_mono h (fun v s₁ h₁ => wpR_of (wpAny_bind (wpAny_standAt (wpAny_holding h₁)))) fun _ _ x => x)
theorem isTrueR_Or {x : PySem.Expr} {rest : List PySem.Expr} {pos : Pos} {whole : Sem Value} {Q : Bool → Shared → Prop}
    (h : wpR M A (isTrue x env (eval x env)) (fun b s₁ => if b then Q true s₁ else wpAny M A (allTrue .Or rest env) Q E s₁) E s) :
    wpR M A (isTrue (.BoolOp .Or (x :: rest) pos) env whole) Q E s := by
  show wpR M A (do match BoolOp.Or, ← isTrue x env (eval x env) with | .And, false => pure false | .Or, true => pure true | _, _ => allTrue .Or rest env) Q E s
  refine wpR_bind (wpR_mono h (fun b s₁ h₁ => ?_) fun _ _ x => x)
  cases b
  · exact wpR_of h₁
  · exact wpR_pure h₁
theorem wpR_IfR {test : PySem.Expr} {body orelse : List Stmt} {pos : Pos} {Q : Flow → Shared → Prop}
    (h : wpR M A (isTrue test env (eval test env)) (fun b s₂ => if b then wpR M A (execs body env) Q E s₂ else wpR M A (execs orelse env) Q E s₂) E s) :
    wpR M A (exec (.If test body orelse pos) env) Q E s := wpR_If h
theorem wpR_IfA {test : PySem.Expr} {body orelse : List Stmt} {pos : Pos} {Q : Flow → Shared → Prop}
    (h : wpAny M A (isTrue test env (eval test env)) (fun b s₂ => if b then wpR M A (execs body env) Q E s₂ else wpR M A (execs orelse env) Q E s₂) E s) :
    wpR M A (exec (.If test body orelse pos) env) Q E s := wpR_If (wpR_of h)
/-- a statement that is walked as ever -/
theorem wpR_execs_any {st : Stmt} {rest : List Stmt} {Q : Flow → Shared → Prop}
    (h : wpAny M A (exec st env) (fun f s' => match f with | .next => wpR M A (execs rest env) Q E s' | f => Q f s') E s) :
    wpR M A (execs (st :: rest) env) Q E s := wpR_execs_cons (wpR_of h)
end
theorem ba_mro : mroOf (.type "bytearray") = pure [.type "bytearray", .type "object"] := by rw [mroOf_type]; kernel_rfl
theorem ba_lookup_new : typeLookup (.type "bytearray") "__new__" = pure (some (.builtin "bytearray.__new__")) := by rw [typeLookup_type, builtinLookup_eq_fast]; kernel_rfl
theorem ba_slot_init : Slot "bytearray" "__init__" "bytearray.__init__" :=
  .of (owner := "bytearray") (n := "__init__") (by rw [typeLookup_type, builtinLookup_eq_fast]; kernel_rfl) (by decide +kernel) (by decide +kernel) (by decide +kernel)
    (by first | exact .inl (by decide +kernel) | exact .inr (by decide +kernel)) (by rw [isSubtype_type]; kernel_rfl)
theorem ba_called : TypeCalled "bytearray" "bytearray.__new__" "bytearray.__init__" :=
  ⟨by decide +kernel, by decide +kernel, ⟨_, _, ba_mro⟩, madeBy_type ba_mro ba_lookup_new (by decide +kernel), by decide +kernel, by rw [isSubtype_type]; kernel_rfl, ba_slot_init⟩
theorem ba_typeCall : checkTypeCall "bytearray" ⟨[], []⟩ = pure () := by kernel_rfl
theorem ba_newCall : checkBuiltinCall "bytearray.__new__" ⟨[.type "bytearray"], []⟩ = pure () := by kernel_rfl
theorem ba_entry_new : entryFor table "bytearray.__new__" = some Builtin.«list.__new__» := entryFor_alias (id' := "list.__new__") (by kernel_rfl) (by decide +kernel) (by decide +kernel) (by kernel_rfl)
theorem ba_entry_init : entryFor table "bytearray.__init__" = some Builtin.«bytearray.__init__» := by first | exact entryFor_of_fast (by kernel_rfl) | exact entryFor_of_tree (by kernel_rfl)
theorem ba_plain_new : plainId "bytearray.__new__" = true := by decide +kernel
theorem ba_plain_init : plainId "bytearray.__init__" = true := by decide +kernel
set_option maxRecDepth 1000000 in
theorem ba_owner : ("bytearray.__new__".splitOn ".__new__").headD "" = "bytearray" := by simp +decide [String.splitOn, String.splitOnAux]
theorem ba_sub : isSubtype (.type "bytearray") (.type "bytearray") = pure true := by rw [isSubtype_type]; kernel_rfl
section
variable {prog : Program} {w : World} {A : Around} {E : Value → Shared → Prop} {s : Shared}
theorem ba_new {Q₁ : Value → Shared → Prop}
    (h : Q₁ (.ref s.heap.objs.size) { s with heap := s.heap.push { cls := .type "bytearray", data := .bytearray #[] } }) :
    codeAny (model prog w) A (.call (.builtin "bytearray.__new__") ⟨[.type "bytearray"], []⟩) (wants Q₁ E) s := by
  refine codeAny_of_tree ?_
  show wpAny _ A.in1 (do checkBuiltinCall "bytearray.__new__" ⟨[.type "bytearray"], []⟩; again (.builtin "bytearray.__new__" ⟨[.type "bytearray"], []⟩)) _ _ s
  refine wpAny_bind (wpAny_of_eq ba_newCall (wpAny_pure ⟨plainId_quiet ba_plain_new _, codeAny_builtin_stack ba_entry_new rfl fun p st => ?_⟩))
  rw [Around.under_plainId ba_plain_new _]
  have hsub := ba_sub
  have hown := ba_owner
  obtain ⟨hp, g, d, tk, os⟩ := s
  simp only [hown]
  wp_walk
  exact h
theorem codeR_builtin {id : String} {args : Args} {b : Builtin} {R : Result → Shared → Prop} (hb : entryFor table id = some b)
    (h : wpR (model prog w) (A.under (.builtin id args)) (b args)
      (fun fin s' => match fin with | .done f => R (.ok f) s' | .again c' => c'.quiet = true ∧ Clr c' = true ∧ codeR (model prog w) A c' R s') (fun e s' => R (.error e) s') s) :
    codeR (model prog w) A (.builtin id args) R s := by
  refine codeR_of_tree ?_
  show wpR _ _ (match entryFor table id with | some b => b args | none => unsupported ((withoutEnding? id "#data").getD id)) _ _ s
  rw [hb]; exact h
theorem codeR_call_builtin {id : String} {args : Args} {b : Builtin} {R : Result → Shared → Prop} (hq : plainId id = true) (hl : Clr (.builtin id args) = true) (hb : entryFor table id = some b)
    (hc : checkBuiltinCall id args = pure ())
    (h : wpR (model prog w) A.in1 (b args)
      (fun fin s' => match fin with | .done f => R (.ok f) s' | .again c' => c'.quiet = true ∧ Clr c' = true ∧ codeR (model prog w) A c' R s') (fun e s' => R (.error e) s') s) :
    codeR (model prog w) A (.call (.builtin id) args) R s := by
  refine codeR_of_tree ?_
  show wpR _ A.in1 (do checkBuiltinCall id args; again (.builtin id args)) _ _ s
  rw [hc]
  refine wpR_bind (wpR_pure (wpR_pure ⟨plainId_quiet hq args, hl, codeR_builtin hb ?_⟩))
  rw [Around.under_plainId hq args]; exact h
theorem wpR_if_false {α : Type} {M : Model} {c : Bool} {a b : Sem α} {Q : α → Shared → Prop} (e : c = false) (h : wpR M A b Q E s) : wpR M A (if c = true then a else b) Q E s := by rw [if_neg (by rw [e]; exact Bool.false_ne_true)]; exact h
theorem wpR_if_true {α : Type} {M : Model} {c : Bool} {a b : Sem α} {Q : α → Shared → Prop} (e : c = true) (h : wpR M A a Q E s) : wpR M A (if c = true then a else b) Q E s := by rw [if_pos e]; exact h
theorem wpR_callSpecial {self : Value} {T : String} {name : Str} {id : String} {args : List Value} {Q : Option Value → Shared → Prop} {M : Model} (hT : s.TypeIs self T) (h : Slot T name id)
    (hc : wpR M A (call (.builtin id) (self :: args) []) (fun v => Q (some v)) E s) : wpR M A (callSpecial? self name args) Q E s := by
  simp only [callSpecial?]
  refine wpR_bindA (wpAny_specialOf hT h.lookup ?_)
  simp only [h.bind]
  exact wpR_holding (wpR_bind (wpR_pure (wpR_bind (wpR_mono hc (fun v s' h' => wpR_pure h') fun _ _ h' => h'))))
theorem ba_bind : Builtin.Bytes.bindOptional "bytearray.__init__" "bytearray" ["source", "encoding", "errors"] [] [] = pure [none, none, none] := by kernel_rfl
theorem wpR_call_entry {T : String} {name : Str} {id : String} {b : Builtin} {self : Value} {rest : List Value} {Q : Value → Shared → Prop} (h : Slot T name id) (hl : (!heldIds.contains id) = true) (hT : s.TypeIs self T)
    (hb : entryFor table id = some b)
    (hc : wpR (model prog w) A.in1 (b ⟨self :: rest, []⟩) (fun fin s' => ∃ v, fin = .done (.ret v) ∧ Q v s') E s)
    (ha : argsOk id ⟨self :: rest, []⟩ := by rfl) :
    wpR (model prog w) A (call (.builtin id) (self :: rest)) Q E s := by
  refine wpR_call (codeR_of_tree ?_)
  show wpR _ A.in1 (do checkBuiltinCall id ⟨self :: rest, []⟩; again (.builtin id ⟨self :: rest, []⟩)) _ _ s
  refine wpR_bindA (h.check _ _ _ _ _ _ _ _ hT ha (wpR_pure ⟨plainId_quiet h.plain _, hl, codeR_builtin hb ?_⟩))
  rw [Around.under_plainId h.plain _]
  refine wpR_mono hc (fun fin s' h' => ?_) fun _ _ h' => h'
  obtain ⟨v, rfl, hv⟩ := h'
  exact hv
theorem ba_lookup_release : typeLookup (.type "bytearray") "__release_buffer__" = pure (some (.builtin "bytearray.__release_buffer__")) := by rw [typeLookup_type, builtinLookup_eq_fast]; kernel_rfl
set_option maxRecDepth 1000000 in
theorem ba_ends : ("bytearray.__release_buffer__").endsWith ("." ++ "__release_buffer__") = true := by decide +kernel
theorem ba_drop : ("bytearray.__release_buffer__").dropRight ("__release_buffer__".length + 1) = "bytearray" := by decide +kernel
theorem ba_write {b : Addr} {x : Array UInt8} {f : Array UInt8 → Array UInt8} {Q : Unit → Shared → Prop} {M : Model} (ho : s.heap.get? b = some { cls := .type "bytearray", data := .bytearray x }) (hz : (f x).size ≤ sizeLine)
    (h : ∀ h' : Heap, h'.get? b = some { cls := .type "bytearray", data := .bytearray (f x) } → (∀ c o, c ≠ b → s.heap.get? c = some o → h'.get? c = some o) → Q () { s with heap := h' }) :
    wpAny M A (Builtin.Bytes.write (.ref b) f) Q E s := by
  show wpAny _ _ (updateBytearray b f) _ _ _
  unfold updateBytearray
  refine wpAny_bind (wpAny_load ho ?_)
  show wpAny _ _ (update b (Obj.mapBytearray f) >>= fun _ => lookBehind b) _ _ _
  have e : (s.heap.update b (Obj.mapBytearray f)).get? b = some { cls := .type "bytearray", data := .bytearray (f x) } := Heap.get?_update_self (Obj.mapBytearray f) ho rfl
  refine wpAny_bind (wpAny_update ho (wpAny_lookBehind e ?_ (h _ e fun c o hc q => (Heap.get?_update_other _ _ (Ne.symm hc)).trans q)))
  show (if (f x).size > sizeLine then some "bytearray:memory" else none) = none
  rw [if_neg (by omega)]
theorem ba_init {b : Addr} {Q : Value → Shared → Prop} (ho : s.heap.get? b = some { cls := .type "bytearray", data := .bytearray #[] })
    (h : ∀ h' : Heap, h'.get? b = some { cls := .type "bytearray", data := .bytearray #[] } → (∀ c o, c ≠ b → s.heap.get? c = some o → h'.get? c = some o) → Q .none { s with heap := h' }) :
    wpR (model prog w) A (call (.builtin "bytearray.__init__") [.ref b] []) Q E s := by
  have hT : s.TypeIs (.ref b) "bytearray" := ⟨_, ho, rfl⟩
  refine wpR_call_entry ba_slot_init (by decide +kernel) hT ba_entry_init ?_
  unfold Builtin.«bytearray.__init__»
  dsimp only
  refine wpR_bindA (m := Builtin.Bytes.ownRelease (.ref b)) ?_
  unfold Builtin.Bytes.ownRelease
  refine wpAny_bind (m := Builtin.Bytes.slotIsOwn (.ref b) "__release_buffer__") ?_
  unfold Builtin.Bytes.slotIsOwn
  refine wpAny_bind (wpAny_specialOf hT ba_lookup_release ?_)
  dsimp only
  rw [ba_ends, ba_drop]
  refine wpAny_isInstance hT ba_sub ?_
  refine wpAny_pure ?_
  refine wpR_if_false rfl ?_
  refine wpR_bindA (wpAny_of_eq ba_bind ?_)
  dsimp only
  refine wpR_bind (wpR_pure ?_)
  refine wpR_bind (wpR_pure ?_)
  refine wpR_bind (m := (Builtin.Bytes.exported (.ref b) <||> (do return (← Builtin.Bytes.exportsOf (.ref b)) > 0))) ?_
  refine wpR_bind (m := Builtin.Bytes.exported (.ref b)) (wpR_exported ?_)
  refine wpR_of (wpAny_bind (m := Builtin.Bytes.exportsOf (.ref b)) ?_)
  unfold Builtin.Bytes.exportsOf
  refine wpAny_bind (wpAny_load ho ?_)
  refine wpAny_pure (wpAny_pure ?_)
  refine wpR_if_false rfl ?_
  refine wpR_bindA (ba_write ho (Nat.zero_le _) fun h' e k => ?_)
  exact wpR_pure ⟨_, rfl, h h' e k⟩
theorem ba_slot_append : Slot "bytearray" "append" "bytearray.append" :=
  .of (owner := "bytearray") (n := "append") (by rw [typeLookup_type, builtinLookup_eq_fast]; kernel_rfl) (by decide +kernel) (by decide +kernel) (by decide +kernel)
    (by first | exact .inl (by decide +kernel) | exact .inr (by decide +kernel)) (by rw [isSubtype_type]; kernel_rfl)
theorem ba_entry_append : entryFor table "bytearray.append" = some Builtin.«bytearray.append» := by first | exact entryFor_of_fast (by kernel_rfl) | exact entryFor_of_tree (by kernel_rfl)
theorem ba_append {b : Addr} {x : Array UInt8} {n : Int} {t : Tok} {Q : Value → Shared → Prop} (ho : s.heap.get? b = some { cls := .type "bytearray", data := .bytearray x }) (h0 : 0 ≤ n) (h1 : n < 256) (hz : x.size < sizeLine)
    (h : ∀ h' : Heap, h'.get? b = some { cls := .type "bytearray", data := .bytearray (x.push n.toNat.toUInt8) } → (∀ c o, c ≠ b → s.heap.get? c = some o → h'.get? c = some o) → Q .none { s with heap := h' }) :
    wpR (model prog w) A (call (.builtin "bytearray.append") [.ref b, .int n t] []) Q E s := by
  have hT : s.TypeIs (.ref b) "bytearray" := ⟨_, ho, rfl⟩
  refine wpR_call_entry ba_slot_append (by decide +kernel) hT ba_entry_append ?_
  unfold Builtin.«bytearray.append»
  dsimp only
  refine wpR_bindA (wpAny_of_eq (show selfAndOne "bytearray.append" ⟨[.ref b, .int n t], []⟩ = pure (.ref b, .int n t) from rfl) ?_)
  dsimp only
  refine wpR_bindA (m := Builtin.Bytes.byteValue (.int n t)) ?_
  unfold Builtin.Bytes.byteValue
  refine wpAny_bind (wpAny_of_eq (rfl : asIndex (.int n t) = pure n) ?_)
  refine bm_if_false (by simp only [Bool.or_eq_false_iff, decide_eq_false_iff_not]; omega) ?_
  refine wpAny_pure ?_
  refine wpR_bind (wpR_checkResize ho rfl ?_)
  refine wpR_bindA (ba_write ho (by rw [Array.size_push]; omega) fun h' e k => ?_)
  exact wpR_pure ⟨_, rfl, h h' e k⟩
theorem ba_call {Q : Value → Shared → Prop}
    (h : ∀ h' : Heap, h'.get? s.heap.objs.size = some { cls := .type "bytearray", data := .bytearray #[] } → (∀ b o, s.heap.get? b = some o → h'.get? b = some o) → Q (.ref s.heap.objs.size) { s with heap := h' }) :
    wpR (model prog w) A (call (.type "bytearray") []) Q E s := by
  obtain ⟨c, tl, hmro⟩ := ba_called.mro
  have hmade := ba_called.made
  have hsub := ba_called.sub
  refine wpR_call (codeR_of_tree ?_)
  show wpR _ _ (callAny (.type "bytearray") _) _ _ _
  refine wpR_pure ⟨Code.quiet_builtin _ (by decide +kernel), by decide +kernel, codeR_builtin F.entry_type_call ?_⟩
  rw [Around.under_plain (weight_type_call_type "bytearray" [] []) rfl]
  have h1 := ba_called.notType
  have h2 := ba_called.canCreate
  unfold Builtin.«type.__call__»
  dsimp only
  refine wpR_if_false h1 ?_
  refine wpR_if_false h2 ?_
  refine wpR_bindA (wpAny_of_eq ba_typeCall ?_)
  refine wpR_bindA (wpAny_of_eq hmro ?_)
  refine wpR_if_false rfl ?_
  refine wpR_bindA (wpAny_of_eq hmade ?_)
  refine wpR_bind (wpR_pure ?_)
  refine wpR_bindA (wpAny_holding (wpAny_call (ba_new ?_)))
  have hT : ({ s with heap := s.heap.push { cls := .type "bytearray", data := .bytearray #[] } } : Shared).TypeIs (.ref s.heap.objs.size) "bytearray" := ⟨_, Heap.get?_push_size _ rfl, rfl⟩
  refine wpR_bindA (wpAny_isInstance hT hsub ?_)
  refine wpR_if_false rfl ?_
  refine wpR_bind (wpR_holding (wpR_callSpecial hT ba_slot_init (ba_init (Heap.get?_push_size _ rfl) fun h' e k => ?_)))
  dsimp only
  refine wpR_if_false rfl ?_
  exact wpR_pure (h h' e fun b o q => k b o (Nat.ne_of_lt (Heap.lt_size q)) (Heap.get?_push_of_some _ q))
end
theorem bb_no_bytes : typeLookup (.type "bytearray") "__bytes__" = pure none := by rw [typeLookup_type, builtinLookup_eq_fast]; kernel_rfl
theorem bb_no_index : typeLookup (.type "bytearray") "__index__" = pure none := by rw [typeLookup_type, builtinLookup_eq_fast]; kernel_rfl
theorem bb_buffer : typeLookup (.type "bytearray") "__buffer__" = pure (some (.builtin "bytearray.__buffer__")) := by rw [typeLookup_type, builtinLookup_eq_fast]; kernel_rfl
theorem bb_ends : ("bytearray.__buffer__").endsWith ("." ++ "__buffer__") = true := by decide +kernel
theorem bb_drop : ("bytearray.__buffer__").dropRight ("__buffer__".length + 1) = "bytearray" := by decide +kernel
section
variable {prog : Program} {w : World} {A : Around} {E : Value → Shared → Prop} {s : Shared}
theorem bb_release {b : Addr} {x : Array UInt8} {Q : Bool → Shared → Prop} {M : Model} (ho : s.heap.get? b = some { cls := .type "bytearray", data := .bytearray x }) (h : Q false s) : wpAny M A (Builtin.Bytes.ownRelease (.ref b)) Q E s := by
  have hT : s.TypeIs (.ref b) "bytearray" := ⟨_, ho, rfl⟩
  unfold Builtin.Bytes.ownRelease
  refine wpAny_bind (m := Builtin.Bytes.slotIsOwn (.ref b) "__release_buffer__") ?_
  unfold Builtin.Bytes.slotIsOwn
  refine wpAny_bind (wpAny_specialOf hT ba_lookup_release ?_)
  dsimp only
  rw [ba_ends, ba_drop]
  exact wpAny_isInstance hT ba_sub (wpAny_pure h)
theorem bb_new {b : Addr} {x : Array UInt8} {Q : Value → Shared → Prop} (ho : s.heap.get? b = some { cls := .type "bytearray", data := .bytearray x }) (hz : x.size ≤ sizeLine)
    (hQ : ∀ t, Q (.bytes x t) { s with toks := s.toks + 1 }) :
    codeAny (model prog w) A (.call (.builtin "bytes.__new__") ⟨[.type "bytes", .ref b], []⟩) (wants Q E) s := by
  refine codeAny_of_tree ?_
  show wpAny _ A.in1 (do checkBuiltinCall "bytes.__new__" ⟨[.type "bytes", .ref b], []⟩; again (.builtin "bytes.__new__" ⟨[.type "bytes", .ref b], []⟩)) _ _ s
  refine wpAny_bind (wpAny_of_eq (F.bm_newCall _) (wpAny_pure ⟨plainId_quiet F.bm_plain _, codeAny_builtin F.bm_entry ?_⟩))
  rw [Around.under_plainId F.bm_plain _]
  have hT : s.TypeIs (.ref b) "bytearray" := ⟨_, ho, rfl⟩
  unfold Builtin.«bytes.__new__»
  refine wpAny_bind (wpAny_of_eq (a := true) rfl ?_)
  refine bm_if_false rfl ?_
  refine wpAny_bind (wpAny_of_eq F.bm_sub ?_)
  refine bm_if_false rfl ?_
  refine wpAny_bind (wpAny_of_eq (F.bm_bind _) ?_)
  refine wpAny_bind (wpAny_of_eq (a := ()) rfl ?_)
  refine wpAny_bind (wpAny_of_eq (a := ()) rfl ?_)
  refine bm_if_false rfl ?_
  refine wpAny_bind (wpAny_specialOf hT bb_no_bytes ?_)
  refine wpAny_bind (wpAny_bind ?_)
  show wpAny _ _ (load b >>= _) _ _ _
  refine wpAny_bind (wpAny_load ho ?_)
  refine wpAny_pure (wpAny_pure ?_)
  refine bm_if_false rfl ?_
  refine wpAny_bind (wpAny_specialOf hT bb_no_index ?_)
  refine bm_if_true rfl ?_
  refine wpAny_bind (m := Builtin.Bytes.buffer? "bytes.__new__" (.ref b) true) ?_
  unfold Builtin.Bytes.buffer?
  refine wpAny_bind (wpAny_specialOf hT bb_buffer ?_)
  (try dsimp only)
  refine wpAny_bind (m := Builtin.Bytes.slotIsOwn (.ref b) "__buffer__") ?_
  unfold Builtin.Bytes.slotIsOwn
  refine wpAny_bind (wpAny_specialOf hT bb_buffer ?_)
  (try dsimp only)
  rw [bb_ends, bb_drop]
  refine wpAny_isInstance hT ba_sub ?_
  refine bm_if_false rfl ?_
  refine wpAny_bind (wpAny_specialOf hT bb_buffer ?_)
  (try dsimp only)
  refine wpAny_bind (bb_release ho ?_)
  refine bm_if_false rfl ?_
  refine wpAny_bind ?_
  unfold Builtin.Bytes.payload Builtin.Bytes.payload?
  refine wpAny_bind (wpAny_bind (wpAny_load ho ?_))
  refine wpAny_pure (wpAny_pure (wpAny_pure ?_))
  (try dsimp only)
  refine wpAny_bind (wpAny_rule ?_)
  refine wpAny_bind (wpAny_mkBytes ?_ hz)
  show wpAny _ _ (if (Value.type "bytes" == Value.type "bytes") = true then _ else _) _ _ _
  refine bm_if_true (by decide) ?_
  first
    | exact wpAny_pure (hQ _)
    | exact wpAny_bind (wpAny_pure (wpAny_pure (hQ _)))
theorem call_bytes_ba {b : Addr} {x : Array UInt8} {Q : Value → Shared → Prop} (ho : s.heap.get? b = some { cls := .type "bytearray", data := .bytearray x }) (hz : x.size ≤ sizeLine)
    (hQ : ∀ t, Q (.bytes x t) { s with toks := s.toks + 1 }) : wpAny (model prog w) A (call (.type "bytes") [.ref b]) Q E s := by
  refine callType_codes (Q₁ := fun obj s₁ => s₁.TypeIs obj "bytes" ∧ Q obj s₁) F.bm_called (F.bm_typeCall _) F.entry_object_init
    (bb_new ho hz fun t => ⟨PySem.W.typeIs_bytes _ _ _, hQ t⟩) fun obj s₁ h₁ => ?_
  exact ⟨h₁.1, F.args_object_init_2 obj _, object_init_meets F.bm_called.init.lookup F.bm_called.made (by decide) prog w A.in1 _ s₁ ⟨h₁.1, rfl, h₁.2⟩⟩
end
abbrev baObj (x : Array UInt8) : Obj := { cls := .type "bytearray", data := .bytearray x }
theorem ba_plainAttrs : PlainAttrs "bytearray" :=
  ⟨⟨"bytearray.__getattribute__", by rw [typeLookup_type, builtinLookup_eq_fast]; kernel_rfl, by decide +kernel⟩, by rw [typeLookup_type, builtinLookup_eq_fast]; kernel_rfl⟩
section
variable {M : Model} {A : Around} {E : Value → Shared → Prop} {s : Shared} {env : Env}
theorem ba_method {b : Addr} {x : Array UInt8} {pl : Sem Bool} {Q : Value × List Value → Shared → Prop} (ho : s.heap.get? b = some (baObj x)) (h : Q (.builtin "bytearray.append", [.ref b]) s) :
    wpAny M A (getMethod (.ref b) "append" pl) Q E s :=
  getMethod_builtin ⟨_, ho, rfl⟩ ba_plainAttrs ba_slot_append (by kernel_rfl) (fun a e => by cases e; exact ⟨_, ho, rfl⟩) h
end
/-- what the receiver is -/
def ApPre (b : Addr) (x : Array UInt8) (P : Shared → Prop) (v : Value) (s₁ : Shared) : Prop := v = .ref b ∧ s₁.heap.get? b = some (baObj x) ∧ P s₁
/-- what the argument is, and what comes behind -/
def ApPost (b : Addr) (x : Array UInt8) (Q : Flow → Shared → Prop) (v : Value) (s₂ : Shared) : Prop := ∃ (n : Nat) (t : Tok), v = .int (n : Int) t ∧ n < 256 ∧ x.size < sizeLine ∧ s₂.heap.get? b = some (baObj x) ∧
      ∀ h' : Heap, h'.get? b = some (baObj (x.push n.toUInt8)) → (∀ c o, c ≠ b → s₂.heap.get? c = some o → h'.get? c = some o) → Q .next { s₂ with heap := h' }
/-- the statement 'found.append(e)' -/
theorem ap_R {prog : Program} {w : World} {A : Around} {E : Value → Shared → Prop} {s : Shared} {env : Env} (b : Addr) (x : Array UInt8) {f : Str} {p1 apos pos pos' : Pos} {e : PySem.Expr} {pl : Sem Bool} {Q : Flow → Shared → Prop}
    (h : wpAny (model prog w) A (eval (.Name f p1) env) (ApPre b x fun s₁ => wpAny (model prog w) A (eval e env) (ApPost b x Q) E s₁) E s)
    (he : eval (.Call (.Attribute (.Name f p1) "append" apos) [e] [] pos) env = (do
      let ov ← eval (.Name f p1) env
      standAt apos.atName
      let (f, first) ← holding [ov] (getMethod ov "append" pl)
      callWith pos f first (backTo pos (starEach [e] env)) (backToKw pos (keywordEach [] env))) := by rfl)
    (hi : interactive env = false := by rfl) (hs : swapsWith (.Call (.Attribute (.Name f p1) "append" apos) [e] [] pos) none pos'.line env = pure false := by rfl)
    (hst : starEach [e] env = [(false, eval e env)] := by rfl) :
    wpR (model prog w) A (exec (.Expr (.Call (.Attribute (.Name f p1) "append" apos) [e] [] pos) pos') env) Q E s := by
  refine wpR_Expr ?_ hi hs
  rw [he, hst]
  refine wpR_bindA (wpAny_mono h (fun ov s₁ h₁ => wpR_bindA (wpAny_standAt ?_)) fun _ _ x => x)
  obtain ⟨rfl, ho, h₁⟩ := h₁
  refine wpR_bindA (wpAny_holding (ba_method ho ?_))
  refine callWithR_builtin rfl (evalArgsR (splicedR_cons (wpR_of (wpAny_mono h₁ (fun v s₂ h₂ => splicedR_nil ?_) fun _ _ x => x))))
  obtain ⟨n, t, rfl, h1, hz, ho₂, hq⟩ := h₂
  exact ba_append ho₂ (by omega) (by omega) hz fun h' e k => hq h' e k
/-- the ledger behind it -/
theorem ap_led {g h h' : Heap} {L b : Addr} {m : Str → Option Value} {x x' : Array UInt8} {own : List (Addr × Obj)} (F : Fr g L h m) (N : News g L h ((b, baObj x) :: own)) (ho : OwnOff own [b])
    (e : h'.get? b = some (baObj x')) (k : ∀ c o, c ≠ b → h.get? c = some o → h'.get? c = some o) : Fr g L h' m ∧ News g L h' ((b, baObj x') :: own) := by
  have hb := N _ (.head _)
  refine ⟨⟨F.ns.at' fun o q => k _ o (Ne.symm hb.2.1) q, fun c o q => k c o (fun z => by rw [z] at q; rw [hb.2.2] at q; cases q) (F.keep c o q), F.above⟩, fun p hp => ?_⟩
  rcases List.mem_cons.mp hp with rfl | hp
  · exact ⟨e, hb.2⟩
  · have := N p (.tail _ hp)
    exact ⟨k _ _ (ho p hp b (.head _)) this.1, this.2⟩
local macro_rules | `(tactic| walk_at "r ap") => `(tactic| (walk_at "my steps"; rename News _ _ _ _ => N5; refine ⟨rfl, (N5 _ (List.Mem.head _)).1, ?_⟩; dsimp only at *; walk_at "my steps"))
local macro_rules | `(tactic| walk_at "r end") => `(tactic| ((repeat (first | (refine wpR_of (wpAny_execs_nil ?_)) | (fail_if_success (show TEnd _ _ _ _ _ _ _); dsimp only)))))
section
variable {M : Model} {A : Around} {E : Value → Shared → Prop} {s : Shared} {env : Env}
theorem wpR_Assign_Name {x : Str} {pos' pos : Pos} {value : PySem.Expr} {Q : Flow → Shared → Prop}
    (h : wpR M A (eval value env) (fun v s₁ => wpAny M A (storeName env x v) (fun _ => Q .next) E s₁) E s)
    (hs : swapsWith value (some (.Name x pos')) pos.line env = pure false := by rfl) :
    wpR M A (exec (.Assign [.Name x pos'] value pos) env) Q E s := fun Γ p hΓ hC => by
  simp only [exec_Assign_Name env x pos' value pos hs, Sem.wp_bind', Sem.wp_cmd_standAt, Sem.wp_bindName, Sem.wp_pure']
  exact Sem.wp_mono M Γ _ (fun v _ s₁ h₁ => h₁ Γ _ hΓ) (fun _ _ _ h' => h') _ _ (h Γ _ hΓ hC)
theorem wpR_CallType0 {f : Str} {p pos : Pos} {T : String} {Q : Value → Shared → Prop}
    (h : wpAny M A (eval (.Name f p) env) (fun v s₁ => v = .type T ∧ wpR M A (call (.type T) []) Q E s₁) E s) :
    wpR M A (eval (.Call (.Name f p) [] [] pos) env) Q E s := by
  show wpR M A (do callWith pos (← eval (.Name f p) env) [] [] []) Q E s
  refine wpR_bindA (wpAny_mono h (fun v s₁ h₁ => ?_) fun _ _ x => x)
  obtain ⟨rfl, h₁⟩ := h₁
  unfold callWith
  refine wpR_bindA (wpAny_holding (PySem.evalArgs_none (wpR_bindA (wpAny_standAt ?_))))
  refine wpR_bind (m := keeperOf (.type T)) (wpR_pure ?_)
  exact wpR_bind (wpR_mono h₁ (fun r s₂ hr => wpR_of (wpAny_bind (wpAny_holding (wpAny_point (wpAny_pure hr))))) fun _ _ x => x)
end
def utf8s (x : Str) : Array UInt8 := x.cps.foldl (fun acc c => acc ++ (Str.utf8Of c).toArray) #[]
def pre8 (x : Str) (n : Nat) : Array UInt8 := (x.cps.toList.take n).foldl (fun acc c => acc ++ (Str.utf8Of c).toArray) #[]
theorem pre8_succ {x : Str} {c e : Nat} (he : x.cps[c]? = some e) : pre8 x (c + 1) = pre8 x c ++ (Str.utf8Of e).toArray := by
  unfold pre8
  have : x.cps.toList[c]? = some e := by simpa using he
  rw [List.take_add_one, this, List.foldl_append]; rfl
theorem pre8_all {x : Str} : pre8 x x.cps.size = utf8s x := by
  unfold pre8 utf8s
  rw [show x.cps.toList.take x.cps.size = x.cps.toList from by rw [← Array.length_toList]; exact List.take_length, Array.foldl_toList]
theorem utf8Of_len (e : Nat) : (Str.utf8Of e).length ≤ 4 := by unfold Str.utf8Of; split <;> (try split) <;> (try split) <;> simp
theorem pre8_size {x : Str} : ∀ {c : Nat}, c ≤ x.cps.size → (pre8 x c).size ≤ 4 * c
  | 0, _ => by simp [pre8]
  | c + 1, h => by
    obtain ⟨e, he⟩ : ∃ e, x.cps[c]? = some e := ⟨x.cps[c], Array.getElem?_eq_getElem (by omega)⟩
    have := pre8_size (x := x) (c := c) (by omega)
    have l := utf8Of_len e
    have e1 : (pre8 x (c + 1)).size = (pre8 x c).size + (Str.utf8Of e).length := by rw [pre8_succ he, Array.size_append]; rfl
    rw [e1]
    exact Nat.le_trans (Nat.add_le_add this l) (by omega)
theorem app1 (a : Array UInt8) (x : UInt8) : a ++ [x].toArray = a.push x := by apply Array.ext'; simp
theorem app2 (a : Array UInt8) (x y : UInt8) : a ++ [x, y].toArray = (a.push x).push y := by apply Array.ext'; simp
theorem app3 (a : Array UInt8) (x y z : UInt8) : a ++ [x, y, z].toArray = ((a.push x).push y).push z := by apply Array.ext'; simp
theorem app4 (a : Array UInt8) (x y z u : UInt8) : a ++ [x, y, z, u].toArray = (((a.push x).push y).push z).push u := by apply Array.ext'; simp
theorem u_shr (e k : Nat) : ((e : Int)).fdiv ((2 : Int) ^ Int.toNat ((k : Nat) : Int)) = ((e / 2 ^ k : Nat) : Int) := shr_nat
theorem u_192 {e : Nat} (h : e < 2048) : Builtin.bitOr 192 ((e : Int).fdiv (2 ^ Int.toNat 6)) = ((192 + e / 64 : Nat) : Int) := by
  rw [show ((e : Int)).fdiv ((2 : Int) ^ Int.toNat 6) = ((e / 2 ^ 6 : Nat) : Int) from u_shr e 6]
  exact bor_low (a := 192) (m := 32) (by omega) (by decide)
theorem u_224 {e : Nat} (h : e < 65536) : Builtin.bitOr 224 ((e : Int).fdiv (2 ^ Int.toNat 12)) = ((224 + e / 4096 : Nat) : Int) := by
  rw [show ((e : Int)).fdiv ((2 : Int) ^ Int.toNat 12) = ((e / 2 ^ 12 : Nat) : Int) from u_shr e 12]
  exact bor_low (a := 224) (m := 16) (by omega) (by decide)
theorem u_240 {e : Nat} (h : e < 1114112) : Builtin.bitOr 240 ((e : Int).fdiv (2 ^ Int.toNat 18)) = ((240 + e / 262144 : Nat) : Int) := by
  rw [show ((e : Int)).fdiv ((2 : Int) ^ Int.toNat 18) = ((e / 2 ^ 18 : Nat) : Int) from u_shr e 18]
  exact bor_low (a := 240) (m := 8) (by omega) (by decide)
theorem u_128 {e : Nat} : Builtin.bitOr 128 (Builtin.bitAnd (e : Int) 63) = ((128 + e % 64 : Nat) : Int) := by
  rw [show Builtin.bitAnd (e : Int) 63 = ((e % 64 : Nat) : Int) from band_pow (k := 6)]
  exact bor_low (a := 128) (m := 64) (by omega) (by decide)
theorem u_128s6 {e : Nat} : Builtin.bitOr 128 (Builtin.bitAnd ((e : Int).fdiv (2 ^ Int.toNat 6)) 63) = ((128 + e / 64 % 64 : Nat) : Int) := by
  rw [show ((e : Int)).fdiv ((2 : Int) ^ Int.toNat 6) = ((e / 2 ^ 6 : Nat) : Int) from u_shr e 6]
  exact u_128
theorem u_128s12 {e : Nat} : Builtin.bitOr 128 (Builtin.bitAnd ((e : Int).fdiv (2 ^ Int.toNat 12)) 63) = ((128 + e / 4096 % 64 : Nat) : Int) := by
  rw [show ((e : Int)).fdiv ((2 : Int) ^ Int.toNat 12) = ((e / 2 ^ 12 : Nat) : Int) from u_shr e 12]
  exact u_128
theorem utf8_R {w : World} {p : Program} {loose : List Str} {mean : ExcName → Option Value} {mg mb : Str → Option Value} {A : Around} {h₀ : Heap} {s : Shared} {Q : Value → Shared → Prop}
  {x : Str} {t : Tok} {k : Nat} (hx : ∀ c ∈ x.cps.toList, c < 1114112) (hz : x.cps.size ≤ 100) (H : At w p loose mean mg mb A h₀ s (k + 1))
  (hQ : ∀ t' h' tk, (∀ b o, s.heap.get? b = some o → h'.get? b = some o) → Q (.bytes (utf8s x) t') { s with heap := h', toks := tk }) :
  wpR (model prg w) A (call (.ref 78) [.str x t]) Q noE s := by
  refine' enterR0 H ?k6 ?k7 ?k9 ?kB ?_ ?c2 ?c3 ?c4 ?c5
  walk_at "my enter"
  intro dp fr gd un g L h₁ tk₁ hg F N X T hd hu hU
  dsimp only at F ⊢
  refine wpR_execs_cons (wpR_Assign_Name (wpR_CallType0 (T := "bytearray") ?_))
  walk_at "my steps"
  rename Fr _ _ _ _ => F
  rename News _ _ _ _ => N
  refine ba_call fun h₂ eb kb => ?_
  obtain ⟨b, hb⟩ : ∃ b, h₁.objs.size = b := ⟨_, rfl⟩
  have hbL : b ≠ L := hb ▸ Ne.symm (Nat.ne_of_lt F.ns.lt)
  have hbg : g.get? b = none := hb ▸ next_is_new F
  dsimp only at eb kb ⊢
  rw [hb] at eb ⊢
  have F₂ : Fr g L h₂ _ := ⟨F.ns.at' fun o e => kb _ o e, fun c o e => kb c o (F.keep c o e), F.above⟩
  have N₂ : News g L h₂ [(b, baObj #[])] := fun q hq => by obtain rfl := List.mem_singleton.mp hq; exact ⟨eb, hbL, hbg⟩
  clear F N eb kb hb
  walk_at "my steps"
  rename Fr _ _ _ _ => F₃
  rename News _ _ _ _ => N₃
  refine wpR_execs_cons (wpR_For ?_)
  walk_at "my steps"
  refine wpAny_pyIter_str fun o St hW hst => ?_
  refine forR [b] (fun c => [(b, baObj (pre8 x c))]) (fun _ => [("found", .ref b)]) (fun i c => c = i) 0 (hW _ rfl) (by cases e : Heap.get? _ _ with | none => rfl | some ob => exact absurd (Heap.lt_size e) (Nat.lt_irrefl _)) o (fun b hb => .inl (List.mem_singleton.mp hb)) hst rfl rfl rfl (fun _ => rfl) F₃ N₃ ⟨rfl, trivial⟩ rfl ?_ ?_
  · rintro i v c u h tk own hi ⟨e, te, he, rfl⟩ rfl hoff F₄ N₄
    dsimp only [kstB, List.cons_append, List.nil_append] at *
    have hs8 := pre8_size (x := x) (c := c) (by omega)
    have hsl := sizeLine_eq
    have hec : e < 1114112 := hx e (by have := Array.mem_of_getElem? he; simpa using this)
    refine wpR_execs_any ?_
    walk_at "my steps"
    refine wpR_execs_cons (wpR_IfA ?_)
    walk_at "my steps"
    · rename (e : Int) < 128 => h1
      refine wpR_execs_cons (ap_R b (pre8 x c) ?_)
      walk_at "r ap"
      rename News _ _ _ _ => N5
      rename Fr _ _ _ _ => F5
      refine ⟨e, _, rfl, by omega, by (repeat rw [Array.size_push]); omega, (N5 _ (List.Mem.head _)).1, fun h' e' k' => ?_⟩
      obtain ⟨F6, N6⟩ := ap_led F5 N5 hoff e' k'
      clear e' k' F5 N5
      dsimp only
      iterate 2 (refine wpR_of (wpAny_execs_nil ?_); dsimp only)
      refine tend (c + 1) F6 ?_ (fun _ hq => hq) ⟨rfl, trivial⟩ rfl
      have e9 : pre8 x (c + 1) = ((pre8 x c).push (e).toUInt8) := by
        rw [pre8_succ he]; unfold Str.utf8Of
        rw [if_pos (by omega : e < 128)]
        exact app1 _ _
      rw [e9]; exact N6
    · rename ¬ (e : Int) < 128 => h1
      refine wpR_execs_cons (wpR_IfA ?_)
      walk_at "my steps"
      · rename (e : Int) < 2048 => h2
        refine wpR_execs_cons (ap_R b (pre8 x c) ?_)
        walk_at "r ap"
        rename News _ _ _ _ => N5
        rename Fr _ _ _ _ => F5
        refine ⟨192 + e / 64, _, by rw [u_192 (by omega)], by omega, by (repeat rw [Array.size_push]); omega, (N5 _ (List.Mem.head _)).1, fun h' e' k' => ?_⟩
        obtain ⟨F6, N6⟩ := ap_led F5 N5 hoff e' k'
        clear e' k' F5 N5
        dsimp only
        refine wpR_execs_cons (ap_R b ((pre8 x c).push (192 + e / 64).toUInt8) ?_)
        walk_at "r ap"
        rename News _ _ _ _ => N5
        rename Fr _ _ _ _ => F5
        refine ⟨128 + e % 64, _, by rw [u_128], by omega, by (repeat rw [Array.size_push]); omega, (N5 _ (List.Mem.head _)).1, fun h' e' k' => ?_⟩
        obtain ⟨F6, N6⟩ := ap_led F5 N5 hoff e' k'
        clear e' k' F5 N5
        dsimp only
        iterate 3 (refine wpR_of (wpAny_execs_nil ?_); dsimp only)
        refine tend (c + 1) F6 ?_ (fun _ hq => hq) ⟨rfl, trivial⟩ rfl
        have e9 : pre8 x (c + 1) = (((pre8 x c).push (192 + e / 64).toUInt8).push (128 + e % 64).toUInt8) := by
          rw [pre8_succ he]; unfold Str.utf8Of
          rw [if_neg (by omega : ¬ e < 128), if_pos (by omega : e < 2048)]
          exact app2 _ _ _
        rw [e9]; exact N6
      · rename ¬ (e : Int) < 2048 => h2
        refine wpR_execs_cons (wpR_IfA ?_)
        walk_at "my steps"
        · rename (e : Int) < 65536 => h3
          refine wpR_execs_cons (ap_R b (pre8 x c) ?_)
          walk_at "r ap"
          rename News _ _ _ _ => N5
          rename Fr _ _ _ _ => F5
          refine ⟨224 + e / 4096, _, by rw [u_224 (by omega)], by omega, by (repeat rw [Array.size_push]); omega, (N5 _ (List.Mem.head _)).1, fun h' e' k' => ?_⟩
          obtain ⟨F6, N6⟩ := ap_led F5 N5 hoff e' k'
          clear e' k' F5 N5
          dsimp only
          refine wpR_execs_cons (ap_R b ((pre8 x c).push (224 + e / 4096).toUInt8) ?_)
          walk_at "r ap"
          rename News _ _ _ _ => N5
          rename Fr _ _ _ _ => F5
          refine ⟨128 + e / 64 % 64, _, by rw [u_128s6], by omega, by (repeat rw [Array.size_push]); omega, (N5 _ (List.Mem.head _)).1, fun h' e' k' => ?_⟩
          obtain ⟨F6, N6⟩ := ap_led F5 N5 hoff e' k'
          clear e' k' F5 N5
          dsimp only
          refine wpR_execs_cons (ap_R b (((pre8 x c).push (224 + e / 4096).toUInt8).push (128 + e / 64 % 64).toUInt8) ?_)
          walk_at "r ap"
          rename News _ _ _ _ => N5
          rename Fr _ _ _ _ => F5
          refine ⟨128 + e % 64, _, by rw [u_128], by omega, by (repeat rw [Array.size_push]); omega, (N5 _ (List.Mem.head _)).1, fun h' e' k' => ?_⟩
          obtain ⟨F6, N6⟩ := ap_led F5 N5 hoff e' k'
          clear e' k' F5 N5
          dsimp only
          iterate 4 (refine wpR_of (wpAny_execs_nil ?_); dsimp only)
          refine tend (c + 1) F6 ?_ (fun _ hq => hq) ⟨rfl, trivial⟩ rfl
          have e9 : pre8 x (c + 1) = ((((pre8 x c).push (224 + e / 4096).toUInt8).push (128 + e / 64 % 64).toUInt8).push (128 + e % 64).toUInt8) := by
            rw [pre8_succ he]; unfold Str.utf8Of
            rw [if_neg (by omega : ¬ e < 128), if_neg (by omega : ¬ e < 2048), if_pos (by omega : e < 65536)]
            exact app3 _ _ _ _
          rw [e9]; exact N6
        · rename ¬ (e : Int) < 65536 => h3
          refine wpR_execs_cons (ap_R b (pre8 x c) ?_)
          walk_at "r ap"
          rename News _ _ _ _ => N5
          rename Fr _ _ _ _ => F5
          refine ⟨240 + e / 262144, _, by rw [u_240 hec], by omega, by (repeat rw [Array.size_push]); omega, (N5 _ (List.Mem.head _)).1, fun h' e' k' => ?_⟩
          obtain ⟨F6, N6⟩ := ap_led F5 N5 hoff e' k'
          clear e' k' F5 N5
          dsimp only
          refine wpR_execs_cons (ap_R b ((pre8 x c).push (240 + e / 262144).toUInt8) ?_)
          walk_at "r ap"
          rename News _ _ _ _ => N5
          rename Fr _ _ _ _ => F5
          refine ⟨128 + e / 4096 % 64, _, by rw [u_128s12], by omega, by (repeat rw [Array.size_push]); omega, (N5 _ (List.Mem.head _)).1, fun h' e' k' => ?_⟩
          obtain ⟨F6, N6⟩ := ap_led F5 N5 hoff e' k'
          clear e' k' F5 N5
          dsimp only
          refine wpR_execs_cons (ap_R b (((pre8 x c).push (240 + e / 262144).toUInt8).push (128 + e / 4096 % 64).toUInt8) ?_)
          walk_at "r ap"
          rename News _ _ _ _ => N5
          rename Fr _ _ _ _ => F5
          refine ⟨128 + e / 64 % 64, _, by rw [u_128s6], by omega, by (repeat rw [Array.size_push]); omega, (N5 _ (List.Mem.head _)).1, fun h' e' k' => ?_⟩
          obtain ⟨F6, N6⟩ := ap_led F5 N5 hoff e' k'
          clear e' k' F5 N5
          dsimp only
          refine wpR_execs_cons (ap_R b ((((pre8 x c).push (240 + e / 262144).toUInt8).push (128 + e / 4096 % 64).toUInt8).push (128 + e / 64 % 64).toUInt8) ?_)
          walk_at "r ap"
          rename News _ _ _ _ => N5
          rename Fr _ _ _ _ => F5
          refine ⟨128 + e % 64, _, by rw [u_128], by omega, by (repeat rw [Array.size_push]); omega, (N5 _ (List.Mem.head _)).1, fun h' e' k' => ?_⟩
          obtain ⟨F6, N6⟩ := ap_led F5 N5 hoff e' k'
          clear e' k' F5 N5
          dsimp only
          iterate 4 (refine wpR_of (wpAny_execs_nil ?_); dsimp only)
          refine tend (c + 1) F6 ?_ (fun _ hq => hq) ⟨rfl, trivial⟩ rfl
          have e9 : pre8 x (c + 1) = (((((pre8 x c).push (240 + e / 262144).toUInt8).push (128 + e / 4096 % 64).toUInt8).push (128 + e / 64 % 64).toUInt8).push (128 + e % 64).toUInt8) := by
            rw [pre8_succ he]; unfold Str.utf8Of
            rw [if_neg (by omega : ¬ e < 128), if_neg (by omega : ¬ e < 2048), if_neg (by omega : ¬ e < 65536)]
            exact app4 _ _ _ _ _
          rw [e9]; exact N6
  · rintro c u h tk rfl F4 N4
    dsimp only [kstB] at *
    have hs8 := pre8_size (x := x) (c := x.cps.size) (Nat.le_refl _)
    have hsl := sizeLine_eq
    refine wpR_of ?_
    walk_at "my steps"
    refine call_bytes_ba (N4 _ (List.Mem.head _)).1 (by omega) fun t' => ?_
    walk_at "my end"
    rw [pre8_all]
    exact hQ _ _ _ fun c o e => F4.keep c o (hg c o e)
theorem octets_R {w : World} {p : Program} {loose : List Str} {mean : ExcName → Option Value} {mg mb : Str → Option Value} {A : Around} {h₀ : Heap} {s : Shared} {Q : Value → Shared → Prop}
  {x : Str} {t : Tok} (hx : ∀ c ∈ x.cps.toList, c < 1114112) (hz : x.cps.size ≤ 100) (H : At w p loose mean mg mb A h₀ s 2)
  (hQ : ∀ t' h' tk, (∀ b o, s.heap.get? b = some o → h'.get? b = some o) → Q (.bytes (utf8s x) t') { s with heap := h', toks := tk }) :
  wpR (model prg w) A (call (.ref 270) [.str x t]) Q noE s := by
  refine' enterR0 H ?k6 ?k7 ?k9 ?kB ?_ ?c2 ?c3 ?c4 ?c5
  walk_at "my enter"
  intro dp fr gd un g L h₁ tk₁ hg F N X T hd hu hU
  dsimp only at F ⊢
  refine wpR_execs_cons (wpR_Return (wpR_IfExp ?_))
  walk_at "my steps"
  refine wpR_CallName (a := 78) (o := f78) rfl ?_
  walk_at "my steps"
  refine splicedR_star (wpR_of ?_)
  walk_at "my steps"
  refine splicedR_nil ?_
  rename Fr _ _ _ _ => F4
  refine ⟨F4.keep _ _ (X 78 f78 rfl), utf8_R (k := 0) hx hz (At.of F4 X T rfl hd hu (Nat.le_refl _)) fun t' h' tk up => ?_⟩
  exact hQ _ _ _ fun c o e => up c o (F4.keep c o (hg c o e))
theorem joined_ok {w : World} {p : Program} {loose : List Str} {mean : ExcName → Option Value} {mg mb : Str → Option Value} {A : Around} {h₀ : Heap} {s : Shared} {Q E : Value → Shared → Prop}
  {l : Addr} {x : Str} {t : Tok} (hl : s.heap.IsList l #[.str x t]) (hz : x.length ≤ 100000) (H : At w p loose mean mg mb A h₀ s 1)
  (hQ : ∀ t' h' tk, (∀ b o, s.heap.get? b = some o → h'.get? b = some o) → Q (.str x t') { s with heap := h', toks := tk }) :
  wpAny (model prg w) A (call (.ref 184) [.ref l]) Q E s := by
  refine' enter0 H ?k6 ?k7 ?k9 ?kB ?_ ?c2 ?c3 ?c4 ?c5
  walk_at "my enter"
  intro dp fr gd un g L h₁ tk₁ hg F N X T hd hu hU
  dsimp only at F ⊢
  have hlg : g.IsList l #[.str x t] := hl.at fun o e => hg l o e
  walk_at "my steps"
  walk_at "my for"
  walk_at "my steps"
  rename Fr _ _ _ _ => F2
  rename News _ _ _ _ => N2
  refine for_list (vs := [.str x t]) [] (fun _ : Nat × Tok => []) (fun c => [("size", .int (c.1 : Int) c.2), ("texts", .ref l)]) (fun i c => c.1 = (([x].take i).map (·.length)).sum) (0, _) hlg rfl rfl (fun _ => rfl) F2 N2 ⟨rfl, rfl, trivial⟩ rfl ?_ ?_
  · rintro i v ⟨c, ct⟩ u h tk own hv hc hoff F3 N3
    dsimp only [kstB, List.nil_append] at *
    obtain ⟨rfl, rfl⟩ : i = 0 ∧ Value.str x t = v := by
      cases i with
      | zero => exact ⟨rfl, by simpa using hv⟩
      | succ n => simp at hv
    walk_at "my steps"
    rename Fr _ _ _ _ => F4
    rename News _ _ _ _ => N4
    refine tend (c + x.length, _) F4 N4 (fun _ hq => hq) ⟨rfl, rfl, trivial⟩ ?_
    simpa using hc
  · rintro ⟨c, ct⟩ u h tk hc F3 N3
    dsimp only [kstB] at *
    have hc' : c = x.length := by simpa using hc
    walk_at "my steps"
    have e : Txt.join (Str.ofString "") [x] = x := by
      refine cpl_ext ?_
      rw [cpl_join0 rfl]; simp
    walk_at "my end"
    rw [e]
    exact hQ _ _ _ fun b o e => F3.keep b o (hg b o e)
local macro_rules | `(tactic| walk_at "call ref") => `(tactic| (k_here; (with_reducible show wpAny _ _ (call (Value.ref 184) [Value.ref _]) _ _ _); (refine' joined_ok ?hl ?hz (At.of ?F ?X ?T ?hh ?hd ?hu ?hk) ?_; (case hl => first | with_reducible assumption | exact News.isList (by k_asm) (by k_mem) | exact Heap.IsList.at (by assumption) (Fr.keep (by k_asm) _)); (case F => k_asm); (case X => k_asm); (case T => assumption); (case hh => exact rfl); (case hd => assumption); (case hu => assumption); (case hk => decide); (case hz => omega); k_whole); intro t' h' tk' up'; walk_at "my calm"))
theorem hexOf_len (b : Array UInt8) : (hexOf b).length = 2 * b.size := by
  show ((b.toList.flatMap fun e => [figs.getD (e.toNat / 16) 0, figs.getD (e.toNat % 16) 0]).toArray).size = _
  rw [List.size_toArray, two_len]; rfl
theorem ontexts_hex_R {w : World} {p : Program} {loose : List Str} {mean : ExcName → Option Value} {mg mb : Str → Option Value} {A : Around} {h₀ : Heap} {s : Shared} {Q : Value → Shared → Prop}
  {al : Addr} {x : Str} {t tw : Tok} (hl : s.heap.IsList al #[.str x t]) (hx : ∀ c ∈ x.cps.toList, c < 1114112) (hz : x.cps.size ≤ 100) (H : At w p loose mean mg mb A h₀ s 3)
  (hQ : ∀ t' h' tk, (∀ b o, s.heap.get? b = some o → h'.get? b = some o) → Q (.str (hexOf (utf8s x)) t') { s with heap := h', toks := tk }) :
  wpR (model prg w) A (call (.ref 367) [.str "hex" tw, .ref al]) Q noE s := by
  refine' enterR0 H ?k6 ?k7 ?k9 ?kB ?_ ?c2 ?c3 ?c4 ?c5
  walk_at "my enter"
  intro dp fr gd un g L h₁ tk₁ hg F N X T hd hu hU
  dsimp only at F ⊢
  have hlg : g.IsList al #[.str x t] := hl.at fun o e => hg al o e
  refine wpR_execs_any ?_
  walk_at "my steps"
  dsimp only
  refine wpR_execs_any ?_
  walk_at "my steps"
  dsimp only
  refine wpR_execs_cons (wpR_IfA ?_)
  walk_at "my steps"
  refine wpR_execs_cons (wpR_Return ?_)
  refine wpR_CallName (a := 184) (o := f184) rfl ?_
  walk_at "my steps"
  refine splicedR_star ?_
  refine wpR_List (splicedR_star ?_)
  refine wpR_CallName (a := 113) (o := f113) rfl ?_
  walk_at "my steps"
  refine splicedR_star ?_
  refine wpR_CallName (a := 270) (o := f270) rfl ?_
  walk_at "my steps"
  refine splicedR_star (wpR_of ?_)
  walk_at "my steps"
  refine splicedR_nil ?_
  rename Fr _ _ _ _ => F4
  rename News _ _ _ _ => N4
  refine ⟨F4.keep _ _ (X 270 f270 rfl), octets_R hx hz (At.of F4 X T rfl hd hu (by decide)) fun t' h' tk' up => ?_⟩
  obtain ⟨F5, N5⟩ := news_up F4 N4 up
  clear F4 N4 up
  have hs : (utf8s x).size < 1000 := by
    have := pre8_size (x := x) (c := x.cps.size) (Nat.le_refl _)
    rw [← pre8_all]; omega
  refine splicedR_nil ⟨F5.keep _ _ (X 113 f113 rfl), wpR_of ?_⟩
  walk_at "my steps"
  rename Fr _ _ _ _ => F6
  rename News _ _ _ _ => N6
  have hhl : (hexOf (utf8s x)).length = 2 * (utf8s x).size := hexOf_len _
  refine splicedR_nil ⟨by rw [sizeLine_eq]; exact Nat.le_of_ble_eq_true rfl, splicedR_nil ⟨Heap.get?_push_of_some _ (F6.keep _ _ (X 184 f184 rfl)), wpR_of (joined_ok ⟨_, Heap.get?_push_size _ rfl, rfl, _, rfl⟩ (by omega) (At.of (F6.push _) X T rfl hd hu (by decide)) fun t' h' tk up => ?_)⟩⟩
  walk_at "my end"
  exact hQ _ _ _ fun b o e => up b o (Heap.get?_push_of_some _ (F6.keep b o (hg b o e)))
local macro_rules | `(tactic| walk_at "ite") => `(tactic| ((with_reducible refine PySem.W.ite_neg (show ¬ _ from ?x) ?_); (case x => first | (with_reducible assumption) | (simp only [decide_eq_true_eq, beq_iff_eq]; with_reducible assumption))))
/-- call_with_nulls answers (False, None) -/
def NullsNo (s : Shared) (Q : Value → Shared → Prop) : Prop :=
  ∀ h' tk d n, (∀ b o, s.heap.get? b = some o → h'.get? b = some o) → s.heap.get? d = none → h'.get? d = some { cls := .type "tuple", data := .seq #[.bool false, .none] n } → Q (.ref d) { s with heap := h', toks := tk }
def nullWords : List String := ["coalesce", "ifnull", "iif", "nullif", "typeof", "quote", "char", "hex", "zeroblob", "changes", "last_insert_rowid"]
theorem nulls_no {w : World} {p : Program} {loose : List Str} {mean : ExcName → Option Value} {mg mb : Str → Option Value} {A : Around} {h₀ : Heap} {s : Shared} {Q E : Value → Shared → Prop}
  {al : Addr} {wd : Str} {tw tb : Tok} {cn : Value} (hw : ∀ k ∈ nullWords, wd ≠ Str.ofString k) (H : At w p loose mean mg mb A h₀ s 1) (hQ : NullsNo s Q) :
  wpAny (model prg w) A (call (.ref 353) [.str wd tw, .ref al, .str "binary" tb, cn]) Q E s := by
  refine' enter0 H ?k6 ?k7 ?k9 ?kB ?_ ?c2 ?c3 ?c4 ?c5
  walk_at "my enter"
  intro dp fr gd un g L h₁ tk₁ hg F N X T hd hu hU
  dsimp only at F ⊢
  have w1 := hw "coalesce" (by decide)
  have w2 := hw "ifnull" (by decide)
  have w3 := hw "iif" (by decide)
  have w4 := hw "nullif" (by decide)
  have w5 := hw "typeof" (by decide)
  have w6 := hw "quote" (by decide)
  have w7 := hw "char" (by decide)
  have w8 := hw "hex" (by decide)
  have w9 := hw "zeroblob" (by decide)
  have wA := hw "changes" (by decide)
  have wB := hw "last_insert_rowid" (by decide)
  walk_at "my steps"
  walk_at "my end"
  rename News _ _ _ _ => N'
  have hn := (N' _ (.head _)).2.2
  refine hQ _ _ _ _ (fun b o e => Fr.keep (by assumption) b o (hg b o e)) ?_ (N' _ (.head _)).1
  cases q : s.heap.get? _ with
  | none => rfl
  | some o => have := hg _ _ q; rw [hn] at this; cases this
theorem nulls_hex {w : World} {p : Program} {loose : List Str} {mean : ExcName → Option Value} {mg mb : Str → Option Value} {A : Around} {h₀ : Heap} {s : Shared} {Q E : Value → Shared → Prop}
  {al : Addr} {x : Str} {t tw tb : Tok} {cn : Value} (hl : s.heap.IsList al #[.str x t]) (H : At w p loose mean mg mb A h₀ s 1) (hQ : NullsNo s Q) :
  wpAny (model prg w) A (call (.ref 353) [.str "hex" tw, .ref al, .str "binary" tb, cn]) Q E s := by
  refine' enter0 H ?k6 ?k7 ?k9 ?kB ?_ ?c2 ?c3 ?c4 ?c5
  walk_at "my enter"
  intro dp fr gd un g L h₁ tk₁ hg F N X T hd hu hU
  dsimp only at F ⊢
  have hlg : g.IsList al #[.str x t] := hl.at fun o e => hg al o e
  walk_at "my steps"
  walk_at "my end"
  rename News _ _ _ _ => N'
  have hn := (N' _ (.head _)).2.2
  refine hQ _ _ _ _ (fun b o e => Fr.keep (by assumption) b o (hg b o e)) ?_ (N' _ (.head _)).1
  cases q : s.heap.get? _ with
  | none => rfl
  | some o => have := hg _ _ q; rw [hn] at this; cases this
/-- the same in the ledger -/
theorem nulls_led {g h' : Heap} {s : Shared} {L d : Addr} {m : Str → Option Value} {news : List (Addr × Obj)} {o : Obj} (F : Fr g L s.heap m) (N : News g L s.heap news)
  (up : ∀ b o, s.heap.get? b = some o → h'.get? b = some o) (hn : s.heap.get? d = none) (ho : h'.get? d = some o) : Fr g L h' m ∧ News g L h' ((d, o) :: news) ∧ LCg.Off1 d news := by
  obtain ⟨F', N'⟩ := news_up F N up
  refine ⟨F', fun q hq => ?_, off1_of fun q hq e => by rw [← e, (N q hq).1] at hn; cases hn⟩
  rcases List.mem_cons.mp hq with rfl | hq
  · refine ⟨ho, fun e => ?_, ?_⟩
    · obtain ⟨oL, _, _, hL, _⟩ := F.ns
      subst e; rw [hL] at hn; cases hn
    · cases q : g.get? d with
      | none => rfl
      | some o => have := F.keep _ _ q; rw [hn] at this; cases this
  · exact N' q hq
theorem head_of {l : List Str} {x y : Str} (hs : l = Txt.split x ⟨#[Int.toNat 0]⟩) (hy : l[Int.toNat 0]? = some y) : (Txt.split x ⟨#[0]⟩).headD Str.empty = y := by
  have e : Txt.split x ⟨#[0]⟩ = l := hs.symm
  rw [e]
  cases l with
  | nil => cases hy
  | cons a r => exact Option.some.inj hy
theorem length_bytes {w : World} {p : Program} {loose : List Str} {mean : ExcName → Option Value} {mg mb : Str → Option Value} {A : Around} {h₀ : Heap} {s : Shared} {Q E : Value → Shared → Prop}
  {x : Array UInt8} {t : Tok} (H : At w p loose mean mg mb A h₀ s 2) (hz : x.size ≤ 1000)
  (hQ : ∀ t' h' tk, (∀ b o, s.heap.get? b = some o → h'.get? b = some o) → Q (.int (x.size : Int) t') { s with heap := h', toks := tk }) :
  wpAny (model prg w) A (call (.ref 287) [.bytes x t]) Q E s := by
  refine' enter0 H ?k6 ?k7 ?k9 ?kB ?_ ?c2 ?c3 ?c4 ?c5
  walk_at "my enter"
  intro dp fr gd un g L h₁ tk₁ hg F N X T hd hu hU
  dsimp only at F ⊢
  walk_at "my steps"
  walk_at "my end"
  exact hQ _ _ _ fun b o e => Fr.keep (by assumption) b o (hg b o e)
theorem length_str {w : World} {p : Program} {loose : List Str} {mean : ExcName → Option Value} {mg mb : Str → Option Value} {A : Around} {h₀ : Heap} {s : Shared} {Q E : Value → Shared → Prop}
  {x : Str} {t : Tok} (H : At w p loose mean mg mb A h₀ s 2) (hz : x.length ≤ 1000)
  (hQ : ∀ t' h' tk, (∀ b o, s.heap.get? b = some o → h'.get? b = some o) → Q (.int ((Txt.split x ⟨#[0]⟩).headD Str.empty).length t') { s with heap := h', toks := tk }) :
  wpAny (model prg w) A (call (.ref 287) [.str x t]) Q E s := by
  refine' enter0 H ?k6 ?k7 ?k9 ?kB ?_ ?c2 ?c3 ?c4 ?c5
  walk_at "my enter"
  intro dp fr gd un g L h₁ tk₁ hg F N X T hd hu hU
  dsimp only at F ⊢
  walk_at "my steps"
  rename (List.map _ _)[_]? = some _ => hy
  rename List.map _ _ = Txt.split _ _ => hs
  rename ∀ a, a ∈ _ → _ ≤ _ => hle
  have hyl := hle _ (List.mem_of_getElem? hy)
  walk_at "my steps"
  walk_at "my end"
  have e := head_of hs hy
  rw [e] at hQ
  exact hQ _ _ _ fun b o e => Fr.keep (by assumption) b o (hg b o e)
local macro_rules | `(tactic| walk_at "call ref") => `(tactic| (k_here; (with_reducible show wpAny _ _ (call (Value.ref 287) [Value.str _ _]) _ _ _); (refine' length_str (At.of ?F ?X ?T ?hh ?hd ?hu ?hk) ?hz ?_; (case F => k_asm); (case X => k_asm); (case T => assumption); (case hh => exact rfl); (case hd => assumption); (case hu => assumption); (case hk => decide); (case hz => omega); k_whole); intro t' h' tk' up'; walk_at "my calm"))
local macro_rules | `(tactic| walk_at "call ref") => `(tactic| (k_here; (with_reducible show wpAny _ _ (call (Value.ref 287) [Value.bytes _ _]) _ _ _); (refine' length_bytes (At.of ?F ?X ?T ?hh ?hd ?hu ?hk) ?hz ?_; (case F => k_asm); (case X => k_asm); (case T => assumption); (case hh => exact rfl); (case hd => assumption); (case hu => assumption); (case hk => decide); (case hz => omega); k_whole); intro t' h' tk' up'; walk_at "my calm"))
theorem item0 {x : Str} {c : Nat} {r : List Nat} (h : x.cps.toList = c :: r) : Txt.item x 0 = ⟨#[c]⟩ := by
  obtain ⟨⟨l⟩⟩ := x
  have h : l = c :: r := h
  subst h
  unfold Txt.item Txt.charAt seqIndex?
  simp [Str.length]
theorem ontexts_unicode {w : World} {p : Program} {loose : List Str} {mean : ExcName → Option Value} {mg mb : Str → Option Value} {A : Around} {h₀ : Heap} {s : Shared} {Q E : Value → Shared → Prop}
  {al : Addr} {x : Str} {t tw : Tok} (hl : s.heap.IsList al #[.str x t]) (H : At w p loose mean mg mb A h₀ s 2) (hz : x.length ≤ 1000)
  (h0 : (x.cps.toList = [] ∨ x.cps.toList.head? = some 0) → ∀ h' tk, (∀ b o, s.heap.get? b = some o → h'.get? b = some o) → Q .none { s with heap := h', toks := tk })
  (h1 : ∀ c, x.cps.toList.head? = some c → c ≠ 0 → ∀ t' h' tk, (∀ b o, s.heap.get? b = some o → h'.get? b = some o) → Q (.int (c : Int) t') { s with heap := h', toks := tk }) :
  wpAny (model prg w) A (call (.ref 367) [.str "unicode" tw, .ref al]) Q E s := by
  refine' enter0 H ?k6 ?k7 ?k9 ?kB ?_ ?c2 ?c3 ?c4 ?c5
  walk_at "my enter"
  intro dp fr gd un g L h₁ tk₁ hg F N X T hd hu hU
  dsimp only at F ⊢
  have hlg : g.IsList al #[.str x t] := hl.at fun o e => hg al o e
  walk_at "my steps"
  · rename (x != Str.ofString "") = true => q1
    rename (Txt.item x 0 != _) = true => q2
    walk_at "my end"
    rename Fr _ _ _ _ => F4
    cases hc : x.cps.toList with
    | nil => exact absurd (cpl_ext hc : x = Str.ofString "") (by simpa using q1)
    | cons c r =>
      rw [item0 hc] at q2 ⊢
      have hc0 : c ≠ 0 := by rintro rfl; simp at q2
      exact h1 c (by rw [hc]; rfl) hc0 _ _ _ fun b o e => F4.keep b o (hg b o e)
  · rename (x != Str.ofString "") = true => q1
    rename (Txt.item x 0 != _) = false => q2
    walk_at "my end"
    rename Fr _ _ _ _ => F4
    cases hc : x.cps.toList with
    | nil => exact absurd (cpl_ext hc : x = Str.ofString "") (by simpa using q1)
    | cons c r =>
      rw [item0 hc] at q2
      have hc0 : c = 0 := by simpa using q2
      exact h0 (.inr (by rw [hc, hc0]; rfl)) _ _ fun b o e => F4.keep b o (hg b o e)
  · rename (x != Str.ofString "") = false => q1
    walk_at "my end"
    rename Fr _ _ _ _ => F4
    have hx : x = Str.ofString "" := by simpa using q1
    exact h0 (.inl (by rw [hx]; rfl)) _ _ fun b o e => F4.keep b o (hg b o e)
local macro_rules | `(tactic| walk_at "call ref") => `(tactic| (k_here; (with_reducible show wpAny _ _ (call (Value.ref 353) [Value.str _ _, Value.ref _, Value.str _ _, _]) _ _ _); (refine' nulls_no ?hw (At.of ?F ?X ?T ?hh ?hd ?hu ?hk) ?_; (case hw => decide +kernel); (case F => k_asm); (case X => k_asm); (case T => assumption); (case hh => exact rfl); (case hd => assumption); (case hu => assumption); (case hk => decide); k_whole); intro h' tk' d' n' up' hn' ho'; (rename Fr _ _ _ _ => F9); (rename News _ _ _ _ => N9); (obtain ⟨F', N', off'⟩ := nulls_led F9 N9 up' hn' ho'); (clear up' hn' ho'); (try k_sweep)))
theorem cf_length_str {w : World} {p : Program} {loose : List Str} {mean : ExcName → Option Value} {mg mb : Str → Option Value} {A : Around} {h₀ : Heap} {s : Shared} {Q E : Value → Shared → Prop}
  {al : Addr} {x : Str} {t : Tok} {tn tb : Tok} (hl : s.heap.IsList al #[.str x t]) (H : At w p loose mean mg mb A h₀ s 3) (hz : x.length ≤ 1000)
  (hQ : ∀ t' h' tk, (∀ b o, s.heap.get? b = some o → h'.get? b = some o) → Q (.int ((Txt.split x ⟨#[0]⟩).headD Str.empty).length t') { s with heap := h', toks := tk }) :
  wpAny (model prg w) A (call (.ref 360) [.str "length" tn, .ref al, .str "binary" tb, .none]) Q E s := by
  refine' enter0 H ?k6 ?k7 ?k9 ?kB ?_ ?c2 ?c3 ?c4 ?c5
  walk_at "my enter"
  intro dp fr gd un g L h₁ tk₁ hg F N X T hd hu hU
  dsimp only at F ⊢
  have hlg : g.IsList al #[.str x t] := hl.at fun o e => hg al o e
  walk_at "my steps"
  walk_at "my for"
  walk_at "my steps"
  rename Fr _ _ _ _ => F2
  rename News _ _ _ _ => N2
  refine for_list (vs := [.str x t]) [] (fun _ : Unit => []) (fun _ => [("word", .str "length" _), ("arguments", .ref al)]) (fun _ _ => True) () hlg rfl rfl (fun _ => rfl) F2 (fun q hq => nomatch hq) ⟨rfl, rfl, trivial⟩ trivial ?_ ?_
  · rintro i v c u h tk own hv hc hoff F3 N3
    dsimp only [kstB, List.nil_append] at *
    obtain rfl : .str x t = v := by
      cases i with
      | zero => simpa using hv
      | succ n => simp at hv
    walk_at "my steps"
    rename Fr _ _ _ _ => F4
    rename News _ _ _ _ => N4
    exact tend () F4 N4 (fun _ hq => hq) ⟨rfl, rfl, trivial⟩ trivial
  · rintro c u h tk hc F3 N3
    dsimp only [kstB] at *
    walk_at "my steps"
    walk_at "my end"
    exact hQ _ _ _ fun b o e => Fr.keep (by assumption) b o (hg b o e)
theorem cf_length_bytes {w : World} {p : Program} {loose : List Str} {mean : ExcName → Option Value} {mg mb : Str → Option Value} {A : Around} {h₀ : Heap} {s : Shared} {Q E : Value → Shared → Prop}
  {al : Addr} {x : Array UInt8} {t : Tok} {tn tb : Tok} (hl : s.heap.IsList al #[.bytes x t]) (H : At w p loose mean mg mb A h₀ s 3) (hz : x.size ≤ 1000)
  (hQ : ∀ t' h' tk, (∀ b o, s.heap.get? b = some o → h'.get? b = some o) → Q (.int (x.size : Int) t') { s with heap := h', toks := tk }) :
  wpAny (model prg w) A (call (.ref 360) [.str "length" tn, .ref al, .str "binary" tb, .none]) Q E s := by
  refine' enter0 H ?k6 ?k7 ?k9 ?kB ?_ ?c2 ?c3 ?c4 ?c5
  walk_at "my enter"
  intro dp fr gd un g L h₁ tk₁ hg F N X T hd hu hU
  dsimp only at F ⊢
  have hlg : g.IsList al #[.bytes x t] := hl.at fun o e => hg al o e
  walk_at "my steps"
  walk_at "my for"
  walk_at "my steps"
  rename Fr _ _ _ _ => F2
  rename News _ _ _ _ => N2
  refine for_list (vs := [.bytes x t]) [] (fun _ : Unit => []) (fun _ => [("word", .str "length" _), ("arguments", .ref al)]) (fun _ _ => True) () hlg rfl rfl (fun _ => rfl) F2 (fun q hq => nomatch hq) ⟨rfl, rfl, trivial⟩ trivial ?_ ?_
  · rintro i v c u h tk own hv hc hoff F3 N3
    dsimp only [kstB, List.nil_append] at *
    obtain rfl : .bytes x t = v := by
      cases i with
      | zero => simpa using hv
      | succ n => simp at hv
    walk_at "my steps"
    rename Fr _ _ _ _ => F4
    rename News _ _ _ _ => N4
    exact tend () F4 N4 (fun _ hq => hq) ⟨rfl, rfl, trivial⟩ trivial
  · rintro c u h tk hc F3 N3
    dsimp only [kstB] at *
    walk_at "my steps"
    walk_at "my end"
    exact hQ _ _ _ fun b o e => Fr.keep (by assumption) b o (hg b o e)
theorem cf_unicode {w : World} {p : Program} {loose : List Str} {mean : ExcName → Option Value} {mg mb : Str → Option Value} {A : Around} {h₀ : Heap} {s : Shared} {Q E : Value → Shared → Prop}
  {al : Addr} {x : Str} {t : Tok} {tn tb : Tok} (hl : s.heap.IsList al #[.str x t]) (H : At w p loose mean mg mb A h₀ s 3) (hz : x.length ≤ 1000)
  (h0 : (x.cps.toList = [] ∨ x.cps.toList.head? = some 0) → ∀ h' tk, (∀ b o, s.heap.get? b = some o → h'.get? b = some o) → Q .none { s with heap := h', toks := tk })
  (h1 : ∀ c, x.cps.toList.head? = some c → c ≠ 0 → ∀ t' h' tk, (∀ b o, s.heap.get? b = some o → h'.get? b = some o) → Q (.int (c : Int) t') { s with heap := h', toks := tk }) :
  wpAny (model prg w) A (call (.ref 360) [.str "unicode" tn, .ref al, .str "binary" tb, .none]) Q E s := by
  refine' enter0 H ?k6 ?k7 ?k9 ?kB ?_ ?c2 ?c3 ?c4 ?c5
  walk_at "my enter"
  intro dp fr gd un g L h₁ tk₁ hg F N X T hd hu hU
  dsimp only at F ⊢
  have hlg : g.IsList al #[.str x t] := hl.at fun o e => hg al o e
  walk_at "my steps"
  walk_at "my for"
  walk_at "my steps"
  rename Fr _ _ _ _ => F2
  rename News _ _ _ _ => N2
  refine for_list (vs := [.str x t]) [] (fun _ : Unit => []) (fun _ => [("word", .str "unicode" _), ("arguments", .ref al)]) (fun _ _ => True) () hlg rfl rfl (fun _ => rfl) F2 (fun q hq => nomatch hq) ⟨rfl, rfl, trivial⟩ trivial ?_ ?_
  · rintro i v c u h tk own hv hc hoff F3 N3
    dsimp only [kstB, List.nil_append] at *
    obtain rfl : .str x t = v := by
      cases i with
      | zero => simpa using hv
      | succ n => simp at hv
    walk_at "my steps"
    rename Fr _ _ _ _ => F4
    rename News _ _ _ _ => N4
    exact tend () F4 N4 (fun _ hq => hq) ⟨rfl, rfl, trivial⟩ trivial
  · rintro c u h tk hc F3 N3
    dsimp only [kstB] at *
    walk_at "my steps"
    rename Fr _ _ _ _ => F5
    refine ontexts_unicode (hlg.at fun o e => F5.keep al o e) (At.of F5 X T rfl hd hu (by decide)) hz (fun q h' tk up => ?_) (fun c hc hc0 t' h' tk up => ?_)
    · walk_at "my end"
      exact h0 q _ _ fun b o e => up b o (F5.keep b o (hg b o e))
    · walk_at "my end"
      exact h1 c hc hc0 _ _ _ fun b o e => up b o (F5.keep b o (hg b o e))
local macro_rules | `(tactic| walk_at "call ref") => `(tactic| (k_here; (with_reducible show wpAny _ _ (call (Value.ref 353) [Value.str (Str.ofString "hex") _, Value.ref _, Value.str _ _, _]) _ _ _); (refine' nulls_hex ?hl (At.of ?F ?X ?T ?hh ?hd ?hu ?hk) ?_; (case hl => exact Heap.IsList.at (by assumption) (Fr.keep (by k_asm) _)); (case F => k_asm); (case X => k_asm); (case T => assumption); (case hh => exact rfl); (case hd => assumption); (case hu => assumption); (case hk => decide); k_whole); intro h' tk' d' n' up' hn' ho'; (rename Fr _ _ _ _ => F9); (rename News _ _ _ _ => N9); (obtain ⟨F', N', off'⟩ := nulls_led F9 N9 up' hn' ho'); (clear up' hn' ho'); (try k_sweep)))
theorem cf_hex_R {w : World} {p : Program} {loose : List Str} {mean : ExcName → Option Value} {mg mb : Str → Option Value} {A : Around} {h₀ : Heap} {s : Shared} {Q : Value → Shared → Prop}
  {al : Addr} {x : Str} {t : Tok} {tn tb : Tok} (hl : s.heap.IsList al #[.str x t]) (H : At w p loose mean mg mb A h₀ s 4) (hx : ∀ c ∈ x.cps.toList, c < 1114112) (hz : x.cps.size ≤ 100)
  (hQ : ∀ t' h' tk, (∀ b o, s.heap.get? b = some o → h'.get? b = some o) → Q (.str (hexOf (utf8s x)) t') { s with heap := h', toks := tk }) :
  wpR (model prg w) A (call (.ref 360) [.str "hex" tn, .ref al, .str "binary" tb, .none]) Q noE s := by
  refine' enterR0 H ?k6 ?k7 ?k9 ?kB ?_ ?c2 ?c3 ?c4 ?c5
  walk_at "my enter"
  intro dp fr gd un g L h₁ tk₁ hg F N X T hd hu hU
  dsimp only at F ⊢
  have hlg : g.IsList al #[.str x t] := hl.at fun o e => hg al o e
  refine wpR_execs_any ?_
  walk_at "my steps"
  dsimp only
  refine wpR_execs_any ?_
  walk_at "my steps"
  dsimp only
  refine wpR_execs_any ?_
  walk_at "my steps"
  dsimp only
  refine wpR_execs_any ?_
  walk_at "my steps"
  dsimp only
  refine wpR_execs_any ?_
  walk_at "my for"
  walk_at "my steps"
  rename Fr _ _ _ _ => F2
  rename News _ _ _ _ => N2
  refine for_list (vs := [.str x t]) [] (fun _ : Unit => []) (fun _ => [("word", .str "hex" _), ("arguments", .ref al)]) (fun _ _ => True) () hlg rfl rfl (fun _ => rfl) F2 (fun q hq => nomatch hq) ⟨rfl, rfl, trivial⟩ trivial ?_ ?_
  · rintro i v c u h tk own hv hc hoff F3 N3
    dsimp only [kstB, List.nil_append] at *
    obtain rfl : .str x t = v := by
      cases i with
      | zero => simpa using hv
      | succ n => simp at hv
    walk_at "my steps"
    rename Fr _ _ _ _ => F4
    rename News _ _ _ _ => N4
    exact tend () F4 N4 (fun _ hq => hq) ⟨rfl, rfl, trivial⟩ trivial
  · rintro c u h tk hc F3 N3
    dsimp only [kstB] at *
    refine wpR_execs_any ?_
    walk_at "my steps"
    dsimp only
    refine wpR_execs_any ?_
    walk_at "my steps"
    dsimp only
    refine wpR_execs_any ?_
    walk_at "my steps"
    dsimp only
    refine wpR_execs_any ?_
    walk_at "my steps"
    dsimp only
    refine wpR_execs_cons (wpR_Return ?_)
    refine wpR_CallName (a := 367) (o := f367) rfl ?_
    walk_at "my steps"
    refine splicedR_star (wpR_of ?_)
    walk_at "my steps"
    refine splicedR_star (wpR_of ?_)
    walk_at "my steps"
    refine splicedR_nil ?_
    rename Fr _ _ _ _ => F5
    refine ⟨F5.keep _ _ (X 367 f367 rfl), ontexts_hex_R (hlg.at fun o e => F5.keep al o e) hx hz (At.of F5 X T rfl hd hu (by decide)) fun t' h' tk up => ?_⟩
    walk_at "my end"
    exact hQ _ _ _ fun b o e => up b o (F5.keep b o (hg b o e))
theorem lc_length_str {w : World} {p : Program} {loose : List Str} {mean : ExcName → Option Value} {mg mb : Str → Option Value} {A : Around} {h₀ : Heap} {s : Shared} {Q E : Value → Shared → Prop}
  {al : Addr} {x : Str} {t : Tok} {tn : Tok} (hl : s.heap.IsList al #[.str x t]) (H : At w p loose mean mg mb A h₀ s 4) (hz : x.length ≤ 1000)
  (hQ : ∀ t' h' tk, (∀ b o, s.heap.get? b = some o → h'.get? b = some o) → Q (.int ((Txt.split x ⟨#[0]⟩).headD Str.empty).length t') { s with heap := h', toks := tk }) :
  wpAny (model prg w) A (call (.ref 395) [.str "length" tn, .ref al]) Q E s := by
  refine' enter0 H ?k6 ?k7 ?k9 ?kB ?_ ?c2 ?c3 ?c4 ?c5
  walk_at "my enter"
  intro dp fr gd un g L h₁ tk₁ hg F N X T hd hu hU
  dsimp only at F ⊢
  have hlg : g.IsList al #[.str x t] := hl.at fun o e => hg al o e
  walk_at "my steps"
  rename Fr _ _ _ _ => F5
  refine cf_length_str (hlg.at fun o e => F5.keep al o e) (At.of F5 X T rfl hd hu (by decide)) hz fun t' h' tk up => ?_
  walk_at "my end"
  exact hQ _ _ _ fun b o e => up b o (F5.keep b o (hg b o e))
theorem lc_length_bytes {w : World} {p : Program} {loose : List Str} {mean : ExcName → Option Value} {mg mb : Str → Option Value} {A : Around} {h₀ : Heap} {s : Shared} {Q E : Value → Shared → Prop}
  {al : Addr} {x : Array UInt8} {t : Tok} {tn : Tok} (hl : s.heap.IsList al #[.bytes x t]) (H : At w p loose mean mg mb A h₀ s 4) (hz : x.size ≤ 1000)
  (hQ : ∀ t' h' tk, (∀ b o, s.heap.get? b = some o → h'.get? b = some o) → Q (.int (x.size : Int) t') { s with heap := h', toks := tk }) :
  wpAny (model prg w) A (call (.ref 395) [.str "length" tn, .ref al]) Q E s := by
  refine' enter0 H ?k6 ?k7 ?k9 ?kB ?_ ?c2 ?c3 ?c4 ?c5
  walk_at "my enter"
  intro dp fr gd un g L h₁ tk₁ hg F N X T hd hu hU
  dsimp only at F ⊢
  have hlg : g.IsList al #[.bytes x t] := hl.at fun o e => hg al o e
  walk_at "my steps"
  rename Fr _ _ _ _ => F5
  refine cf_length_bytes (hlg.at fun o e => F5.keep al o e) (At.of F5 X T rfl hd hu (by decide)) hz fun t' h' tk up => ?_
  walk_at "my end"
  exact hQ _ _ _ fun b o e => up b o (F5.keep b o (hg b o e))
theorem lc_unicode {w : World} {p : Program} {loose : List Str} {mean : ExcName → Option Value} {mg mb : Str → Option Value} {A : Around} {h₀ : Heap} {s : Shared} {Q E : Value → Shared → Prop}
  {al : Addr} {x : Str} {t : Tok} {tn : Tok} (hl : s.heap.IsList al #[.str x t]) (H : At w p loose mean mg mb A h₀ s 4) (hz : x.length ≤ 1000)
  (h0 : (x.cps.toList = [] ∨ x.cps.toList.head? = some 0) → ∀ h' tk, (∀ b o, s.heap.get? b = some o → h'.get? b = some o) → Q .none { s with heap := h', toks := tk })
  (h1 : ∀ c, x.cps.toList.head? = some c → c ≠ 0 → ∀ t' h' tk, (∀ b o, s.heap.get? b = some o → h'.get? b = some o) → Q (.int (c : Int) t') { s with heap := h', toks := tk }) :
  wpAny (model prg w) A (call (.ref 395) [.str "unicode" tn, .ref al]) Q E s := by
  refine' enter0 H ?k6 ?k7 ?k9 ?kB ?_ ?c2 ?c3 ?c4 ?c5
  walk_at "my enter"
  intro dp fr gd un g L h₁ tk₁ hg F N X T hd hu hU
  dsimp only at F ⊢
  have hlg : g.IsList al #[.str x t] := hl.at fun o e => hg al o e
  walk_at "my steps"
  rename Fr _ _ _ _ => F5
  refine cf_unicode (hlg.at fun o e => F5.keep al o e) (At.of F5 X T rfl hd hu (by decide)) hz (fun q h' tk up => ?_) (fun c hc hc0 t' h' tk up => ?_)
  · walk_at "my end"
    exact h0 q _ _ fun b o e => up b o (F5.keep b o (hg b o e))
  · walk_at "my end"
    exact h1 c hc hc0 _ _ _ fun b o e => up b o (F5.keep b o (hg b o e))
theorem lc_hex_R {w : World} {p : Program} {loose : List Str} {mean : ExcName → Option Value} {mg mb : Str → Option Value} {A : Around} {h₀ : Heap} {s : Shared} {Q : Value → Shared → Prop}
  {al : Addr} {x : Str} {t : Tok} {tn : Tok} (hl : s.heap.IsList al #[.str x t]) (H : At w p loose mean mg mb A h₀ s 5) (hx : ∀ c ∈ x.cps.toList, c < 1114112) (hz : x.cps.size ≤ 100)
  (hQ : ∀ t' h' tk, (∀ b o, s.heap.get? b = some o → h'.get? b = some o) → Q (.str (hexOf (utf8s x)) t') { s with heap := h', toks := tk }) :
  wpR (model prg w) A (call (.ref 395) [.str "hex" tn, .ref al]) Q noE s := by
  refine' enterR0 H ?k6 ?k7 ?k9 ?kB ?_ ?c2 ?c3 ?c4 ?c5
  walk_at "my enter"
  intro dp fr gd un g L h₁ tk₁ hg F N X T hd hu hU
  dsimp only at F ⊢
  have hlg : g.IsList al #[.str x t] := hl.at fun o e => hg al o e
  refine wpR_execs_cons (wpR_Return ?_)
  refine wpR_CallName (a := 360) (o := f360) rfl ?_
  walk_at "my steps"
  refine splicedR_star (wpR_of ?_)
  walk_at "my steps"
  refine splicedR_star (wpR_of ?_)
  walk_at "my steps"
  refine splicedR_star (wpR_of ?_)
  walk_at "my steps"
  refine splicedR_star (wpR_of ?_)
  walk_at "my steps"
  refine splicedR_nil ?_
  rename Fr _ _ _ _ => F5
  refine ⟨F5.keep _ _ (X 360 f360 rfl), cf_hex_R (hlg.at fun o e => F5.keep al o e) (At.of F5 X T rfl hd hu (by decide)) hx hz fun t' h' tk up => ?_⟩
  walk_at "my end"
  exact hQ _ _ _ fun b o e => up b o (F5.keep b o (hg b o e))
/-- the end of a run of figures -/
noncomputable def isDig (c : Nat) : Bool := decide (48 ≤ c) && decide (c ≤ 57)
noncomputable def dend (l : List Nat) (a : Nat) : Nat := a + ((l.drop a).takeWhile isDig).length
theorem dend_step {l : List Nat} {a c : Nat} (h : l[a]? = some c) (hd : isDig c = true) : dend l a = dend l (a + 1) := by
  unfold dend
  obtain ⟨hlt, e⟩ := List.getElem?_eq_some_iff.mp h
  rw [List.drop_eq_getElem_cons hlt, e, List.takeWhile_cons, if_pos hd, List.length_cons]; omega
theorem dend_stop {l : List Nat} {a c : Nat} (h : l[a]? = some c) (hd : isDig c = false) : dend l a = a := by
  unfold dend
  obtain ⟨hlt, e⟩ := List.getElem?_eq_some_iff.mp h
  rw [List.drop_eq_getElem_cons hlt, e, List.takeWhile_cons, if_neg (by rw [hd]; exact Bool.false_ne_true)]; rfl
theorem dend_end {l : List Nat} {a : Nat} (h : l.length ≤ a) : dend l a = a := by
  unfold dend; rw [List.drop_eq_nil_of_le h]; rfl
theorem in_digits : ∀ c < 128, (Builtin.Str.occurrences (Str.ofString "0123456789") ⟨#[c]⟩ 0 (Str.ofString "0123456789").length 1).isEmpty = !isDig c := by decide +kernel
theorem item_at {x : Str} {i c : Nat} (h : (cpl x)[i]? = some c) : Txt.item x (i : Int) = ⟨#[c]⟩ := by
  obtain ⟨hlt, e⟩ := List.getElem?_eq_some_iff.mp h
  have hl : (x.length : Int) = ((cpl x).length : Int) := rfl
  unfold Txt.item Txt.charAt seqIndex?
  have h1 : ¬ ((i : Int) < 0) := by omega
  have h2 : (decide (0 ≤ (i : Int)) && decide ((i : Int) < (x.length : Int))) = true := by
    simp only [Bool.and_eq_true, decide_eq_true_eq]; omega
  simp only [h1, if_false, h2, if_true, Option.bind_some, Int.toNat_natCast]
  have h3 : x.cps[i]? = some c := by
    rw [← h]; exact (Array.getElem?_toList).symm
  rw [h3]; rfl
theorem digitsend_ok {w : World} {p : Program} {loose : List Str} {mean : ExcName → Option Value} {mg mb : Str → Option Value} {A : Around} {h₀ : Heap} {s : Shared} {Q E : Value → Shared → Prop}
  {x : Str} {t ta : Tok} {a : Nat} (H : At w p loose mean mg mb A h₀ s 1) (hz : x.length ≤ 1000) (hx : ∀ c ∈ cpl x, c < 128) (ha : a ≤ x.length)
  (hQ : ∀ t' h' tk, (∀ b o, s.heap.get? b = some o → h'.get? b = some o) → Q (.int (dend (cpl x) a : Nat) t') { s with heap := h', toks := tk }) :
  wpAny (model prg w) A (call (.ref 149) [.str x t, .int (a : Int) ta]) Q E s := by
  refine' enter0 H ?k6 ?k7 ?k9 ?kB ?_ ?c2 ?c3 ?c4 ?c5
  walk_at "my enter"
  intro dp fr gd un g L h₁ tk₁ hg F N X T hd hu hU
  dsimp only at F ⊢
  walk_at "my steps"
  rename Fr _ _ _ _ => F2
  rename News _ _ _ _ => N2
  refine while_my (σ := Nat × Tok) (fun _ => []) (fun c => [(Str.ofString "text", .str x t), (Str.ofString "at", .int c.1 c.2)])
    (fun c => c.1 ≤ x.length ∧ dend (cpl x) c.1 = dend (cpl x) a) (fun c => x.length - c.1) (a, _) F2 N2 ⟨rfl, rfl, trivial⟩ ⟨ha, rfl⟩ ?_ noE_passes
  rintro ⟨i, ti⟩ u h tk ⟨hi, hv⟩ F3 N3
  dsimp only [kstB] at *
  walk_at "my steps"
  · rename _ = true => q
    have hil : i < (cpl x).length := by have : x.length = (cpl x).length := rfl; omega
    obtain ⟨c, hc⟩ : ∃ c, (cpl x)[i]? = some c := ⟨_, List.getElem?_eq_getElem hil⟩
    rw [item_at hc, in_digits c (hx c (List.mem_of_getElem? hc))] at q
    have hcd : isDig c = false := by simpa using q
    walk_at "my end"
    rw [dend_stop hc hcd] at hv
    rw [hv]
    exact hQ _ _ _ fun b o e => F3.keep b o (hg b o e)
  · rename _ = false => q
    have hil : i < (cpl x).length := by have : x.length = (cpl x).length := rfl; omega
    obtain ⟨c, hc⟩ : ∃ c, (cpl x)[i]? = some c := ⟨_, List.getElem?_eq_getElem hil⟩
    rw [item_at hc, in_digits c (hx c (List.mem_of_getElem? hc))] at q
    have hcd : isDig c = true := by simpa using q
    rename Fr _ _ _ _ => F4
    rename News _ _ _ _ => N4
    refine tend (i + 1, _) F4 N4 (fun _ hq => hq) ⟨rfl, rfl, trivial⟩ ⟨⟨by dsimp only; omega, ?_⟩, by dsimp only; omega⟩
    rw [← hv, dend_step hc hcd]
  · walk_at "my end"
    rw [dend_end (show (cpl x).length ≤ i by have : x.length = (cpl x).length := rfl; omega)] at hv
    rw [hv]
    exact hQ _ _ _ fun b o e => F3.keep b o (hg b o e)
noncomputable def isSp (c : Nat) : Bool := c == 32 || (decide (9 ≤ c) && decide (c ≤ 13))
noncomputable def spEnd (l : List Nat) (a : Nat) : Nat := a + ((l.drop a).takeWhile isSp).length
theorem sp_step {l : List Nat} {a c : Nat} (h : l[a]? = some c) (hd : isSp c = true) : spEnd l a = spEnd l (a + 1) := by
  unfold spEnd
  obtain ⟨hlt, e⟩ := List.getElem?_eq_some_iff.mp h
  rw [List.drop_eq_getElem_cons hlt, e, List.takeWhile_cons, if_pos hd, List.length_cons]; omega
theorem sp_stop {l : List Nat} {a c : Nat} (h : l[a]? = some c) (hd : isSp c = false) : spEnd l a = a := by
  unfold spEnd
  obtain ⟨hlt, e⟩ := List.getElem?_eq_some_iff.mp h
  rw [List.drop_eq_getElem_cons hlt, e, List.takeWhile_cons, if_neg (by rw [hd]; exact Bool.false_ne_true)]; rfl
theorem sp_end {l : List Nat} {a : Nat} (h : l.length ≤ a) : spEnd l a = a := by
  unfold spEnd; rw [List.drop_eq_nil_of_le h]; rfl
theorem in_spaces : ∀ c < 128, (Builtin.Str.occurrences (Str.ofString " \t\n\x0b\x0c\r") ⟨#[c]⟩ 0 (Str.ofString " \t\n\x0b\x0c\r").length 1).isEmpty = !isSp c := by decide +kernel
theorem in_signs : ∀ c < 128, (Builtin.Str.occurrences (Str.ofString "+-") ⟨#[c]⟩ 0 (Str.ofString "+-").length 1).isEmpty = !(c == 43 || c == 45) := by decide +kernel
/-- a text without a sign: its span of figures behind the spaces -/
theorem span_ok {w : World} {p : Program} {loose : List Str} {mean : ExcName → Option Value} {mg mb : Str → Option Value} {A : Around} {h₀ : Heap} {s : Shared} {Q E : Value → Shared → Prop}
  {x : Str} {t : Tok} (H : At w p loose mean mg mb A h₀ s 2) (hz : x.length ≤ 1000) (hx : ∀ c ∈ cpl x, c < 128 ∧ c ≠ 43 ∧ c ≠ 45)
  (h0 : dend (cpl x) (spEnd (cpl x) 0) = spEnd (cpl x) 0 → ∀ h' tk, (∀ b o, s.heap.get? b = some o → h'.get? b = some o) → Q .none { s with heap := h', toks := tk })
  (h1 : dend (cpl x) (spEnd (cpl x) 0) ≠ spEnd (cpl x) 0 → ∀ h' tk d ta tb n, (∀ b o, s.heap.get? b = some o → h'.get? b = some o) → s.heap.get? d = none → h'.get? d = some { cls := .type "tuple", data := .seq #[.int (spEnd (cpl x) 0 : Nat) ta, .int (dend (cpl x) (spEnd (cpl x) 0) : Nat) tb] n } → Q (.ref d) { s with heap := h', toks := tk }) :
  wpAny (model prg w) A (call (.ref 156) [.str x t]) Q E s := by
  refine' enter0 H ?k6 ?k7 ?k9 ?kB ?_ ?c2 ?c3 ?c4 ?c5
  walk_at "my enter"
  intro dp fr gd un g L h₁ tk₁ hg F N X T hd hu hU
  dsimp only at F ⊢
  walk_at "my steps"
  rename Fr _ _ _ _ => F2
  rename News _ _ _ _ => N2
  refine while_my (σ := Nat × Tok) (fun _ => []) (fun c => [(Str.ofString "text", .str x t), (Str.ofString "begin", .int c.1 c.2)])
    (fun c => c.1 ≤ x.length ∧ spEnd (cpl x) c.1 = spEnd (cpl x) 0) (fun c => x.length - c.1) (0, _) F2 N2 ⟨rfl, rfl, trivial⟩ ⟨Nat.zero_le _, rfl⟩ ?_ noE_passes
  rintro ⟨i, ti⟩ u h tk ⟨hi, hv⟩ F3 N3
  dsimp only [kstB] at *
  walk_at "my steps"
  · rename (Builtin.Str.occurrences (Str.ofString " \t\n\x0b\x0c\r") _ _ _ _).isEmpty = _ => q
    have hil : i < (cpl x).length := by have : x.length = (cpl x).length := rfl; omega
    obtain ⟨c, hc⟩ : ∃ c, (cpl x)[i]? = some c := ⟨_, List.getElem?_eq_getElem hil⟩
    rw [item_at hc, in_spaces c (hx c (List.mem_of_getElem? hc)).1] at q
    have hcs : isSp c = false := by simpa using q
    rw [sp_stop hc hcs] at hv
    rename Fr _ _ _ _ => F4
    rename News _ _ _ _ => N4
    refine digitsend_ok (At.of F4 X T rfl hd hu (by decide)) hz (fun c hc => (hx c hc).1) hi fun t' h' tk up => ?_
    obtain ⟨F5, N5⟩ := news_up F4 N4 up
    clear F4 N4
    walk_at "my steps"
    · walk_at "my end"
      rename Fr _ _ _ _ => F6
      exact h0 (by rw [← hv]; omega) _ _ fun b o e => F6.keep b o (hg b o e)
    · walk_at "my end"
      rename Fr _ _ _ _ => F6
      rename News _ _ _ _ => N6
      have hn := (N6 _ (.head _)).2.2
      refine h1 (by rw [← hv]; omega) _ _ _ _ _ _ (fun b o e => F6.keep b o (hg b o e)) ?_ (by rw [← hv]; exact (N6 _ (.head _)).1)
      cases q : s.heap.get? _ with
      | none => rfl
      | some o => have := hg _ _ q; rw [hn] at this; cases this
  · exfalso
    rename (Builtin.Str.occurrences (Str.ofString "+-") _ _ _ _).isEmpty = _ => q
    have hil : i < (cpl x).length := by have : x.length = (cpl x).length := rfl; omega
    obtain ⟨c, hc⟩ : ∃ c, (cpl x)[i]? = some c := ⟨_, List.getElem?_eq_getElem hil⟩
    have hxc := hx c (List.mem_of_getElem? hc)
    rw [item_at hc, in_signs c hxc.1] at q
    simp [hxc.2.1, hxc.2.2] at q
  · rename (Builtin.Str.occurrences (Str.ofString " \t\n\x0b\x0c\r") _ _ _ _).isEmpty = _ => q
    have hil : i < (cpl x).length := by have : x.length = (cpl x).length := rfl; omega
    obtain ⟨c, hc⟩ : ∃ c, (cpl x)[i]? = some c := ⟨_, List.getElem?_eq_getElem hil⟩
    rw [item_at hc, in_spaces c (hx c (List.mem_of_getElem? hc)).1] at q
    have hcs : isSp c = true := by simpa using q
    rename Fr _ _ _ _ => F4
    rename News _ _ _ _ => N4
    refine tend (i + 1, _) F4 N4 (fun _ hq => hq) ⟨rfl, rfl, trivial⟩ ⟨⟨by dsimp only; omega, ?_⟩, by dsimp only; omega⟩
    rw [← hv, sp_step hc hcs]
  · rw [sp_end (show (cpl x).length ≤ i by have : x.length = (cpl x).length := rfl; omega)] at hv
    rename Fr _ _ _ _ => F4
    rename News _ _ _ _ => N4
    refine digitsend_ok (At.of F4 X T rfl hd hu (by decide)) hz (fun c hc => (hx c hc).1) hi fun t' h' tk up => ?_
    obtain ⟨F5, N5⟩ := news_up F4 N4 up
    clear F4 N4
    walk_at "my steps"
    · walk_at "my end"
      rename Fr _ _ _ _ => F6
      exact h0 (by rw [← hv]; omega) _ _ fun b o e => F6.keep b o (hg b o e)
    · walk_at "my end"
      rename Fr _ _ _ _ => F6
      rename News _ _ _ _ => N6
      have hn := (N6 _ (.head _)).2.2
      refine h1 (by rw [← hv]; omega) _ _ _ _ _ _ (fun b o e => F6.keep b o (hg b o e)) ?_ (by rw [← hv]; exact (N6 _ (.head _)).1)
      cases q : s.heap.get? _ with
      | none => rfl
      | some o => have := hg _ _ q; rw [hn] at this; cases this
/-- the figures' number -/
noncomputable def numOf (l : List Nat) : Nat := l.foldl (fun n c => if isDig c = true then n * 10 + (c - 48) else n) 0
theorem find_dig : ∀ c < 128, isDig c = true → Txt.find (Str.ofString "0123456789") ⟨#[c]⟩ = ((c - 48 : Nat) : Int) := by decide +kernel
theorem numOf_snoc (l : List Nat) (c : Nat) : numOf (l ++ [c]) = if isDig c = true then numOf l * 10 + (c - 48) else numOf l := by
  unfold numOf; rw [List.foldl_append]; rfl
theorem slice_mem {x : Str} {l u : Option Int} {c : Nat} (h : c ∈ cpl (Txt.slice x l u)) : c ∈ cpl x := by
  unfold Txt.slice at h
  split at h
  · exact h
  · obtain ⟨i, _, hi⟩ := List.mem_filterMap.mp (show c ∈ List.filterMap _ _ from h)
    exact List.mem_of_getElem? (show (cpl x)[i]? = some c from by rw [← hi]; exact Array.getElem?_toList)
theorem numberof_ok {w : World} {p : Program} {loose : List Str} {mean : ExcName → Option Value} {mg mb : Str → Option Value} {A : Around} {h₀ : Heap} {s : Shared} {Q E : Value → Shared → Prop}
  {x : Str} {t : Tok} (H : At w p loose mean mg mb A h₀ s 1) (hz : x.length ≤ 10) (hx : ∀ c ∈ cpl x, c < 128 ∧ c ≠ 45)
  (hQ : ∀ t' h' tk, (∀ b o, s.heap.get? b = some o → h'.get? b = some o) → Q (.int (numOf (cpl x) : Nat) t') { s with heap := h', toks := tk }) :
  wpAny (model prg w) A (call (.ref 163) [.str x t]) Q E s := by
  refine' enter0 H ?k6 ?k7 ?k9 ?kB ?_ ?c2 ?c3 ?c4 ?c5
  walk_at "my enter"
  intro dp fr gd un g L h₁ tk₁ hg F N X T hd hu hU
  dsimp only at F ⊢
  walk_at "my steps"
  walk_at "my for"
  walk_at "my steps"
  rename Fr _ _ _ _ => F2
  rename News _ _ _ _ => N2
  refine for_str [] (fun _ : Nat × Tok => []) (fun c => [("number", .int (c.1 : Int) c.2), ("text", .str x t)]) (fun i c => c.1 = numOf ((cpl x).take i) ∧ c.1 < 10 ^ i) (0, _) rfl rfl (fun _ => rfl) F2 N2 ⟨rfl, rfl, trivial⟩ ⟨rfl, Nat.one_pos⟩ ?_ ?_
  · rintro i e te ⟨n, tn⟩ u h tk own he ⟨hn, hb⟩ hoff F3 N3
    dsimp only [kstB, List.nil_append] at *
    walk_at "my steps"
    all_goals (have hec := (hx e (List.mem_of_getElem? (show (cpl x)[i]? = some e from by rw [← he]; exact Array.getElem?_toList))).1)
    all_goals (have htk : (cpl x).take (i + 1) = (cpl x).take i ++ [e] := by rw [List.take_add_one, show (cpl x)[i]? = some e from by rw [← he]; exact Array.getElem?_toList]; rfl)
    · rename (Builtin.Str.occurrences _ _ _ _ _).isEmpty = _ => q
      rw [in_digits e hec] at q
      have hd' : isDig e = false := by simpa using q
      refine tend (n, _) F3 N3 (fun _ hq => hq) ⟨rfl, rfl, trivial⟩ ⟨?_, ?_⟩
      · show n = _
        rw [htk, numOf_snoc, hd', hn]; rfl
      · show n < _
        rw [Nat.pow_succ]; omega
    · exfalso; simp_all
    · rename (Builtin.Str.occurrences _ _ _ _ _).isEmpty = false => q
      rw [in_digits e hec] at q
      have hd' : isDig e = true := by simpa using q
      have hf := find_dig e hec hd'
      have hval : (n : Int) * 10 + Txt.find (Str.ofString "0123456789") ⟨#[e]⟩ = ((n * 10 + (e - 48) : Nat) : Int) := by rw [hf]; simp
      rename Fr _ _ _ _ => F4
      rename News _ _ _ _ => N4
      rw [hval] at F4
      refine tend (n * 10 + (e - 48), _) F4 N4 (fun _ hq => hq) ⟨rfl, rfl, trivial⟩ ⟨?_, ?_⟩
      · show n * 10 + (e - 48) = _
        rw [htk, numOf_snoc, hd', hn]; rfl
      · show n * 10 + (e - 48) < _
        have : e ≤ 57 := by unfold isDig at hd'; simp at hd'; exact hd'.2
        rw [Nat.pow_succ]; omega
  · rintro ⟨n, tn⟩ u h tk ⟨hn, hb⟩ F3 N3
    dsimp only [kstB] at *
    walk_at "my steps"
    · exfalso
      rename (Txt.slice _ _ _ == _) = true => q
      have e : Txt.slice x none (some 1) = Str.ofString "-" := by simpa using q
      have h45 : 45 ∈ cpl (Txt.slice x none (some 1)) := by rw [e]; decide
      exact (hx 45 (slice_mem h45)).2 rfl
    · walk_at "my end"
      rename Fr _ _ _ _ => F6
      have hall : (cpl x).take x.cps.size = cpl x := List.take_of_length_le (Nat.le_refl _)
      rw [hall] at hn
      rw [hn]
      exact hQ _ _ _ fun b o e => F6.keep b o (hg b o e)
theorem asint_int {w : World} {p : Program} {loose : List Str} {mean : ExcName → Option Value} {mg mb : Str → Option Value} {A : Around} {h₀ : Heap} {s : Shared} {Q E : Value → Shared → Prop}
  {z : Int} {t : Tok} (H : At w p loose mean mg mb A h₀ s 3)
  (hQ : ∀ h' tk, (∀ b o, s.heap.get? b = some o → h'.get? b = some o) → Q (.int z t) { s with heap := h', toks := tk }) :
  wpAny (model prg w) A (call (.ref 170) [.int z t]) Q E s := by
  refine' enter0 H ?k6 ?k7 ?k9 ?kB ?_ ?c2 ?c3 ?c4 ?c5
  walk_at "my enter"
  intro dp fr gd un g L h₁ tk₁ hg F N X T hd hu hU
  dsimp only at F ⊢
  walk_at "my steps"
  walk_at "my end"
  exact hQ _ _ fun b o e => Fr.keep (by assumption) b o (hg b o e)
/-- the number of a text -/
noncomputable def asI (x : Str) : Nat := if dend (cpl x) (spEnd (cpl x) 0) = spEnd (cpl x) 0 then 0 else numOf (cpl (Txt.slice x (some ((spEnd (cpl x) 0 : Nat) : Int)) (some ((dend (cpl x) (spEnd (cpl x) 0) : Nat) : Int))))
theorem numOf_lt (l : List Nat) : numOf l < 10 ^ l.length := by
  have key : ∀ r : List Nat, numOf r.reverse < 10 ^ r.length := by
    intro r
    induction r with
    | nil => exact Nat.one_pos
    | cons c r ih =>
      rw [List.reverse_cons, numOf_snoc, List.length_cons, Nat.pow_succ]
      by_cases h : isDig c = true
      · rw [if_pos h]
        have : c ≤ 57 := by unfold isDig at h; simp at h; exact h.2
        omega
      · rw [if_neg h]; omega
  have := key l.reverse
  rwa [List.reverse_reverse, List.length_reverse] at this
theorem asint_str {w : World} {p : Program} {loose : List Str} {mean : ExcName → Option Value} {mg mb : Str → Option Value} {A : Around} {h₀ : Heap} {s : Shared} {Q E : Value → Shared → Prop}
  {x : Str} {t : Tok} (H : At w p loose mean mg mb A h₀ s 3) (hz : x.length ≤ 10) (hx : ∀ c ∈ cpl x, c < 128 ∧ c ≠ 43 ∧ c ≠ 45)
  (hQ : ∀ t' h' tk, (∀ b o, s.heap.get? b = some o → h'.get? b = some o) → Q (.int (asI x : Nat) t') { s with heap := h', toks := tk }) :
  wpAny (model prg w) A (call (.ref 170) [.str x t]) Q E s := by
  refine' enter0 H ?k6 ?k7 ?k9 ?kB ?_ ?c2 ?c3 ?c4 ?c5
  walk_at "my enter"
  intro dp fr gd un g L h₁ tk₁ hg F N X T hd hu hU
  dsimp only at F ⊢
  walk_at "my steps"
  rename Fr _ _ _ _ => F2
  rename News _ _ _ _ => N2
  refine span_ok (At.of F2 X T rfl hd hu (by decide)) (by omega) hx (fun q h' tk up => ?_) (fun q h' tk d ta tb n up hn ho => ?_)
  · obtain ⟨F3, N3⟩ := news_up F2 N2 up
    clear F2 N2 up
    walk_at "my steps"
    walk_at "my end"
    rename Fr _ _ _ _ => F4
    have e0 : asI x = 0 := by unfold asI; rw [if_pos q]
    rw [e0] at hQ
    exact hQ _ _ _ fun b o e => F4.keep b o (hg b o e)
  · obtain ⟨F3, N3, off⟩ := nulls_led F2 N2 up hn ho
    clear F2 N2 up hn ho
    walk_at "my steps"
    rename (Txt.slice _ _ _).length ≤ _ => hl
    rename Fr _ _ _ _ => F4
    rename News _ _ _ _ => N4
    have hb := numOf_lt (cpl (Txt.slice x (some ((spEnd (cpl x) 0 : Nat) : Int)) (some ((dend (cpl x) (spEnd (cpl x) 0) : Nat) : Int))))
    have e0 : asI x = numOf (cpl (Txt.slice x (some ((spEnd (cpl x) 0 : Nat) : Int)) (some ((dend (cpl x) (spEnd (cpl x) 0) : Nat) : Int)))) := by unfold asI; rw [if_neg q]
    refine numberof_ok (At.of F4 X T rfl hd hu (by decide)) (by omega) (fun c hc => ⟨(hx c (slice_mem hc)).1, (hx c (slice_mem hc)).2.2⟩) fun t' h' tk up => ?_
    obtain ⟨F5, N5⟩ := news_up F4 N4 up
    clear F4 N4 up
    rw [← e0] at hb ⊢
    have hp : 10 ^ (cpl (Txt.slice x (some ((spEnd (cpl x) 0 : Nat) : Int)) (some ((dend (cpl x) (spEnd (cpl x) 0) : Nat) : Int)))).length ≤ 10 ^ 10 := Nat.pow_le_pow_right (by decide) (by rw [← length_cpl]; omega)
    clear e0
    generalize asI x = z at *
    walk_at "my steps"
    walk_at "my end"
    have z1 : (z : Int) < 9223372036854775807 := by omega
    have z2 : (z : Int) > -9223372036854775808 := by omega
    rw [if_pos z1, if_pos z2]
    rename Fr _ _ _ _ => F6
    exact hQ _ _ _ fun b o e => F6.keep b o (hg b o e)
/-! plain laws -/
theorem takeW_stop {c : Nat} : ∀ {p : List Nat} {r : List Nat}, c ∉ p → (p ++ c :: r).takeWhile (fun k => decide (k ≠ c)) = p
  | [], r, _ => by simp
  | a :: p, r, h => by
    have h1 : a ≠ c := fun e => h (e ▸ List.mem_cons_self ..)
    have h2 : c ∉ p := fun m => h (List.mem_cons_of_mem _ m)
    rw [List.cons_append, List.takeWhile_cons, if_pos (by simpa using h1), takeW_stop h2]
theorem takeW_all {c : Nat} : ∀ {p : List Nat}, c ∉ p → p.takeWhile (fun k => decide (k ≠ c)) = p
  | [], _ => rfl
  | a :: p, h => by
    have h1 : a ≠ c := fun e => h (e ▸ List.mem_cons_self ..)
    have h2 : c ∉ p := fun m => h (List.mem_cons_of_mem _ m)
    rw [List.takeWhile_cons, if_pos (by simpa using h1), takeW_all h2]
/-- the first piece of a split by one sign -/
theorem split_head (x : Str) (c : Nat) : cpl ((Txt.split x ⟨#[c]⟩).headD Str.empty) = (cpl x).takeWhile (fun k => decide (k ≠ c)) := by
  have hj := StrLaws.join_split x ⟨#[c]⟩
  have hf := StrLaws.split_free x c
  cases h : Txt.split x ⟨#[c]⟩ with
  | nil =>
    rw [h] at hj
    have : x = Str.empty := hj.symm
    subst this; rfl
  | cons p r =>
    rw [h] at hj hf
    have hp := hf p (List.mem_cons_self ..)
    show cpl p = _
    cases r with
    | nil =>
      have : p = x := hj
      subst this
      exact (takeW_all hp).symm
    | cons q r =>
      have e : p ++ ⟨#[c]⟩ ++ Str.join ⟨#[c]⟩ (q :: r) = x := hj
      rw [← e, cpl_append, cpl_append, List.append_assoc]
      exact (takeW_stop hp).symm
/-- the first place of a sign, or the end -/
theorem takeW_len {c : Nat} {l : List Nat} {k : Nat} (h1 : ∀ j < k, l[j]? ≠ some c) (h2 : l[k]? = some c ∨ k = l.length) : (l.takeWhile (fun k => decide (k ≠ c))).length = k := by
  have hk : k ≤ l.length := by
    rcases h2 with h2 | h2
    · exact Nat.le_of_lt (List.getElem?_eq_some_iff.mp h2).1
    · exact Nat.le_of_eq h2
  have hp : c ∉ l.take k := fun m => by
    obtain ⟨j, hj⟩ := List.getElem?_of_mem m
    have hlt : j < k := by
      have := (List.getElem?_eq_some_iff.mp hj).1
      simp at this; omega
    rw [List.getElem?_take_of_lt hlt] at hj
    exact h1 j hlt hj
  have hl : (l.take k).length = k := by rw [List.length_take]; omega
  rcases h2 with h2 | h2
  · obtain ⟨hlt, e⟩ := List.getElem?_eq_some_iff.mp h2
    have e2 : l = l.take k ++ c :: l.drop (k + 1) := by
      conv => lhs; rw [← List.take_append_drop k l, List.drop_eq_getElem_cons hlt, e]
    rw [e2, takeW_stop hp, hl]
  · have e2 : l.take k = l := List.take_of_length_le (by omega)
    rw [e2] at hp
    rw [takeW_all hp, h2]

/-- replacing from the left, as a relation -/
inductive Scan (Y Z : List Nat) : List Nat → List Nat → Prop
  | nil : Scan Y Z [] []
  | hit {l r : List Nat} (h : l.take Y.length = Y) (hr : Scan Y Z (l.drop Y.length) r) : Scan Y Z l (Z ++ r)
  | miss {c : Nat} {l r : List Nat} (h : (c :: l).take Y.length ≠ Y) (hr : Scan Y Z l r) : Scan Y Z (c :: l) (c :: r)
theorem Scan.det {Y Z : List Nat} (hy : Y ≠ []) {l r : List Nat} (h : Scan Y Z l r) : ∀ {r'}, Scan Y Z l r' → r = r' := by
  have ne : ∀ {l : List Nat}, l.take Y.length = Y → l ≠ [] := fun {l} e q => by subst q; rw [List.take_nil] at e; exact hy e.symm
  induction h with
  | nil =>
    intro r' h'
    cases h' with
    | nil => rfl
    | hit h hr => exact absurd rfl (ne h)
  | hit h hr ih =>
    intro r' h'
    cases h' with
    | nil => exact absurd rfl (ne h)
    | hit h' hr' => rw [ih hr']
    | miss h' hr' => exact absurd h h'
  | miss h hr ih =>
    intro r' h'
    cases h' with
    | hit h' hr' => exact absurd h' h
    | miss h' hr' => rw [ih hr']
theorem scan_misses {Y Z X : List Nat} : ∀ (d a : Nat) {r : List Nat}, a + d ≤ X.length → (∀ k, a ≤ k → k < a + d → (X.drop k).take Y.length ≠ Y) → Scan Y Z (X.drop (a + d)) r → Scan Y Z (X.drop a) ((X.drop a).take d ++ r)
  | 0, a, r, _, _, h => by simpa using h
  | d + 1, a, r, hl, hn, h => by
    have ha : a < X.length := by omega
    have h' : Scan Y Z (X.drop (a + 1 + d)) r := by rw [show a + 1 + d = a + (d + 1) by omega]; exact h
    have ih := scan_misses d (a + 1) (r := r) (by omega) (fun k h1 h2 => hn k (by omega) (by omega)) h'
    have hm := hn a (Nat.le_refl _) (by omega)
    rw [List.drop_eq_getElem_cons ha] at hm ⊢
    rw [List.take_succ_cons, List.cons_append]
    exact .miss hm ih
theorem at_iff {x y : Str} {k : Nat} : StrLaws.At x y x.length k ↔ (k + (cpl y).length ≤ (cpl x).length ∧ ((cpl x).drop k).take (cpl y).length = cpl y) := by
  unfold StrLaws.At
  rw [StrLaws.subAt_eq]
  show (k + (cpl y).length ≤ (cpl x).length ∧ (((cpl x).drop k).take (cpl y).length == cpl y) = true) ↔ _
  rw [beq_iff_eq]
theorem not_at {x y : Str} {k : Nat} (h : ¬ StrLaws.At x y x.length k) (hy : 1 ≤ (cpl y).length) : ((cpl x).drop k).take (cpl y).length ≠ cpl y := fun e => by
  refine h (at_iff.mpr ⟨?_, e⟩)
  have := congrArg List.length e
  rw [List.length_take, List.length_drop] at this
  omega
theorem cpl_strSub (x : Str) (a c : Nat) : cpl (Builtin.Str.strSub x a c) = ((cpl x).drop a).take (c - a) := StrLaws.strSub_toList x a c
theorem scan_chain {x y z : Str} (hy : 1 ≤ (cpl y).length) : ∀ (cuts : List Nat) (a f : Nat), a ≤ (cpl x).length → StrLaws.ChainG x y x.length a cuts f → (∀ k, f ≤ k → ¬ StrLaws.At x y x.length k) →
    Scan (cpl y) (cpl z) ((cpl x).drop a) (cpl (Str.join z (StrLaws.partsFrom x y.length a cuts)))
  | [], a, f, ha, h, hn => by
    have e : f = a := h
    subst e
    show Scan _ _ _ (cpl (Builtin.Str.strSub x f x.length))
    rw [cpl_strSub]
    have := scan_misses (Y := cpl y) (Z := cpl z) (X := cpl x) ((cpl x).length - f) f (r := []) (by omega) (fun k h1 _ => not_at (hn k h1) hy) (by rw [List.drop_eq_nil_of_le (by omega)]; exact .nil)
    rw [List.append_nil] at this
    exact this
  | c :: r, a, f, ha, h, hn => by
    obtain ⟨p, q, e⟩ := StrLaws.partsFrom_ne x y.length (c + y.length) r
    have hc := at_iff.mp h.2.1
    have ih := scan_chain (z := z) hy r (c + y.length) f hc.1 h.2.2.2 hn
    show Scan _ _ _ (cpl (Str.join z (Builtin.Str.strSub x a c :: StrLaws.partsFrom x y.length (c + y.length) r)))
    rw [e] at ih ⊢
    show Scan _ _ _ (cpl (Builtin.Str.strSub x a c ++ z ++ Str.join z (p :: q)))
    rw [cpl_append, cpl_append, cpl_strSub, List.append_assoc]
    have hac := h.1
    refine scan_misses (c - a) a (by omega) (fun k h1 h2 => not_at (h.2.2.1 k h1 (by omega)) hy) ?_
    rw [show a + (c - a) = c by omega]
    refine .hit hc.2 ?_
    rw [List.drop_drop]
    exact ih
theorem scan_split {x y z : Str} (hy : 1 ≤ (cpl y).length) : Scan (cpl y) (cpl z) (cpl x) (cpl (Txt.join z (Txt.split x y))) := by
  show Scan _ _ _ (cpl (Builtin.Str.glued z (Txt.split x y)))
  rw [StrLaws.glued_eq_join]
  obtain ⟨f, hG, hn⟩ := StrLaws.occ_tight x y hy
  have key := scan_chain (z := z) hy _ 0 f (Nat.zero_le _) hG hn
  rw [List.drop_zero] at key
  have one : (∀ k, ¬ StrLaws.At x y x.length k) → Scan (cpl y) (cpl z) (cpl x) (cpl (Str.join z [x])) := fun h0 => by
    have := scan_misses (Y := cpl y) (Z := cpl z) (X := cpl x) (cpl x).length 0 (r := []) (by omega) (fun k _ _ => not_at (h0 k) hy) (by rw [List.drop_eq_nil_of_le (by omega)]; exact .nil)
    rw [List.drop_zero, List.append_nil, List.take_of_length_le (Nat.le_refl _)] at this
    exact this
  unfold Txt.split
  split
  · rename_i hc
    refine one fun k hA => ?_
    rw [Bool.or_eq_true, decide_eq_true_eq, decide_eq_true_eq] at hc
    rcases hc with h | h
    · have := hA.1; omega
    · have h2 := (at_iff.mp hA).2
      have sub : ∀ c ∈ cpl y, c ∈ cpl x := fun c hc => by rw [← h2] at hc; exact List.mem_of_mem_drop (List.mem_of_mem_take hc)
      have kind : ∀ B : Nat, x.cps.all (· < B) = true → y.cps.all (· < B) = true := fun B hB => by
        rw [← Array.all_toList] at hB ⊢
        exact List.all_eq_true.mpr fun c hc => List.all_eq_true.mp hB c (sub c hc)
      unfold Builtin.Str.strKind at h
      by_cases a1 : x.cps.all (· < 256) = true
      · rw [if_pos a1, if_pos (kind 256 a1)] at h; omega
      · rw [if_neg a1] at h
        by_cases a2 : x.cps.all (· < 65536) = true
        · rw [if_pos a2] at h
          rw [if_pos (kind 65536 a2)] at h
          split at h <;> omega
        · rw [if_neg a2] at h
          split at h
          · omega
          · split at h <;> omega
  · split
    · rename_i he
      have e0 : Builtin.Str.occurrences x y 0 x.length (x.length + 1) = [] := List.isEmpty_iff.mp he
      rw [e0] at hG
      have ef : f = 0 := hG
      subst ef
      exact one fun k => hn k (Nat.zero_le _)
    · rw [StrLaws.partsBetween_eq]
      exact key
/-- the scan of the law's own text: what is found, and the rest -/
theorem Scan.len {Y Z : List Nat} (hy : 1 ≤ Y.length) {l r : List Nat} (h : Scan Y Z l r) : r.length ≤ l.length * (1 + Z.length) := by
  induction h with
  | nil => simp
  | @hit l r h hr ih =>
    rw [List.length_append]
    rw [List.length_drop] at ih
    have hl : 1 ≤ l.length := by
      have := congrArg List.length h
      rw [List.length_take] at this; omega
    have e : l.length * (1 + Z.length) = (l.length - 1) * (1 + Z.length) + (1 + Z.length) := by
      obtain ⟨k, hk⟩ : ∃ k, l.length = k + 1 := ⟨l.length - 1, by omega⟩
      rw [hk, Nat.add_sub_cancel, Nat.succ_mul]
    have : (l.length - Y.length) * (1 + Z.length) ≤ (l.length - 1) * (1 + Z.length) := Nat.mul_le_mul_right _ (by omega)
    omega
  | @miss c l r h hr ih =>
    rw [List.length_cons, List.length_cons, Nat.succ_mul]; omega
section
open Builtin Builtin._codecs
theorem two_turns {σ : Type} {n : Nat} {a b : σ} {f : Nat → σ → Sem (ForInStep σ)} (h1 : 1 ≤ n → f 0 a = pure (.yield b)) (h2 : 2 ≤ n → f 1 b = pure (.done b)) : (forIn [:n] a f : Sem σ) = pure (if n = 0 then a else b) := by
  rw [Std.Legacy.Range.forIn_eq_forIn_range']
  show (forIn (List.range' 0 _ 1) a f : Sem σ) = _
  have e : ([:n] : Std.Legacy.Range).size = n := by simp [Std.Legacy.Range.size]
  rw [e]
  match n, h1, h2 with
  | 0, _, _ => rfl
  | 1, h1, _ =>
    rw [List.range'_succ, List.forIn_cons, h1 (Nat.le_refl _)]; rfl
  | n + 2, h1, h2 =>
    rw [List.range'_succ, List.forIn_cons, h1 (by omega)]
    show (forIn (List.range' 1 (n + 1) 1) b f : Sem σ) = _
    rw [List.range'_succ, List.forIn_cons, h2 (by omega)]
    rfl
theorem narrow_utf8 (id : String) (self : Value) (x : Str) (hs : ∀ c ∈ cpl x, Str.isSurrogate c = false) (hz : x.cps.size ≤ 1000) : encodeNarrow id utf8Codec none self x = pure (utf8s x) := by
  unfold encodeNarrow
  dsimp only
  refine Eq.trans (congrArg (fun t => t >>= _) (two_turns (b := (x.length, utf8s x, ({} : Faults))) ?h1 ?h2)) ?_
  case h1 =>
    intro hn
    obtain ⟨c0, h0⟩ : ∃ c0, x.cps[0]? = some c0 := ⟨_, Array.getElem?_eq_getElem hn⟩
    have hb : (!utf8Codec.bad c0) = true := by rw [show utf8Codec.bad c0 = false from hs c0 (by show _ ∈ x.cps.toList; simpa using Array.mem_of_getElem? h0)]; rfl
    have hall : ∀ c ∈ x.cps, Str.isSurrogate c = false := fun c hc => hs c (by show _ ∈ x.cps.toList; simpa using hc)
    have he : x.cps.extract 0 x.cps.size = x.cps := by simp
    have hf : Array.findIdx? utf8Codec.bad x.cps = none := Array.findIdx?_eq_none_iff.mpr hall
    dsimp only
    rw [if_neg (by simp), h0]
    dsimp only
    refine (if_pos hb).trans ?_
    rw [he, hf]
    dsimp only [Option.getD_none]
    rw [he, Nat.zero_add]
    rfl
  case h2 =>
    intro hn
    have h1 : x.cps[x.length]? = none := Array.getElem?_eq_none (Nat.le_refl _)
    have hu : (utf8s x).size ≤ 4 * x.cps.size := by rw [← pre8_all]; exact pre8_size (Nat.le_refl _)
    have hsl := sizeLine_eq
    dsimp only
    rw [if_neg (by omega), h1]
  by_cases hn : x.length = 0
  · rw [if_pos hn]
    have hx : x.cps = #[] := Array.eq_empty_of_size_eq_zero hn
    show (pure (#[] : Array UInt8) : Sem (Array UInt8)) = _
    unfold utf8s
    rw [hx]; rfl
  · rw [if_neg hn]; rfl
end
/-- the sign of a number -/
noncomputable def signCode (z : Int) : Nat := if 0 ≤ z ∧ z ≤ 1114111 ∧ ¬ (55296 ≤ z ∧ z < 57344) then z.toNat else 65533
/-- an argument of char, and its sign -/
inductive Numb : Value → Nat → Prop
  | none : Numb .none 0
  | int {z : Int} {t : Tok} (h1 : -(2 ^ 64) < z) (h2 : z < 2 ^ 64) : Numb (.int z t) (signCode z)
  | str {x : Str} {t : Tok} (hz : x.length ≤ 10) (hx : ∀ c ∈ cpl x, c < 128 ∧ c ≠ 43 ∧ c ≠ 45) : Numb (.str x t) (signCode (asI x : Nat))
/-- the arguments of char, and their signs -/
inductive Numbs : List Value → List Nat → Prop
  | nil : Numbs [] []
  | cons {v : Value} {c : Nat} {vs : List Value} {cs : List Nat} (h : Numb v c) (r : Numbs vs cs) : Numbs (v :: vs) (c :: cs)
theorem Numbs.len : ∀ {vs : List Value} {cs : List Nat}, Numbs vs cs → vs.length = cs.length
  | _, _, .nil => rfl
  | _, _, .cons _ r => by rw [List.length_cons, List.length_cons, r.len]
theorem Numbs.at : ∀ {vs : List Value} {cs : List Nat} {i : Nat} {v : Value}, Numbs vs cs → vs[i]? = some v → ∃ c, cs[i]? = some c ∧ Numb v c
  | _, _, _, _, .nil, h => by simp at h
  | _, _, 0, _, .cons h _, e => ⟨_, rfl, by simpa using (Option.some.inj e) ▸ h⟩
  | _, _, i + 1, _, .cons _ r, e => by
    obtain ⟨c, hc, hn⟩ := r.at (i := i) (by simpa using e)
    exact ⟨c, by simpa using hc, hn⟩
theorem asI_lt {x : Str} (h : x.length ≤ 10) : asI x < 10 ^ 10 := by
  unfold asI
  split
  · decide
  · refine Nat.lt_of_lt_of_le (numOf_lt _) (Nat.pow_le_pow_right (by decide) ?_)
    rw [← length_cpl]
    exact Nat.le_trans (Txt.slice_le _ _ _) h
theorem flat_ones : ∀ l : List Nat, (l.map fun x => [x]).flatten = l
  | [] => rfl
  | x :: r => by rw [List.map_cons, List.flatten_cons, flat_ones r]; rfl
theorem signs_ok {w : World} {p : Program} {loose : List Str} {mean : ExcName → Option Value} {mg mb : Str → Option Value} {A : Around} {h₀ : Heap} {s : Shared} {Q E : Value → Shared → Prop}
  {al : Addr} {vs : List Value} {cs : List Nat} (hl : s.heap.IsList al vs.toArray) (hv : Numbs vs cs) (hz : vs.length ≤ 10) (H : At w p loose mean mg mb A h₀ s 4)
  (hQ : ∀ t' h' tk, (∀ b o, s.heap.get? b = some o → h'.get? b = some o) → Q (.str ⟨cs.toArray⟩ t') { s with heap := h', toks := tk }) :
  wpAny (model prg w) A (call (.ref 327) [.ref al]) Q E s := by
  refine' enter0 H ?k6 ?k7 ?k9 ?kB ?_ ?c2 ?c3 ?c4 ?c5
  walk_at "my enter"
  intro dp fr gd un g L h₁ tk₁ hg F N X T hd hu hU
  dsimp only at F ⊢
  have hlg : g.IsList al vs.toArray := hl.at fun o e => hg al o e
  walk_at "my steps"
  walk_at "my for"
  walk_at "my steps"
  rename Fr _ _ _ _ => F2
  rename News _ _ _ _ => N2
  refine for_listD (σ := List Value × Nat) (vs := vs) (fun D => [D]) (fun D c => [(D, PySem.W.listOf c.1.toArray c.2)]) (fun D c => [(Str.ofString "found", .ref D), (Str.ofString "arguments", .ref al)])
    (fun i c => StrsAre c.1 ((cs.take i).map fun e => (⟨#[e]⟩ : Str))) ([], 0) hlg rfl rfl (fun _ => rfl) F2 N2 ⟨rfl, rfl, trivial⟩ .nil ?_ ?_
  · rintro i v ⟨us, n⟩ u h tk own hvi hs hoff F3 N3
    dsimp only [kstB, List.cons_append, List.nil_append] at *
    obtain ⟨c, hc, hn⟩ := hv.at hvi
    have hi : i < vs.length := (List.getElem?_eq_some_iff.mp hvi).1
    have hul := strs_len hs
    rw [List.length_map, List.length_take] at hul
    have e1 : (cs.take (i + 1)).map (fun e => (⟨#[e]⟩ : Str)) = (cs.take i).map (fun e => (⟨#[e]⟩ : Str)) ++ [⟨#[c]⟩] := by
      rw [List.take_add_one, List.map_append, hc]; rfl
    cases hn with
    | none =>
      walk_at "my steps"
      rename Fr _ _ _ _ => F4
      rename News _ _ _ _ => N4
      refine tend (us ++ [_], n + 1) F4 N4 (fun _ hq => hq) ⟨rfl, rfl, trivial⟩ ?_
      dsimp only
      rw [e1]
      exact strs_snoc hs
    | @int z tz h1 h2 =>
      walk_at "my steps"
      rename Fr _ _ _ _ => F4
      rename News _ _ _ _ => N4
      refine asint_int (At.of F4 X T rfl hd hu (by decide)) fun h' tk up => ?_
      obtain ⟨F5, N5⟩ := news_up F4 N4 up
      clear F4 N4 up
      walk_at "my steps"
      all_goals rename Fr _ _ _ _ => F6
      all_goals rename News _ _ _ _ => N6
      all_goals refine tend (us ++ [_], n + 1) F6 N6 (fun _ hq => hq) ⟨rfl, rfl, trivial⟩ ?_
      all_goals dsimp only
      all_goals rw [e1]
      all_goals first
        | (rw [show signCode z = Int.toNat z from if_pos ⟨by omega, by omega, by omega⟩]; exact strs_snoc hs)
        | (rw [show signCode z = 65533 from if_neg (by omega)]; exact strs_snoc hs)
    | @str x tx h1 h2 =>
      walk_at "my steps"
      rename Fr _ _ _ _ => F4
      rename News _ _ _ _ => N4
      refine asint_str (At.of F4 X T rfl hd hu (by decide)) h1 h2 fun t' h' tk up => ?_
      obtain ⟨F5, N5⟩ := news_up F4 N4 up
      clear F4 N4 up
      have hb := asI_lt h1
      generalize asI x = z at *
      walk_at "my steps"
      all_goals rename Fr _ _ _ _ => F6
      all_goals rename News _ _ _ _ => N6
      all_goals refine tend (us ++ [_], n + 1) F6 N6 (fun _ hq => hq) ⟨rfl, rfl, trivial⟩ ?_
      all_goals dsimp only
      all_goals rw [e1]
      all_goals first
        | (rw [show signCode (z : Nat) = Int.toNat ((z : Nat) : Int) from if_pos ⟨by omega, by omega, by omega⟩]; exact strs_snoc hs)
        | (rw [show signCode (z : Nat) = 65533 from if_neg (by omega)]; exact strs_snoc hs)
  · rintro ⟨us, n⟩ u h tk hs F3 N3
    dsimp only [kstB] at *
    have hvl := hv.len
    rw [List.take_of_length_le (by omega)] at hs
    have hul := strs_len hs
    rw [List.length_map] at hul
    walk_at "my steps"
    have e0 : (Str.ofString "").length = 0 := rfl
    have hl1 : ((cs.map fun e => (⟨#[e]⟩ : Str)).map (·.length)).sum = cs.length := by
      rw [List.map_map]
      exact sum_ones cs
    refine join_news N3 (.head _) hs (by rw [hl1, e0]; omega) fun t' k' => ?_
    walk_at "my end"
    have e : Txt.join (Str.ofString "") (cs.map fun e => (⟨#[e]⟩ : Str)) = ⟨cs.toArray⟩ := by
      refine cpl_ext ?_
      rw [cpl_join0 rfl, List.map_map]
      exact flat_ones cs
    rw [e]
    exact hQ _ _ _ fun b o q => F3.keep b o (hg b o q)
theorem nulls_char {w : World} {p : Program} {loose : List Str} {mean : ExcName → Option Value} {mg mb : Str → Option Value} {A : Around} {h₀ : Heap} {s : Shared} {Q E : Value → Shared → Prop}
  {al : Addr} {vs : List Value} {cs : List Nat} {tw tb : Tok} {cn : Value} (hl : s.heap.IsList al vs.toArray) (hv : Numbs vs cs) (hz : vs.length ≤ 10) (H : At w p loose mean mg mb A h₀ s 5)
  (hQ : ∀ t' h' tk d n, (∀ b o, s.heap.get? b = some o → h'.get? b = some o) → s.heap.get? d = none → h'.get? d = some { cls := .type "tuple", data := .seq #[.bool true, .str ⟨cs.toArray⟩ t'] n } → Q (.ref d) { s with heap := h', toks := tk }) :
  wpAny (model prg w) A (call (.ref 353) [.str "char" tw, .ref al, .str "binary" tb, cn]) Q E s := by
  refine' enter0 H ?k6 ?k7 ?k9 ?kB ?_ ?c2 ?c3 ?c4 ?c5
  walk_at "my enter"
  intro dp fr gd un g L h₁ tk₁ hg F N X T hd hu hU
  dsimp only at F ⊢
  have hlg : g.IsList al vs.toArray := hl.at fun o e => hg al o e
  walk_at "my steps"
  rename Fr _ _ _ _ => F4
  rename News _ _ _ _ => N4
  refine signs_ok (hlg.at fun o e => F4.keep al o e) hv hz (At.of F4 X T rfl hd hu (by decide)) fun t' h' tk up => ?_
  obtain ⟨F5, N5⟩ := news_up F4 N4 up
  clear F4 N4 up
  walk_at "my steps"
  walk_at "my end"
  rename News _ _ _ _ => N'
  have hn := (N' _ (.head _)).2.2
  refine hQ _ _ _ _ _ (fun b o e => Fr.keep (by assumption) b o (hg b o e)) ?_ (N' _ (.head _)).1
  cases q : s.heap.get? _ with
  | none => rfl
  | some o => have := hg _ _ q; rw [hn] at this; cases this
theorem cf_char {w : World} {p : Program} {loose : List Str} {mean : ExcName → Option Value} {mg mb : Str → Option Value} {A : Around} {h₀ : Heap} {s : Shared} {Q E : Value → Shared → Prop}
  {al : Addr} {vs : List Value} {cs : List Nat} {tn tb : Tok} (hl : s.heap.IsList al vs.toArray) (hv : Numbs vs cs) (hz : vs.length ≤ 10) (H : At w p loose mean mg mb A h₀ s 6)
  (hQ : ∀ t' h' tk, (∀ b o, s.heap.get? b = some o → h'.get? b = some o) → Q (.str ⟨cs.toArray⟩ t') { s with heap := h', toks := tk }) :
  wpAny (model prg w) A (call (.ref 360) [.str "char" tn, .ref al, .str "binary" tb, .none]) Q E s := by
  refine' enter0 H ?k6 ?k7 ?k9 ?kB ?_ ?c2 ?c3 ?c4 ?c5
  walk_at "my enter"
  intro dp fr gd un g L h₁ tk₁ hg F N X T hd hu hU
  dsimp only at F ⊢
  have hlg : g.IsList al vs.toArray := hl.at fun o e => hg al o e
  walk_at "my steps"
  rename Fr _ _ _ _ => F4
  rename News _ _ _ _ => N4
  refine nulls_char (hlg.at fun o e => F4.keep al o e) hv hz (At.of F4 X T rfl hd hu (by decide)) fun t' h' tk d n up hn ho => ?_
  obtain ⟨F5, N5, off⟩ := nulls_led F4 N4 up hn ho
  clear F4 N4 up hn ho
  walk_at "my steps"
  walk_at "my end"
  exact hQ _ _ _ fun b o e => Fr.keep (by assumption) b o (hg b o e)
theorem lc_char {w : World} {p : Program} {loose : List Str} {mean : ExcName → Option Value} {mg mb : Str → Option Value} {A : Around} {h₀ : Heap} {s : Shared} {Q E : Value → Shared → Prop}
  {al : Addr} {vs : List Value} {cs : List Nat} {tn : Tok} (hl : s.heap.IsList al vs.toArray) (hv : Numbs vs cs) (hz : vs.length ≤ 10) (H : At w p loose mean mg mb A h₀ s 7)
  (hQ : ∀ t' h' tk, (∀ b o, s.heap.get? b = some o → h'.get? b = some o) → Q (.str ⟨cs.toArray⟩ t') { s with heap := h', toks := tk }) :
  wpAny (model prg w) A (call (.ref 395) [.str "char" tn, .ref al]) Q E s := by
  refine' enter0 H ?k6 ?k7 ?k9 ?kB ?_ ?c2 ?c3 ?c4 ?c5
  walk_at "my enter"
  intro dp fr gd un g L h₁ tk₁ hg F N X T hd hu hU
  dsimp only at F ⊢
  have hlg : g.IsList al vs.toArray := hl.at fun o e => hg al o e
  walk_at "my steps"
  rename Fr _ _ _ _ => F5
  refine cf_char (hlg.at fun o e => F5.keep al o e) hv hz (At.of F5 X T rfl hd hu (by decide)) fun t' h' tk up => ?_
  walk_at "my end"
  exact hQ _ _ _ fun b o e => up b o (F5.keep b o (hg b o e))
/-- a value and its text -/
inductive Texty : Value → Str → Prop
  | str {x : Str} {t : Tok} (hz : x.length ≤ 40) : Texty (.str x t) x
  | int {z : Int} {t : Tok} (hz : z.natAbs < 10 ^ 30) : Texty (.int z t) (Str.ofString (toString z))
  | bytes {b : Array UInt8} {t : Tok} (hb : ∀ i (h : i < b.size), b[i].toNat < 128) (hz : b.size ≤ 40) : Texty (.bytes b t) (signsOf b)
theorem astext_any {w : World} {p : Program} {loose : List Str} {mean : ExcName → Option Value} {mg mb : Str → Option Value} {A : Around} {h₀ : Heap} {s : Shared} {Q E : Value → Shared → Prop}
  {v : Value} {x : Str} (hv : Texty v x) (H : At w p loose mean mg mb A h₀ s 3)
  (hQ : ∀ t' h' tk, (∀ b o, s.heap.get? b = some o → h'.get? b = some o) → Q (.str x t') { s with heap := h', toks := tk }) :
  wpAny (model prg w) A (call (.ref 177) [v]) Q E s := by
  have H1 : At w p loose mean mg mb A h₀ s 1 := ⟨H.X, H.T, H.keep, H.handled, Nat.lt_of_le_of_lt (Nat.add_le_add_left (by decide) _) H.depth, Nat.le_trans (Nat.add_le_add_left (by decide) _) H.units⟩
  cases hv with
  | str hz => exact astext_str H1 fun h' tk up => hQ _ h' tk up
  | int hz => exact astext_int H1 hz hQ
  | bytes hb hz => exact astext_bytes H hb (by omega) hQ
local macro_rules | `(tactic| walk_at "call ref") => `(tactic| (k_here; (with_reducible show wpAny _ _ (call (Value.ref 177) [_]) _ _ _); (refine' astext_any ?hv (At.of ?F ?X ?T ?hh ?hd ?hu ?hk) ?_; (case hv => assumption); (case F => k_asm); (case X => k_asm); (case T => assumption); (case hh => exact rfl); (case hd => assumption); (case hu => assumption); (case hk => decide); k_whole); intro t' h' tk' up'; walk_at "my calm"))
theorem join_len (y : Str) : ∀ {parts : List Str}, parts ≠ [] → (Str.join y parts).length + y.length = (parts.map (·.length)).sum + parts.length * y.length
  | [], h => absurd rfl h
  | [x], _ => by
    show x.length + y.length = _
    simp
  | x :: z :: r, _ => by
    have h := join_len y (parts := z :: r) (by simp)
    show (x ++ y ++ Str.join y (z :: r)).length + y.length = _
    rw [Str.length_append, Str.length_append]
    simp only [List.map_cons, List.sum_cons, List.length_cons, Nat.succ_mul] at h ⊢
    omega
theorem split_sizes {x y : Str} (hy : 1 ≤ y.length) : ((Txt.split x y).map (·.length)).sum ≤ x.length ∧ (Txt.split x y).length ≤ x.length + 1 := by
  by_cases h : Txt.split x y = []
  · rw [h]; simp
  · have k := join_len y h
    rw [StrLaws.join_split] at k
    obtain ⟨n, hn⟩ : ∃ n, (Txt.split x y).length = n + 1 := ⟨(Txt.split x y).length - 1, by have := List.length_pos_iff.mpr h; omega⟩
    rw [hn, Nat.succ_mul] at k
    have := Nat.le_mul_of_pos_right n hy
    omega
theorem small_mul {a b : Int} (ha : a.natAbs ≤ 50) (hb : b.natAbs ≤ 50) : (a * b).natAbs ≤ 2500 := by
  rw [Int.natAbs_mul]
  exact Nat.mul_le_mul ha hb
theorem replaced_ok {w : World} {p : Program} {loose : List Str} {mean : ExcName → Option Value} {mg mb : Str → Option Value} {A : Around} {h₀ : Heap} {s : Shared} {Q E : Value → Shared → Prop}
  {al : Addr} {v1 v2 v3 : Value} {x y z : Str} (hl : s.heap.IsList al #[v1, v2, v3]) (h1 : Texty v1 x) (h2 : Texty v2 y) (h3 : Texty v3 z) (hx : x.length ≤ 40) (hy : y.length ≤ 40) (hz : z.length ≤ 40) (H : At w p loose mean mg mb A h₀ s 4)
  (h0 : y = Str.ofString "" → ∀ h' tk, (∀ b o, s.heap.get? b = some o → h'.get? b = some o) → Q v1 { s with heap := h', toks := tk })
  (hQ : y ≠ Str.ofString "" → ∀ t' h' tk, (∀ b o, s.heap.get? b = some o → h'.get? b = some o) → Q (.str (Txt.join z (Txt.split x y)) t') { s with heap := h', toks := tk }) :
  wpAny (model prg w) A (call (.ref 313) [.ref al]) Q E s := by
  refine' enter0 H ?k6 ?k7 ?k9 ?kB ?_ ?c2 ?c3 ?c4 ?c5
  walk_at "my enter"
  intro dp fr gd un g L h₁ tk₁ hg F N X T hd hu hU
  dsimp only at F ⊢
  have hlg : g.IsList al #[v1, v2, v3] := hl.at fun o e => hg al o e
  k_steps
  · rename (y == Str.ofString "") = true => q
    walk_at "my end"
    rename Fr _ _ _ _ => F6
    exact h0 (by simpa using q) _ _ fun b o e => F6.keep b o (hg b o e)
  · rename (y == Str.ofString "") = false => q
    have hy0 : y ≠ Str.ofString "" := by simpa using q
    have hyl : 1 ≤ y.length := by
      rcases Nat.eq_zero_or_pos y.length with e | e
      · exact absurd (Str.ext' (Array.eq_empty_of_size_eq_zero e) : y = Str.ofString "") hy0
      · exact e
    obtain ⟨z1, z2⟩ := split_sizes (x := x) hyl
    rename Fr _ _ _ _ => F4
    rename News _ _ _ _ => N4
    refine KSpl.split1 F4 N4 (beq_eq_false_iff_ne.mpr (by omega)) (fun D l h' k e hs F' N' lt => ?_) (by rw [sizeLine_eq]; omega)
    rw [e] at hs
    have hsl := strs_len hs
    clear F4 N4
    k_steps
    · exfalso
      rename (100000 : Int) < _ => big
      have k := small_mul (a := ((Txt.split x y).length : Int) - 1) (b := (z.length : Int) - (y.length : Int)) (by omega) (by omega)
      omega
    · rename Fr _ _ _ _ => F6
      rename News _ _ _ _ => N6
      refine join_news N6 (.head _) (e ▸ strsAre_of_values l) ?_ fun t' k' => ?_
      · have : (Txt.split x y).length * z.length ≤ 41 * 40 := Nat.mul_le_mul (by omega) hz
        omega
      walk_at "my end"
      exact hQ hy0 _ _ _ fun b o e => F6.keep b o (hg b o e)
theorem ontexts_replace {w : World} {p : Program} {loose : List Str} {mean : ExcName → Option Value} {mg mb : Str → Option Value} {A : Around} {h₀ : Heap} {s : Shared} {Q E : Value → Shared → Prop}
  {al : Addr} {v1 v2 v3 : Value} {x y z : Str} {tw : Tok} (hl : s.heap.IsList al #[v1, v2, v3]) (h1 : Texty v1 x) (h2 : Texty v2 y) (h3 : Texty v3 z) (hx : x.length ≤ 40) (hy : y.length ≤ 40) (hz : z.length ≤ 40) (H : At w p loose mean mg mb A h₀ s 5)
  (h0 : y = Str.ofString "" → ∀ h' tk, (∀ b o, s.heap.get? b = some o → h'.get? b = some o) → Q v1 { s with heap := h', toks := tk })
  (hQ : y ≠ Str.ofString "" → ∀ t' h' tk, (∀ b o, s.heap.get? b = some o → h'.get? b = some o) → Q (.str (Txt.join z (Txt.split x y)) t') { s with heap := h', toks := tk }) :
  wpAny (model prg w) A (call (.ref 367) [.str "replace" tw, .ref al]) Q E s := by
  refine' enter0 H ?k6 ?k7 ?k9 ?kB ?_ ?c2 ?c3 ?c4 ?c5
  walk_at "my enter"
  intro dp fr gd un g L h₁ tk₁ hg F N X T hd hu hU
  dsimp only at F ⊢
  have hlg : g.IsList al #[v1, v2, v3] := hl.at fun o e => hg al o e
  walk_at "my steps"
  rename Fr _ _ _ _ => F5
  refine replaced_ok (hlg.at fun o e => F5.keep al o e) h1 h2 h3 hx hy hz (At.of F5 X T rfl hd hu (by decide)) (fun q h' tk up => ?_) (fun q t' h' tk up => ?_)
  · walk_at "my end"
    exact h0 q _ _ fun b o e => up b o (F5.keep b o (hg b o e))
  · walk_at "my end"
    exact hQ q _ _ _ fun b o e => up b o (F5.keep b o (hg b o e))
theorem cf_replace {w : World} {p : Program} {loose : List Str} {mean : ExcName → Option Value} {mg mb : Str → Option Value} {A : Around} {h₀ : Heap} {s : Shared} {Q E : Value → Shared → Prop}
  {al : Addr} {v1 v2 v3 : Value} {x y z : Str} {tn tb : Tok} (hl : s.heap.IsList al #[v1, v2, v3]) (h1 : Texty v1 x) (h2 : Texty v2 y) (h3 : Texty v3 z) (hx : x.length ≤ 40) (hy : y.length ≤ 40) (hz : z.length ≤ 40) (H : At w p loose mean mg mb A h₀ s 6)
  (h0 : y = Str.ofString "" → ∀ h' tk, (∀ b o, s.heap.get? b = some o → h'.get? b = some o) → Q v1 { s with heap := h', toks := tk })
  (hQ : y ≠ Str.ofString "" → ∀ t' h' tk, (∀ b o, s.heap.get? b = some o → h'.get? b = some o) → Q (.str (Txt.join z (Txt.split x y)) t') { s with heap := h', toks := tk }) :
  wpAny (model prg w) A (call (.ref 360) [.str "replace" tn, .ref al, .str "binary" tb, .none]) Q E s := by
  refine' enter0 H ?k6 ?k7 ?k9 ?kB ?_ ?c2 ?c3 ?c4 ?c5
  walk_at "my enter"
  intro dp fr gd un g L h₁ tk₁ hg F N X T hd hu hU
  dsimp only at F ⊢
  have hlg : g.IsList al #[v1, v2, v3] := hl.at fun o e => hg al o e
  walk_at "my steps"
  walk_at "my for"
  walk_at "my steps"
  rename Fr _ _ _ _ => F2
  rename News _ _ _ _ => N2
  refine for_list (vs := [v1, v2, v3]) [] (fun _ : Unit => []) (fun _ => [("word", .str "replace" _), ("arguments", .ref al)]) (fun _ _ => True) () hlg rfl rfl (fun _ => rfl) F2 (fun q hq => nomatch hq) ⟨rfl, rfl, trivial⟩ trivial ?_ ?_
  · rintro i v c u h tk own hv hc hoff F3 N3
    dsimp only [kstB, List.nil_append] at *
    obtain ⟨x', hx'⟩ : ∃ x', Texty v x' := by
      match i, hv with
      | 0, hv => exact ⟨_, (Option.some.inj hv) ▸ h1⟩
      | 1, hv => exact ⟨_, (Option.some.inj hv) ▸ h2⟩
      | 2, hv => exact ⟨_, (Option.some.inj hv) ▸ h3⟩
    cases hx' with
    | str _ => walk_at "my steps"; exact tend () (by assumption) (by assumption) (fun _ hq => hq) ⟨rfl, rfl, trivial⟩ trivial
    | int _ => walk_at "my steps"; exact tend () (by assumption) (by assumption) (fun _ hq => hq) ⟨rfl, rfl, trivial⟩ trivial
    | bytes _ _ => walk_at "my steps"; exact tend () (by assumption) (by assumption) (fun _ hq => hq) ⟨rfl, rfl, trivial⟩ trivial
  · rintro c u h tk hc F3 N3
    dsimp only [kstB] at *
    walk_at "my steps"
    rename Fr _ _ _ _ => F5
    refine ontexts_replace (hlg.at fun o e => F5.keep al o e) h1 h2 h3 hx hy hz (At.of F5 X T rfl hd hu (by decide)) (fun q h' tk up => ?_) (fun q t' h' tk up => ?_)
    · walk_at "my end"
      exact h0 q _ _ fun b o e => up b o (F5.keep b o (hg b o e))
    · walk_at "my end"
      exact hQ q _ _ _ fun b o e => up b o (F5.keep b o (hg b o e))
theorem cf_replace_null {w : World} {p : Program} {loose : List Str} {mean : ExcName → Option Value} {mg mb : Str → Option Value} {A : Around} {h₀ : Heap} {s : Shared} {Q E : Value → Shared → Prop}
  {al : Addr} {vs : List Value} {tn tb : Tok} (hl : s.heap.IsList al vs.toArray) (ha : ∀ v ∈ vs, v = .none ∨ ∃ x, Texty v x) (hn : .none ∈ vs) (H : At w p loose mean mg mb A h₀ s 6)
  (hQ : ∀ h' tk, (∀ b o, s.heap.get? b = some o → h'.get? b = some o) → Q .none { s with heap := h', toks := tk }) :
  wpAny (model prg w) A (call (.ref 360) [.str "replace" tn, .ref al, .str "binary" tb, .none]) Q E s := by
  refine' enter0 H ?k6 ?k7 ?k9 ?kB ?_ ?c2 ?c3 ?c4 ?c5
  walk_at "my enter"
  intro dp fr gd un g L h₁ tk₁ hg F N X T hd hu hU
  dsimp only at F ⊢
  have hlg : g.IsList al vs.toArray := hl.at fun o e => hg al o e
  walk_at "my steps"
  walk_at "my for"
  walk_at "my steps"
  rename Fr _ _ _ _ => F2
  rename News _ _ _ _ => N2
  refine for_list (vs := vs) [] (fun _ : Unit => []) (fun _ => [("word", .str "replace" _), ("arguments", .ref al)]) (fun i _ => ∀ j < i, vs[j]? ≠ some .none) () hlg rfl rfl (fun _ => rfl) F2 (fun q hq => nomatch hq) ⟨rfl, rfl, trivial⟩ (fun j hj => absurd hj (Nat.not_lt_zero _)) ?_ ?_
  · rintro i v c u h tk own hv hc hoff F3 N3
    dsimp only [kstB, List.nil_append] at *
    have next : v ≠ .none → ∀ j < i + 1, vs[j]? ≠ some .none := fun hne j hj => by
      by_cases e : j = i
      · subst e; rw [hv]; exact fun q => hne (Option.some.inj q)
      · exact hc j (by omega)
    rcases ha v (List.mem_of_getElem? hv) with rfl | ⟨x', hx'⟩
    · walk_at "my steps"
      walk_at "my end"
      exact hQ _ _ fun b o e => Fr.keep (by assumption) b o (hg b o e)
    · cases hx' with
      | str _ => walk_at "my steps"; exact tend () (by assumption) (by assumption) (fun _ hq => hq) ⟨rfl, rfl, trivial⟩ (next (by simp))
      | int _ => walk_at "my steps"; exact tend () (by assumption) (by assumption) (fun _ hq => hq) ⟨rfl, rfl, trivial⟩ (next (by simp))
      | bytes _ _ => walk_at "my steps"; exact tend () (by assumption) (by assumption) (fun _ hq => hq) ⟨rfl, rfl, trivial⟩ (next (by simp))
  · rintro c u h tk hc F3 N3
    exfalso
    obtain ⟨j, hj⟩ := List.getElem?_of_mem hn
    exact hc j (List.getElem?_eq_some_iff.mp hj).1 hj
theorem lc_replace {w : World} {p : Program} {loose : List Str} {mean : ExcName → Option Value} {mg mb : Str → Option Value} {A : Around} {h₀ : Heap} {s : Shared} {Q E : Value → Shared → Prop}
  {al : Addr} {v1 v2 v3 : Value} {x y z : Str} {tn : Tok} (hl : s.heap.IsList al #[v1, v2, v3]) (h1 : Texty v1 x) (h2 : Texty v2 y) (h3 : Texty v3 z) (hx : x.length ≤ 40) (hy : y.length ≤ 40) (hz : z.length ≤ 40) (H : At w p loose mean mg mb A h₀ s 7)
  (h0 : y = Str.ofString "" → ∀ h' tk, (∀ b o, s.heap.get? b = some o → h'.get? b = some o) → Q v1 { s with heap := h', toks := tk })
  (hQ : y ≠ Str.ofString "" → ∀ t' h' tk, (∀ b o, s.heap.get? b = some o → h'.get? b = some o) → Q (.str (Txt.join z (Txt.split x y)) t') { s with heap := h', toks := tk }) :
  wpAny (model prg w) A (call (.ref 395) [.str "replace" tn, .ref al]) Q E s := by
  refine' enter0 H ?k6 ?k7 ?k9 ?kB ?_ ?c2 ?c3 ?c4 ?c5
  walk_at "my enter"
  intro dp fr gd un g L h₁ tk₁ hg F N X T hd hu hU
  dsimp only at F ⊢
  have hlg : g.IsList al #[v1, v2, v3] := hl.at fun o e => hg al o e
  walk_at "my steps"
  rename Fr _ _ _ _ => F5
  refine cf_replace (hlg.at fun o e => F5.keep al o e) h1 h2 h3 hx hy hz (At.of F5 X T rfl hd hu (by decide)) (fun q h' tk up => ?_) (fun q t' h' tk up => ?_)
  · walk_at "my end"
    exact h0 q _ _ fun b o e => up b o (F5.keep b o (hg b o e))
  · walk_at "my end"
    exact hQ q _ _ _ fun b o e => up b o (F5.keep b o (hg b o e))
theorem lc_replace_null {w : World} {p : Program} {loose : List Str} {mean : ExcName → Option Value} {mg mb : Str → Option Value} {A : Around} {h₀ : Heap} {s : Shared} {Q E : Value → Shared → Prop}
  {al : Addr} {vs : List Value} {tn : Tok} (hl : s.heap.IsList al vs.toArray) (ha : ∀ v ∈ vs, v = .none ∨ ∃ x, Texty v x) (hn : .none ∈ vs) (H : At w p loose mean mg mb A h₀ s 7)
  (hQ : ∀ h' tk, (∀ b o, s.heap.get? b = some o → h'.get? b = some o) → Q .none { s with heap := h', toks := tk }) :
  wpAny (model prg w) A (call (.ref 395) [.str "replace" tn, .ref al]) Q E s := by
  refine' enter0 H ?k6 ?k7 ?k9 ?kB ?_ ?c2 ?c3 ?c4 ?c5
  walk_at "my enter"
  intro dp fr gd un g L h₁ tk₁ hg F N X T hd hu hU
  dsimp only at F ⊢
  have hlg : g.IsList al vs.toArray := hl.at fun o e => hg al o e
  walk_at "my steps"
  rename Fr _ _ _ _ => F5
  refine cf_replace_null (hlg.at fun o e => F5.keep al o e) ha hn (At.of F5 X T rfl hd hu (by decide)) fun h' tk up => ?_
  walk_at "my end"
  exact hQ _ _ fun b o e => up b o (F5.keep b o (hg b o e))
theorem pow_2_63 {prog : Program} {w : World} {A : Around} {E : Value → Shared → Prop} {s : Shared} {t u : Tok} {Q : Value → Shared → Prop} (h : Q (.int 9223372036854775808 s.toks) { s with toks := s.toks + 1 }) :
    wpAny (model prog w) A (binaryOp .Pow (.int 2 t) (.int 63 u)) Q E s := pow_int_small (by decide) (by decide) (by decide) h
local macro_rules | `(tactic| walk_at "binaryOp Pow int int") => `(tactic| (refine pow_2_63 ?_))
local macro_rules | `(tactic| walk_at "call ref") => `(tactic| (k_here; (with_reducible show wpAny _ _ (call (Value.ref 388) [Value.ref _, Value.ref _]) _ _ _); k_dflt (refine' one_call ?F ?N ?X ?T ?hh ?hd ?hu ?hk ?U ?P ?hl ?hne ?t1 ?t2 ?_; (case F => k_asm); (case N => k_asm); (case X => k_asm); (case T => assumption); (case hh => exact rfl); (case hd => assumption); (case hu => assumption); (case hk => decide); (case U => k_updF); (case P => assumption); (case hl => exact News.isList (by k_asm) (by k_mem)); (case hne => k_ne); (case t1 => exact Nat.succ_pos _); (case t2 => exact Nat.le_of_ble_eq_true rfl); k_whole); intro i' v' h' tk' a' b' ta' tb' F' N' P' hv'; (try dsimp only at N'); (try k_sweep)))
theorem bad_ones {v : Value} {t1 t2 t3 t4 t5 t6 : Tok} {i : Nat} (h : [Value.int (-1) t1, .int (-9223372036854775808) t2, .int 55296 t3, .int 57343 t4, .int 1114112 t5, .int (9223372036854775808 - 1) t6][i]? = some v) : Numb v 65533 := by
  have m := List.mem_of_getElem? h
  have key : ∀ z ∈ [(-1 : Int), -9223372036854775808, 55296, 57343, 1114112, 9223372036854775808 - 1], -(2 ^ 64) < z ∧ z < 2 ^ 64 ∧ signCode z = 65533 := by decide +kernel
  have one : ∀ z (t : Tok), z ∈ [(-1 : Int), -9223372036854775808, 55296, 57343, 1114112, 9223372036854775808 - 1] → Numb (.int z t) 65533 := fun z t hz => (key z hz).2.2 ▸ Numb.int (key z hz).1 (key z hz).2.1
  simp only [List.mem_cons, List.not_mem_nil, or_false] at m
  rcases m with rfl | rfl | rfl | rfl | rfl | rfl <;> exact one _ _ (by decide)
theorem odd_ones {v : Value} {t1 t2 t3 t4 : Tok} {i : Nat} (h : [Value.str (Str.ofString "x") t1, .str (Str.ofString "") t2, .str (Str.ofString "0") t3, .str (Str.ofString " 0z") t4][i]? = some v) : Numb v 0 := by
  have m := List.mem_of_getElem? h
  have key : ∀ x ∈ [Str.ofString "x", Str.ofString "", Str.ofString "0", Str.ofString " 0z"], x.length ≤ 10 ∧ (∀ c ∈ cpl x, c < 128 ∧ c ≠ 43 ∧ c ≠ 45) ∧ signCode (asI x : Nat) = 0 := by decide +kernel
  have one : ∀ x (t : Tok), x ∈ [Str.ofString "x", Str.ofString "", Str.ofString "0", Str.ofString " 0z"] → Numb (.str x t) 0 := fun x t hx => (key x hx).2.2 ▸ Numb.str (key x hx).1 (key x hx).2.1
  simp only [List.mem_cons, List.not_mem_nil, or_false] at m
  rcases m with rfl | rfl | rfl | rfl <;> exact one _ _ (by simp)
def nums : List Int := [0, 1, 97, 98, 127, 128, 2047, 2048, 55295, 57344, 65533, 65536, 1114111]
theorem nums_ok : ∀ z ∈ nums, 0 ≤ z ∧ z ≤ 1114111 ∧ signCode z = z.toNat ∧ Str.isSurrogate z.toNat = false := by decide +kernel
theorem nums_txt : ∀ z ∈ nums, (Str.ofString (toString z)).length ≤ 10 ∧ (∀ c ∈ cpl (Str.ofString (toString z)), c < 128 ∧ c ≠ 43 ∧ c ≠ 45) ∧ asI (Str.ofString (toString z)) = z.toNat := by decide +kernel
theorem nums_in {v : Value} {t1 t2 t3 t4 t5 t6 t7 t8 t9 tA tB tC tD : Tok} {i : Nat} (h : [Value.int 0 t1, .int 1 t2, .int 97 t3, .int 98 t4, .int 127 t5, .int 128 t6, .int 2047 t7, .int 2048 t8, .int 55295 t9, .int 57344 tA, .int 65533 tB, .int 65536 tC, .int 1114111 tD][i]? = some v) : ∃ z t, v = .int z t ∧ z ∈ nums := by
  have m := List.mem_of_getElem? h
  have one : ∀ z (t : Tok), z ∈ nums → ∃ z' t', Value.int z t = .int z' t' ∧ z' ∈ nums := fun z t hz => ⟨z, t, rfl, hz⟩
  simp only [List.mem_cons, List.not_mem_nil, or_false] at m
  rcases m with rfl | rfl | rfl | rfl | rfl | rfl | rfl | rfl | rfl | rfl | rfl | rfl | rfl <;> exact one _ _ (by decide)
/-- what a call that changes the pool alone has made is new -/
theorem new_of {hp g h' : Heap} {L src d : Addr} {o po : Obj} {l : List Addr} {news : List (Addr × Obj)} (hg : ∀ b o, b ∉ l → hp.get? b = some o → g.get? b = some o) (hl : l = [src]) (N : News g L h' news) (hd : (d, o) ∈ news) (hs : (src, po) ∈ news) (hne : o.cls ≠ po.cls) : hp.get? d = none := by
  cases q : hp.get? d with
  | none => rfl
  | some o' =>
    exfalso
    by_cases e : d = src
    · subst e
      have a := (N _ hd).1
      rw [(N _ hs).1] at a
      exact hne (congrArg (·.cls) (Option.some.inj a).symm)
    · have a := hg d o' (by rw [hl]; simpa using e) q
      rw [(N _ hd).2.2] at a; cases a
theorem number_ok {w : World} {p : Program} {loose : List Str} {mean : ExcName → Option Value} {mg mb : Str → Option Value} {A : Around} {h₀ : Heap} {s : Shared} {Q E : Value → Shared → Prop}
  {src : Addr} {a b : Int} {ta tb : Tok} {n : Nat}
  (H : At w p loose mean mg mb A h₀ s 3) (hs : s.heap.get? src = some (poolO a b ta tb n)) (h0 : h₀.get? src = none)
  (P : PoolOk a b)
  (hQ : ∀ d v c t m h' tk a' b' ta' tb', (∀ b o, b ≠ src → s.heap.get? b = some o → h'.get? b = some o) → h'.get? src = some (poolO a' b' ta' tb' n) → PoolOk a' b' →
    s.heap.get? d = none → h'.get? d = some { cls := .type "tuple", data := .seq #[v, .str ⟨#[c]⟩ t] m } → Numb v c → c < 1114112 ∧ Str.isSurrogate c = false → Q (.ref d) { s with heap := h', toks := tk }) :
  wpAny (model prg w) A (call (.ref 402) [.ref src]) Q E s := by
  refine' enter [(src, poolO a b ta tb n)] H ?N ?k6 ?k7 ?k9 ?kB ?_ ?c2 ?c3 ?c4 ?c5
  walk_at "my enter"
  case N => exact fun q hq => by
              rcases List.mem_singleton.mp hq with rfl
              exact ⟨hs, h0⟩
  intro dp fr gd un g L h₁ tk₁ hg hL F N X T hd hu hU
  dsimp only at F ⊢
  have keep : ∀ (h' : Heap) (m' : Str → Option Value), Fr g L h' m' → ∀ b o, b ≠ src → s.heap.get? b = some o → h'.get? b = some o := by
    intro h' m' F' b o hb e
    exact F'.keep _ _ (hg _ _ (by simpa using hb) e)
  iterate 45 (all_goals (try (first | (k_unfold; (try dsimp only)) | walk1 | (dsimp only; walk1) | (leave1; (try dsimp only)))))
  · walk_at "my end"
    rename News _ _ _ _ => N9
    exact hQ _ _ _ _ _ _ _ _ _ _ _ (keep _ _ (by assumption)) (N9 (src, poolO _ _ _ _ n) (by k_mem)).1 (by assumption) (new_of hg rfl N9 (.head _) (po := poolO _ _ _ _ n) (by k_mem) (by simp)) (N9 _ (.head _)).1  .none ⟨by decide, by decide⟩
  · k_steps
    rename (_ : List Value)[_]? = some _ => hv
    walk_at "my end"
    rename News _ _ _ _ => N9
    exact hQ _ _ _ _ _ _ _ _ _ _ _ (keep _ _ (by assumption)) (N9 (src, poolO _ _ _ _ n) (by k_mem)).1 (by assumption) (new_of hg rfl N9 (.head _) (po := poolO _ _ _ _ n) (by k_mem) (by simp)) (N9 _ (.head _)).1  (bad_ones hv) ⟨by decide, by decide⟩
  · k_steps
    rename (_ : List Value)[_]? = some _ => hv
    walk_at "my end"
    rename News _ _ _ _ => N9
    exact hQ _ _ _ _ _ _ _ _ _ _ _ (keep _ _ (by assumption)) (N9 (src, poolO _ _ _ _ n) (by k_mem)).1 (by assumption) (new_of hg rfl N9 (.head _) (po := poolO _ _ _ _ n) (by k_mem) (by simp)) (N9 _ (.head _)).1  (odd_ones hv) ⟨by decide, by decide⟩
  · iterate 60 (all_goals (try (first | (k_unfold; (try dsimp only)) | walk1 | (dsimp only; walk1) | (leave1; (try dsimp only)))))
    · rename (_ : List Value)[_]? = some _ => hv
      obtain ⟨z, tz, rfl, hz⟩ := nums_in hv
      obtain ⟨z1, z2, z3, z4⟩ := nums_ok z hz
      obtain ⟨z5, z6, z7⟩ := nums_txt z hz
      have hz9 : z.natAbs < 10 ^ 30 := by omega
      k_steps
      walk_at "my end"
      rename News _ _ _ _ => N9
      have hn : ∀ t, Numb (.str (Str.ofString (toString z)) t) z.toNat := fun t => by
        have hn := Numb.str (t := t) z5 z6
        rwa [z7, Int.toNat_of_nonneg z1, z3] at hn
      exact hQ _ _ _ _ _ _ _ _ _ _ _ (keep _ _ (by assumption)) (N9 (src, poolO _ _ _ _ n) (by k_mem)).1 (by assumption) (new_of hg rfl N9 (.head _) (po := poolO _ _ _ _ n) (by k_mem) (by simp)) (N9 _ (.head _)).1  (hn _) ⟨by omega, z4⟩
    · rename (_ : List Value)[_]? = some _ => hv
      obtain ⟨z, tz, rfl, hz⟩ := nums_in hv
      obtain ⟨z1, z2, z3, z4⟩ := nums_ok z hz
      k_steps
      walk_at "my end"
      rename News _ _ _ _ => N9
      exact hQ _ _ _ _ _ _ _ _ _ _ _ (keep _ _ (by assumption)) (N9 (src, poolO _ _ _ _ n) (by k_mem)).1 (by assumption) (new_of hg rfl N9 (.head _) (po := poolO _ _ _ _ n) (by k_mem) (by simp)) (N9 _ (.head _)).1  (by rw [← z3]; exact .int (by omega) (by omega)) ⟨by omega, z4⟩
section
open PyProof.Rows.LCg
variable {prog : Program} {w : World} {A : Around} {E : Value → Shared → Prop} {s : Shared} {h₀ : Heap} {L : Addr} {m : Str → Option Value} {env : Env}
/-- the turns of a comprehension by what holds between them -/
theorem compRest_inv {elt : PySem.Expr} {x : Str} {scope : Scope} {cl : List (Str × Addr)} {S : List (Addr × Obj) → Prop} {P : Nat → Value → Prop} {Fin : List Value → List (Addr × Obj) → Prop} {n : Nat} (Inv : Nat → List Value → List (Addr × Obj) → Prop)
    (turn : ∀ i ys news, i < n → Inv i ys news → ∀ v I oI C oC D m₂ h tk (E' : Value → Shared → Prop), P i v → NsObj oC m₂ → m₂ x = some v → Fr h₀ L h m → News h₀ L h ((I, oI) :: (C, oC) :: (D, lst ys) :: news) → Off3 I C D news → ((@Ne Nat I C) ∧ (@Ne Nat I D) ∧ (@Ne Nat C D)) →
      wpAny (model prog w) A (eval elt (compEnvC scope cl C env)) (CompEnd h₀ L m { s with heap := h, toks := tk } I oI C oC D (lst ys) S (fun y news' => Inv (i + 1) (ys ++ [y]) news')) E' { s with heap := h, toks := tk })
    (fin : ∀ ys news, Inv n ys news → Fin ys news) : ∀ (k i : Nat) (ys : List Value) (news : List (Addr × Obj)), i + k = n → Inv i ys news → CompRest prog w A h₀ L m env elt x scope cl s S P Fin k i ys news
  | 0, i, ys, news, e, hI => by
    obtain rfl : i = n := by omega
    exact .zero (fin _ _ hI)
  | k + 1, i, ys, news, e, hI => by
    refine .succ fun v I oI C oC D m₂ h tk E' hP hC hx F N off ne => ?_
    refine wpAny_mono (turn i ys news (by omega) hI v I oI C oC D m₂ h tk E' hP hC hx F N off ne) (fun y s₂ hy => ?_) fun _ _ q => q
    obtain ⟨h', tk', news', rfl, F', N', off', hS, r⟩ := hy
    exact ⟨h', tk', news', rfl, F', N', off', hS, compRest_inv Inv turn fin k (i + 1) _ _ (by omega) r⟩
/-- the octets that a comprehension takes -/
def SrcB (prog : Program) (w : World) (A : Around) (h₀ : Heap) (L : Addr) (m : Str → Option Value) (env : Env) (elt : PySem.Expr) (x : Str) (scope : Scope) (cl : List (Str × Addr)) (Q : Value → Shared → Prop) (xv : Value) (s₁ : Shared) : Prop :=
  ∃ b t news, xv = .bytes b t ∧ A.handled = none ∧ Fr h₀ L s₁.heap m ∧ News h₀ L s₁.heap news ∧ b.size ≤ sizeLine ∧
      ∀ g, CompRest prog w A h₀ L m env elt x scope cl { s₁ with heap := g } (fun _ => True) (fun i v => ∃ (e : UInt8) (t : Tok), b[i]? = some e ∧ v = .int (e.toNat : Int) t) (FinE h₀ L m { s₁ with heap := g } Q) b.size 0 [] news
/-- a comprehension over octets -/
theorem ListComp_bytes {elt iter : PySem.Expr} {x : Str} {px : Pos} {scope : Scope} {cl : List (Str × Addr)} {pos : Pos} {Q : Value → Shared → Prop} (F₀ : Fr h₀ L s.heap m)
    (hclos : closureFor scope env = pure cl) (hcell : ∀ y ∈ scope.names, y.2 ≠ .cell) (hkind : scope.kind = .function)
    (hnames : ∀ y ∈ scope.names, y.2 = .local → scope.names.lookup y.1 = some .local) (hx : scope.names.lookup x = some .local)
    (h : wpAny (model prog w) A (eval iter env) (SrcB prog w A h₀ L m env elt x scope cl Q) E s)
    (hs : ∀ x, foldedSetIterable iter env x = pure x := by intro _; rfl) :
    wpAny (model prog w) A (eval (.ListComp elt [⟨.Name x px, iter, [], 0⟩] scope pos) env) Q E s := by
  rw [eval_ListComp]
  refine wpAny_comprehension_free (use := none) rfl hs hclos hkind hnames (wpAny_mono h (fun xv s₁ h₁ => ?_) fun _ _ e => e)
  obtain ⟨b, t, news, rfl, hh, F, N, hsz, R⟩ := h₁
  refine KBw.pyIter_bytes ?_
  refine block_U (KBw.walks (prog := prog) (w := w) hh s₁.heap.objs.size b t) hsz (fun i h st => ?_) (fun i h h' o nw st e e' _ _ _ => ?_) hcell hkind hx ⟨_, Heap.get?_push_size _ rfl, rfl, rfl⟩ (fun c hc => ?_)
    (F.keeps fun _ _ e => Heap.get?_push_of_some _ e) (N.grown fun _ _ e => Heap.get?_push_of_some _ e) (Nat.ne_of_lt F.ns.lt) (next_is_new F) (fun p hp => Nat.ne_of_lt (Heap.lt_size (N p hp).1)) trivial (R _) ?_
  · obtain ⟨o, e, _⟩ := st; exact ⟨o, e⟩
  · obtain ⟨o', q, r⟩ := st
    rw [e] at q; cases q; exact ⟨o, e', r⟩
  · rw [List.mem_singleton.mp hc]
    show s₁.heap.objs.size < (s₁.heap.push _).objs.size
    rw [Heap.size_push]; exact Nat.lt_succ_self _
  · intro D C h tk m' ys news' F' N' o1 hn hC₀ hD₀ hCL hDL hCD offC fin
    refine ⟨m', hn, fun h'' hs'' => fin D h'' tk (F'.change hs'' hCL hC₀) (fun p hp => ?_) o1⟩
    refine ⟨hs''.extBut _ _ ?_ (N' p hp).1, (N' p hp).2⟩
    rcases List.mem_cons.mp hp with rfl | hp
    · exact Ne.symm hCD
    · exact offC p hp
end
local macro_rules | `(tactic| walk_at "my enterC") => `(tactic| (
  (case k6 => k_is); (case k7 => k_is); (case k9 => exact BindsTo.of_eq rfl); (case kB => exact rfl); (case kD => decide +kernel); (case c2 => exact rfl); (case c3 => exact rfl); (case c4 => exact rfl)))
theorem fig_item {k : Nat} (h : k < 16) : Txt.item (Str.ofString "0123456789ABCDEF") ((k : Nat) : Int) = hexSign k :=
  item_at (by rw [figs_cpl]; have hl : figs.length = 16 := rfl; rw [List.getElem?_eq_getElem (by omega), List.getD_eq_getElem?_getD, List.getElem?_eq_getElem (by omega)]; rfl)
noncomputable def hex2 (e : UInt8) : Str := hexSign (e.toNat / 16) ++ hexSign (e.toNat % 16)
theorem fig_two (e : UInt8) : Txt.item (Str.ofString "0123456789ABCDEF") (((e.toNat : Nat) : Int).fdiv 16) ++ Txt.item (Str.ofString "0123456789ABCDEF") (((e.toNat : Nat) : Int).fmod 16) = hex2 e := by
  have he : e.toNat < 256 := UInt8.toNat_lt e
  have e1 : ((e.toNat : Nat) : Int).fdiv 16 = ((e.toNat / 16 : Nat) : Int) := by rw [Int.fdiv_eq_ediv_of_nonneg _ (by decide)]; omega
  have e2 : ((e.toNat : Nat) : Int).fmod 16 = ((e.toNat % 16 : Nat) : Int) := by rw [Int.fmod_eq_emod_of_nonneg _ (by decide)]; omega
  rw [e1, e2, fig_item (by omega), fig_item (by omega)]; rfl
theorem hex2_join (x : Array UInt8) : Txt.join (Str.ofString "") (x.toList.map hex2) = hexOf x := by
  refine cpl_ext ?_
  rw [cpl_join0 rfl]
  show _ = ((x.toList.flatMap fun e => [figs.getD (e.toNat / 16) 0, figs.getD (e.toNat % 16) 0]).toArray).toList
  generalize x.toList = l
  induction l with
  | nil => rfl
  | cons a r ih => rw [List.map_cons, List.map_cons, List.flatten_cons, ih, List.flatMap_cons]; rfl
theorem hex2_sum (l : List UInt8) : ((l.map hex2).map (·.length)).sum = 2 * l.length := by
  induction l with
  | nil => rfl
  | cons a r ih => rw [List.map_cons, List.map_cons, List.sum_cons, ih, List.length_cons]; show 2 + _ = _; omega
theorem lawhex_ok {w : World} {p : Program} {loose : List Str} {mean : ExcName → Option Value} {mg mb : Str → Option Value} {A : Around} {h₀ : Heap} {s : Shared} {Q E : Value → Shared → Prop}
  {x : Array UInt8} {t : Tok} (H : At w p loose mean mg mb A h₀ s 1) (hz : x.size < 1000)
  (hQ : ∀ t' h' tk, (∀ b o, s.heap.get? b = some o → h'.get? b = some o) → Q (.str (hexOf x) t') { s with heap := h', toks := tk }) :
  wpAny (model prg w) A (call (.ref 407) [.bytes x t]) Q E s := by
  refine' enterC [] H (fun _ h => nomatch h) ?k6 ?k7 ?k9 ?kB ?kD ?_ ?c2 ?c3 ?c4
  walk_at "my enterC"
  intro dp fr gd un g L h₁ tk₁ cells hg hL F N Y X T hd hu hU
  k_cells Y
  simp only [List.cons_append, List.nil_append] at N
  dsimp only at F ⊢
  walk_at "my steps"
  rename Fr _ _ _ _ => F2
  rename News _ _ _ _ => N2
  refine ListComp_bytes F2 (by with_unfolding_all rfl) (by decide) (by rfl) (by decide) (by rfl) ?_
  walk_at "my steps"
  refine ⟨x, t, _, rfl, rfl, F2, N2, by rw [sizeLine_eq]; omega, fun g' => ?_⟩
  refine compRest_inv (fun i ys news => news = _ ∧ StrsAre ys ((x.toList.take i).map hex2)) ?_ ?_ x.size 0 [] _ (Nat.zero_add _) ⟨rfl, .nil⟩
  · rintro i ys news hi ⟨rfl, hs⟩ v I oI C oC D m₂ h tk E' ⟨e, te, he, rfl⟩ hC hx F3 N3 off ne
    simp only [LCg.Off3, and_true] at off
    have he256 : e.toNat < 256 := UInt8.toNat_lt e
    walk_at "my steps"
    rw [fig_two]
    have e1 : (x.toList.take (i + 1)).map hex2 = (x.toList.take i).map hex2 ++ [hex2 e] := by
      rw [List.take_add_one, List.map_append, show x.toList[i]? = some e by simpa using he]; rfl
    rw [e1]
    exact strs_snoc hs
  · rintro ys news ⟨rfl, hs⟩
    rw [List.take_of_length_le (by simp)] at hs
    have hsl := strs_len hs
    walk_at "FinE"
    walk_at "my steps"
    rename Fr _ _ _ _ => F4
    rename News _ _ _ _ => N4
    have e0 : (Str.ofString "").length = 0 := rfl
    have e1 : x.toList.length = x.size := rfl
    refine join_news N4 (.head _) hs (by rw [hex2_sum, e0]; omega) fun t' k' => ?_
    walk_at "my end"
    rw [hex2_join]
    exact hQ _ _ _ fun b o q => F4.keep b o (hg b o (fun z => nomatch z) q)
local macro_rules | `(tactic| walk_at "my steps") => `(tactic| repeat' (first | (k_unfold; (try dsimp only)) | ((fail_if_success (first | (with_reducible show wpAny _ _ (exec (Stmt.While _ _ _ _) _) _ _ _) | (with_reducible show wpAny _ _ (exec (Stmt.For _ _ _ _ _) _) _ _ _) | (with_reducible show wpAny _ _ (pyIter _) _ _ _) | (with_reducible show wpAny _ _ (eval (Expr.ListComp _ _ _ _) _) _ _ _) | (with_reducible show wpAny _ _ (exec (Stmt.Assign _ (Expr.ListComp _ _ _ _) _) _) _ _ _) | (with_reducible show LCg.CompEnd _ _ _ _ _ _ _ _ _ _ _ _ _ _) | (with_reducible show LCg.CompSrc _ _ _ _ _ _ _ _ _ _ _ _ _ _) | (with_reducible show LCp.SrcLP _ _ _ _ _ _ _ _ _ _ _ _ _ _ _))); first | walk1 | (dsimp only; (fail_if_success (first | (with_reducible show wpAny _ _ (exec (Stmt.While _ _ _ _) _) _ _ _) | (with_reducible show wpAny _ _ (exec (Stmt.For _ _ _ _ _) _) _ _ _) | (with_reducible show wpAny _ _ (pyIter _) _ _ _) | (with_reducible show wpAny _ _ (eval (Expr.ListComp _ _ _ _) _) _ _ _) | (with_reducible show wpAny _ _ (exec (Stmt.Assign _ (Expr.ListComp _ _ _ _) _) _) _ _ _) | (with_reducible show LCg.CompEnd _ _ _ _ _ _ _ _ _ _ _ _ _ _) | (with_reducible show LCg.CompSrc _ _ _ _ _ _ _ _ _ _ _ _ _ _) | (with_reducible show LCp.SrcLP _ _ _ _ _ _ _ _ _ _ _ _ _ _ _))); walk1)) | (leave1; (try dsimp only)) | fail "no step"))
theorem sign_list {v : Value} {t1 t2 t3 t4 t5 : Tok} {i : Nat} (h : [Value.str (Str.ofString "a") t1, .str (Str.ofString "b") t2, .str (Str.ofString "a") t3, .str (Str.ofString "\x00") t4, .str (Str.ofString "é") t5][i]? = some v) :
    ∃ (c : Nat) (t : Tok), v = .str ⟨#[c]⟩ t ∧ (c = 97 ∨ c = 98 ∨ c = 0 ∨ c = 233) := by
  have m := List.mem_of_getElem? h
  simp only [List.mem_cons, List.not_mem_nil, or_false] at m
  rcases m with rfl | rfl | rfl | rfl | rfl
  · exact ⟨97, _, rfl, by decide⟩
  · exact ⟨98, _, rfl, by decide⟩
  · exact ⟨97, _, rfl, by decide⟩
  · exact ⟨0, _, rfl, by decide⟩
  · exact ⟨233, _, rfl, by decide⟩
theorem one_join {xs : List Nat} : Txt.join (Str.ofString "") (xs.map fun c => (⟨#[c]⟩ : Str)) = ⟨xs.toArray⟩ := by
  refine cpl_ext ?_
  rw [cpl_join0 rfl, List.map_map]
  exact flat_ones xs
theorem one_sum (xs : List Nat) : ((xs.map fun c => (⟨#[c]⟩ : Str)).map (·.length)).sum = xs.length := by
  rw [List.map_map]
  exact sum_ones xs
theorem lawtext_ok {w : World} {p : Program} {loose : List Str} {mean : ExcName → Option Value} {mg mb : Str → Option Value} {A : Around} {h₀ : Heap} {s : Shared} {Q E : Value → Shared → Prop}
  {src : Addr} {a b : Int} {ta tb : Tok} {n : Nat}
  (H : At w p loose mean mg mb A h₀ s 3) (hs : s.heap.get? src = some (poolO a b ta tb n)) (h0 : h₀.get? src = none)
  (P : PoolOk a b)
  (hQ : ∀ (x : List Nat) t h' tk a' b' ta' tb', (∀ b o, b ≠ src → s.heap.get? b = some o → h'.get? b = some o) → h'.get? src = some (poolO a' b' ta' tb' n) → PoolOk a' b' →
    x.length ≤ 6 → (∀ c ∈ x, c = 97 ∨ c = 98 ∨ c = 0 ∨ c = 233) → Q (.str ⟨x.toArray⟩ t) { s with heap := h', toks := tk }) :
  wpAny (model prg w) A (call (.ref 417) [.ref src]) Q E s := by
  refine' enterC [(src, poolO a b ta tb n)] H ?N ?k6 ?k7 ?k9 ?kB ?kD ?_ ?c2 ?c3 ?c4
  walk_at "my enterC"
  case N => exact fun q hq => by
              rcases List.mem_singleton.mp hq with rfl
              exact ⟨hs, h0⟩
  intro dp fr gd un g L h₁ tk₁ cells hg hL F N Y X T hd hu hU
  k_lt hL
  obtain ⟨oc, hE, dc⟩ := PyProof.Rows.CellsAre.one Y
  subst hE
  simp only [List.cons_append, List.nil_append] at N
  dsimp only at F ⊢
  walk_at "my steps"
  rename Fr _ _ _ _ => F2
  rename News _ _ _ _ => N2
  refine LCg.ListComp_U (F₀ := F2) (by with_unfolding_all rfl) (by decide) (by rfl) (by decide) (by rfl) ?_
  walk_at "my steps"
  rename IsRange _ _ _ _ _ _ _ _ => hr
  rename Fr _ _ _ _ => F3
  rename News _ _ _ _ => N3
  rename (0 : Int) ≤ _ => r0
  rename (_ : Int) < 7 => r1
  refine LCg.CompSrc.range rfl F3 N3 hr (small_one (by omega) (by omega) (by omega) (by omega)) (rangeSize_nat _ _) (by rw [sizeLine_eq]; omega) fun g' => ?_
  refine compRest_inv (fun i ys news => ∃ (a b : Int) (ta tb : Tok) (xs : List Nat), news = [(L + 1, oc), (src, poolO a b ta tb n)] ∧ PoolOk a b ∧ StrsAre ys (xs.map fun c => (⟨#[c]⟩ : Str)) ∧ xs.length = i ∧ ∀ c ∈ xs, c = 97 ∨ c = 98 ∨ c = 0 ∨ c = 233) ?_ ?_ _ 0 [] _ (Nat.zero_add _) ⟨_, _, _, _, [], rfl, by assumption, .nil, rfl, fun _ h => nomatch h⟩
  · clear F3 N3
    rintro i ys news hi ⟨a, b, ta, tb, xs, rfl, P, hs, hl, hc⟩ v I oI C oC D m₂ h tk E' ⟨te, rfl⟩ hC hx F3 N3 off ne
    simp only [LCg.Off3, and_true] at off
    walk_at "my steps"
    rename (_ : List Value)[_]? = some _ => hv
    rename Fr _ _ _ _ => F5
    rename News _ _ _ _ => N5
    obtain ⟨c, tc, rfl, hc'⟩ := sign_list hv
    refine LCg.CompEnd.intro F5 N5 [(L + 1, oc), (src, poolO _ _ _ _ n)] (by lcg_sub) (by lcg_off) trivial ⟨_, _, _, _, xs ++ [c], rfl, by assumption, ?_, ?_, ?_⟩
    · rw [List.map_append]; exact strs_snoc hs
    · rw [List.length_append, hl]; rfl
    · intro c9 h9
      rcases List.mem_append.mp h9 with h9 | h9
      · exact hc c9 h9
      · rw [List.mem_singleton.mp h9]; exact hc'
  · rintro ys news ⟨a, b, ta, tb, xs, rfl, P, hs, hl, hc⟩
    have hsl := strs_len hs
    walk_at "FinE"
    walk_at "my steps"
    rename Fr _ _ _ _ => F5
    rename News _ _ _ _ => N5
    have e0 : (Str.ofString "").length = 0 := rfl
    refine join_news N5 (.head _) hs (by rw [one_sum, e0]; omega) fun t' k' => ?_
    walk_at "my end"
    rw [one_join]
    exact hQ xs _ _ _ _ _ _ _ (fun b o hb e => F5.keep _ _ (hg _ _ (by simpa using hb) e)) (N5 (src, poolO _ _ _ _ n) (by k_mem)).1 P (by omega) hc
theorem lawtext_call {w : World} {p : Program} {loose : List Str} {mean : ExcName → Option Value} {mg mb : Str → Option Value} {A : Around} {g : Heap} {s : Shared} {Q E : Value → Shared → Prop} {L : Addr} {m : Str → Option Value} {news : List (Addr × Obj)} {f : Obj → List (Addr × Obj)} {k : Nat}
  {src : Addr} {a b : Int} {ta tb : Tok} {n : Nat} (F : Fr g L s.heap m) (N : News g L s.heap news) (X : (Mine.K w.params).In g) (T : Top p loose mean mg mb g) (hh : A.handled = none) (hd : A.depth + k < 1000) (hu : A.units + 8 * k ≤ 9800)
  (hk : 3 ≤ k) (U : UpdF src (poolO a b ta tb n) news f) (P : PoolOk a b)
  (hQ : ∀ (x : List Nat) t h' tk a' b' ta' tb', Fr g L h' m → News g L h' (f (poolO a' b' ta' tb' n)) → PoolOk a' b' → x.length ≤ 6 → (∀ c ∈ x, c = 97 ∨ c = 98 ∨ c = 0 ∨ c = 233) → Q (.str ⟨x.toArray⟩ t) { s with heap := h', toks := tk }) :
  wpAny (model prg w) A (call (.ref 417) [.ref src]) Q E s :=
  lawtext_ok (At.of F X T hh hd hu hk) (N _ (upd_mem U)).1 (N _ (upd_mem U)).2.2 P fun x t h' tk a' b' ta' tb' k1 k2 P' hx hc =>
    let ⟨F', N'⟩ := news_drew F N U k1 k2
    hQ x t h' tk a' b' ta' tb' F' N' P' hx hc
local macro_rules | `(tactic| walk_at "call ref") => `(tactic| (k_here; (with_reducible show wpAny _ _ (call (Value.ref 417) [Value.ref _]) _ _ _); k_dflt (refine' lawtext_call ?F ?N ?X ?T ?hh ?hd ?hu ?hk ?U ?P ?_; (case F => k_asm); (case N => k_asm); (case X => k_asm); (case T => assumption); (case hh => exact rfl); (case hd => assumption); (case hu => assumption); (case hk => decide); (case U => k_updF); (case P => assumption); k_whole); intro x' t' h' tk' a' b' ta' tb' F' N' P' hx' hc'; (try dsimp only at N'); (try k_sweep)))
theorem val_nums {v : Value} {t1 t2 t3 t4 t5 : Tok} {i : Nat} (h : [Value.int 0 t1, .int 11 t2, .int (-11) t3, .int (9223372036854775808 - 1) t4, .int 707 t5][i]? = some v) : ∃ z t, v = .int z t ∧ z.natAbs < 10 ^ 30 ∧ (Str.ofString (toString z)).length ≤ 20 ∧ ∀ c ∈ cpl (Str.ofString (toString z)), c < 1114112 := by
  have m := List.mem_of_getElem? h
  have key : ∀ z ∈ [(0 : Int), 11, -11, 9223372036854775808 - 1, 707], z.natAbs < 10 ^ 30 ∧ (Str.ofString (toString z)).length ≤ 20 ∧ ∀ c ∈ cpl (Str.ofString (toString z)), c < 1114112 := by decide +kernel
  have one : ∀ z (t : Tok), z ∈ [(0 : Int), 11, -11, 9223372036854775808 - 1, 707] → ∃ z' t', Value.int z t = .int z' t' ∧ z'.natAbs < 10 ^ 30 ∧ (Str.ofString (toString z')).length ≤ 20 ∧ ∀ c ∈ cpl (Str.ofString (toString z')), c < 1114112 := fun z t hz => ⟨z, t, rfl, key z hz⟩
  simp only [List.mem_cons, List.not_mem_nil, or_false] at m
  rcases m with rfl | rfl | rfl | rfl | rfl <;> exact one _ _ (by decide)
theorem val_signs {v : Value} {t1 t2 t3 t4 : Tok} {i : Nat} (h : [Value.str (Str.ofString "a") t1, .str (Str.ofString "b") t2, .str (Str.ofString "1") t3, .str (Str.ofString "\x00") t4][i]? = some v) : ∃ (c : Nat) (t : Tok), v = .str ⟨#[c]⟩ t ∧ c < 128 := by
  have m := List.mem_of_getElem? h
  simp only [List.mem_cons, List.not_mem_nil, or_false] at m
  rcases m with rfl | rfl | rfl | rfl
  · exact ⟨97, _, rfl, by decide⟩
  · exact ⟨98, _, rfl, by decide⟩
  · exact ⟨49, _, rfl, by decide⟩
  · exact ⟨0, _, rfl, by decide⟩
theorem strs_at : ∀ {us : List Value} {ws : List Str} {i : Nat} {v : Value}, StrsAre us ws → us[i]? = some v → ∃ x t, v = .str x t ∧ ws[i]? = some x
  | _, _, _, _, .nil, h => by simp at h
  | _, _, 0, _, .cons x t _, e => ⟨x, t, (Option.some.inj e).symm, rfl⟩
  | _, _, i + 1, _, .cons _ _ r, e => by
    obtain ⟨x, t, h1, h2⟩ := strs_at (i := i) r (by simpa using e)
    exact ⟨x, t, h1, by simpa using h2⟩
theorem txt_len {xs : List Nat} : (⟨xs.toArray⟩ : Str).length = xs.length := by simp [Str.length]
/-- numbers as ints, and as octets -/
def intsOf (xs : List Nat) : List Int := xs.map Int.ofNat
def octs (xs : List Nat) : Array UInt8 := ((intsOf xs).map fun n => n.toNat.toUInt8).toArray
theorem bytes_text {xs : List Nat} (h : ∀ c ∈ xs, c < 128) : signsOf (octs xs) = ⟨xs.toArray⟩ := by
  refine cpl_ext ?_
  show ((((xs.map Int.ofNat).map fun n => n.toNat.toUInt8).map (·.toNat)).toArray).toList = xs
  rw [List.map_map, List.map_map]
  show xs.map _ = xs
  conv => rhs; rw [← List.map_id xs]
  refine List.map_congr_left fun c hc => ?_
  have := h c hc
  show c % 256 = c
  omega
theorem bytes_small {xs : List Nat} (h : ∀ c ∈ xs, c < 128) : ∀ i (hi : i < (octs xs).size), (octs xs)[i].toNat < 128 := by
  intro i hi
  have hi' : i < xs.length := by simpa [octs, intsOf] using hi
  have := h xs[i] (List.getElem_mem hi')
  simp only [octs, intsOf, List.getElem_toArray, List.getElem_map]
  show xs[i] % 256 < 128
  omega
theorem lawvalue_ok {w : World} {p : Program} {loose : List Str} {mean : ExcName → Option Value} {mg mb : Str → Option Value} {A : Around} {h₀ : Heap} {s : Shared} {Q E : Value → Shared → Prop}
  {src : Addr} {a b : Int} {ta tb : Tok} {n : Nat}
  (H : At w p loose mean mg mb A h₀ s 4) (hs : s.heap.get? src = some (poolO a b ta tb n)) (h0 : h₀.get? src = none)
  (P : PoolOk a b)
  (hQ : ∀ d v (x : Str) t m h' tk a' b' ta' tb', (∀ b o, b ≠ src → s.heap.get? b = some o → h'.get? b = some o) → h'.get? src = some (poolO a' b' ta' tb' n) → PoolOk a' b' →
    s.heap.get? d = none → h'.get? d = some { cls := .type "tuple", data := .seq #[v, .str x t] m } → Texty v x → x.length ≤ 20 → (∀ c ∈ cpl x, c < 1114112) → Q (.ref d) { s with heap := h', toks := tk }) :
  wpAny (model prg w) A (call (.ref 422) [.ref src]) Q E s := by
  refine' enterC [(src, poolO a b ta tb n)] H ?N ?k6 ?k7 ?k9 ?kB ?kD ?_ ?c2 ?c3 ?c4
  walk_at "my enterC"
  case N => exact fun q hq => by
              rcases List.mem_singleton.mp hq with rfl
              exact ⟨hs, h0⟩
  intro dp fr gd un g L h₁ tk₁ cells hg hL F N Y X T hd hu hU
  k_lt hL
  obtain ⟨oc, hE, dc⟩ := PyProof.Rows.CellsAre.one Y
  subst hE
  simp only [List.cons_append, List.nil_append] at N
  dsimp only at F ⊢
  walk_at "my steps"
  · rename List.length _ ≤ 6 => hl
    rename ∀ c ∈ _, c = 97 ∨ c = 98 ∨ c = 0 ∨ c = 233 => hcs
    walk_at "my end"
    rename News _ _ _ _ => N9
    exact hQ _ _ _ _ _ _ _ _ _ _ _ (fun b o hb e => Fr.keep (by assumption) _ _ (hg _ _ (by simpa using hb) e)) (N9 (src, poolO _ _ _ _ n) (by k_mem)).1 (by assumption) (new_of hg rfl N9 (.head _) (po := poolO _ _ _ _ n) (by k_mem) (by simp)) (N9 _ (.head _)).1 (.str (by rw [txt_len]; omega)) (by rw [txt_len]; omega) (fun c hc => by have := hcs c hc; omega)
  · rename (_ : List Value)[_]? = some _ => hv
    obtain ⟨z, tz, rfl, z1, z2, z3⟩ := val_nums hv
    walk_at "my steps"
    walk_at "my end"
    rename News _ _ _ _ => N9
    exact hQ _ _ _ _ _ _ _ _ _ _ _ (fun b o hb e => Fr.keep (by assumption) _ _ (hg _ _ (by simpa using hb) e)) (N9 (src, poolO _ _ _ _ n) (by k_mem)).1 (by assumption) (new_of hg rfl N9 (.head _) (po := poolO _ _ _ _ n) (by k_mem) (by simp)) (N9 _ (.head _)).1 (.int z1) z2 z3
  · rename Fr _ _ _ _ => F2
    rename News _ _ _ _ => N2
    refine LCg.Assign_ListComp_U (F₀ := F2) (by rfl) (by with_unfolding_all rfl) (by with_unfolding_all rfl) (by decide) (by rfl) (by decide) (by rfl) (by rfl) (by rfl) ?_
    walk_at "my steps"
    rename IsRange _ _ _ _ _ _ _ _ => hr
    rename Fr _ _ _ _ => F3
    rename News _ _ _ _ => N3
    rename (_ : Int) < 6 => r1
    refine LCg.CompSrc.range rfl F3 N3 hr (small_one (by omega) (by omega) (by omega) (by omega)) (rangeSize_nat _ _) (by rw [sizeLine_eq]; omega) fun g' => ?_
    refine compRest_inv (fun i ys news => ∃ (a b : Int) (ta tb : Tok) (xs : List Nat), news = [(L + 1, oc), (src, poolO a b ta tb n)] ∧ PoolOk a b ∧ StrsAre ys (xs.map fun c => (⟨#[c]⟩ : Str)) ∧ xs.length = i ∧ ∀ c ∈ xs, c < 128) ?_ ?_ _ 0 [] _ (Nat.zero_add _) ⟨_, _, _, _, [], rfl, by assumption, .nil, rfl, fun _ h => nomatch h⟩
    · clear F3 N3
      rintro i ys news hi ⟨a, b, ta, tb, xs, rfl, P, hs, hl, hc⟩ v I oI C oC D m₂ h tk E' ⟨te, rfl⟩ hC hx F3 N3 off ne
      simp only [LCg.Off3, and_true] at off
      walk_at "my steps"
      rename (_ : List Value)[_]? = some _ => hv
      rename Fr _ _ _ _ => F5
      rename News _ _ _ _ => N5
      obtain ⟨c, tc, rfl, hc'⟩ := val_signs hv
      refine LCg.CompEnd.intro F5 N5 [(L + 1, oc), (src, poolO _ _ _ _ n)] (by lcg_sub) (by lcg_off) trivial ⟨_, _, _, _, xs ++ [c], rfl, by assumption, ?_, ?_, ?_⟩
      · rw [List.map_append]; exact strs_snoc hs
      · rw [List.length_append, hl]; rfl
      · intro c9 h9
        rcases List.mem_append.mp h9 with h9 | h9
        · exact hc c9 h9
        · rw [List.mem_singleton.mp h9]; exact hc'
    · rintro ys news ⟨a, b, ta, tb, xs, rfl, P, hs, hl, hc⟩
      have hsl := strs_len hs
      rw [List.length_map] at hsl
      unfold LCg.FinA
      intro D h' tk' F5 N5 o1
      simp only [LCg.Off1, and_true] at o1
      dsimp only
      clear F3 N3
      walk_at "my steps"
      rename Fr _ _ _ _ => F6
      rename News _ _ _ _ => N6
      refine LCg.ListComp_U (F₀ := F6) (by rfl) (by decide) (by rfl) (by decide) (by rfl) ?_
      walk_at "my steps"
      refine LCg.CompSrc.ledger rfl F6 N6 (its := ys.toArray) (by k_mem) (by rw [List.size_toArray, sizeLine_eq]; omega) fun g' => ?_
      refine compRest_inv (fun i zs news => news = [(D, LCg.lst ys), (L + 1, oc), (src, poolO a b ta tb n)] ∧ IntsAre zs (intsOf (xs.take i))) ?_ ?_ _ 0 [] _ (Nat.zero_add _) ⟨rfl, .nil⟩
      · rintro i zs news hi ⟨rfl, hz⟩ v I oI C oC D₂ m₂ h tk E' hv hC hx F7 N7 off ne
        simp only [LCg.Off3, and_true] at off
        obtain ⟨x9, t9, rfl, hx9⟩ := strs_at hs (show ys[i]? = some v by simpa using hv)
        obtain ⟨c, hc9, rfl⟩ : ∃ c, xs[i]? = some c ∧ x9 = ⟨#[c]⟩ := by
          rw [List.getElem?_map] at hx9
          cases q : xs[i]? with
          | none => rw [q] at hx9; cases hx9
          | some c => rw [q] at hx9; exact ⟨c, rfl, (Option.some.inj hx9).symm⟩
        walk_at "my steps"
        rename Fr _ _ _ _ => F8
        rename News _ _ _ _ => N8
        refine LCg.CompEnd.intro F8 N8 [(D, LCg.lst ys), (L + 1, oc), (src, poolO a b ta tb n)] (by lcg_sub) (by lcg_off) (.inr ⟨_, by k_mem, rfl, _, rfl⟩) ⟨rfl, ?_⟩
        have e9 : intsOf (xs.take (i + 1)) = intsOf (xs.take i) ++ [Int.ofNat c] := by unfold intsOf; rw [List.take_add_one, List.map_append, hc9]; rfl
        rw [e9]
        exact hz.append (.cons _ _ .nil)
      · rintro zs news ⟨rfl, hz⟩
        rw [List.size_toArray, List.take_of_length_le (by omega)] at hz
        unfold LCg.FinE
        intro D₂ h' tk' F7 N7 o2
        simp only [LCg.Off1, and_true] at o2
        dsimp only
        clear F6 N6
        walk_at "my steps"
        rename Fr _ _ _ _ => F8
        rename News _ _ _ _ => N8
        have hzl := hz.length
        have hil : (intsOf xs).length = xs.length := List.length_map _
        refine bytes_K F8 N8 (N8.isList (.head _)) hz (fun z hz => ?_) (by rw [sizeLine_eq]; omega) rfl fun h' t' k' F9 N9 _ => ?_
        · obtain ⟨c, hc1, rfl⟩ := List.mem_map.mp hz
          have := hc c hc1
          show (0 : Int) ≤ (c : Int) ∧ (c : Int) < 256
          omega
        clear F8 N8
        walk_at "my steps"
        rename Fr _ _ _ _ => F8
        rename News _ _ _ _ => N8
        have e0 : (Str.ofString "").length = 0 := rfl
        refine join_news N8 (show (D, LCg.lst ys) ∈ _ by k_mem) hs (by rw [one_sum, e0]; omega) fun t' k' => ?_
        rw [one_join]
        walk_at "my steps"
        walk_at "my end"
        try clear N8
        rename News _ _ _ _ => N9
        have hT : ∀ t, Texty (.bytes (octs xs) t) ⟨xs.toArray⟩ := fun t => bytes_text hc ▸ Texty.bytes (b := octs xs) (t := t) (bytes_small hc) (by show (octs xs).size ≤ 40; unfold octs; rw [List.size_toArray, List.length_map, hil]; omega)
        exact hQ _ _ _ _ _ _ _ _ _ _ _ (fun b o hb e => Fr.keep (by assumption) _ _ (hg _ _ (by simpa using hb) e)) (N9 (src, poolO _ _ _ _ n) (by k_mem)).1 (by assumption) (new_of hg rfl N9 (.head _) (po := poolO _ _ _ _ n) (by k_mem) (by simp)) (N9 _ (.head _)).1 (hT _) (by rw [txt_len]; omega) (fun c h9 => Nat.lt_trans (hc c h9) (by decide))
/-- a part: a text, or no octets -/
inductive PartOk : Value → Str → Prop
  | str {x : Str} {t : Tok} (hz : x.length ≤ 20) : PartOk (.str x t) x
  | bytes {t : Tok} : PartOk (.bytes #[] t) (Str.ofString "")
theorem PartOk.texty {v : Value} {y : Str} (h : PartOk v y) : Texty v y := by
  cases h with
  | str hz => exact .str (by omega)
  | bytes => exact Texty.bytes (b := #[]) (fun i h => absurd h (Nat.not_lt_zero _)) (by decide)
theorem PartOk.len {v : Value} {y : Str} (h : PartOk v y) : y.length ≤ 20 := by
  cases h with
  | str hz => exact hz
  | bytes => decide
theorem part_0 {v : Value} {t1 t2 : Tok} {i : Nat} (h : [Value.str (Str.ofString "") t1, .bytes #[] t2][i]? = some v) : ∃ y, PartOk v y := by
  have m := List.mem_of_getElem? h
  simp only [List.mem_cons, List.not_mem_nil, or_false] at m
  rcases m with rfl | rfl
  · exact ⟨_, .str (by decide)⟩
  · exact ⟨_, .bytes⟩
theorem part_1 {v : Value} {t1 t2 t3 t4 t5 t6 t7 : Tok} {i : Nat} (h : [Value.str (Str.ofString "a") t1, .str (Str.ofString "b") t2, .str (Str.ofString "1") t3, .str (Str.ofString "-") t4, .str (Str.ofString "\x00") t5, .str (Str.ofString "ab") t6, .str (Str.ofString "aa") t7][i]? = some v) : ∃ y, PartOk v y := by
  have m := List.mem_of_getElem? h
  simp only [List.mem_cons, List.not_mem_nil, or_false] at m
  rcases m with rfl | rfl | rfl | rfl | rfl | rfl | rfl <;> exact ⟨_, .str (by decide)⟩
theorem str_pos {x : Str} (h : (x == Str.ofString "") = false) : 1 ≤ x.length := by
  rcases Nat.eq_zero_or_pos x.length with e | e
  · have : x = Str.ofString "" := Str.ext' (Array.eq_empty_of_size_eq_zero e)
    rw [this] at h; simp at h
  · exact e
theorem lawpart_ok {w : World} {p : Program} {loose : List Str} {mean : ExcName → Option Value} {mg mb : Str → Option Value} {A : Around} {h₀ : Heap} {s : Shared} {Q E : Value → Shared → Prop}
  {src : Addr} {a b : Int} {ta tb tx : Tok} {n : Nat} {x : Str} (hx : x.length ≤ 20)
  (H : At w p loose mean mg mb A h₀ s 3) (hs : s.heap.get? src = some (poolO a b ta tb n)) (h0 : h₀.get? src = none)
  (P : PoolOk a b)
  (hQ : ∀ v y h' tk a' b' ta' tb', (∀ b o, b ≠ src → s.heap.get? b = some o → h'.get? b = some o) → h'.get? src = some (poolO a' b' ta' tb' n) → PoolOk a' b' →
    PartOk v y → Q v { s with heap := h', toks := tk }) :
  wpAny (model prg w) A (call (.ref 429) [.ref src, .str x tx]) Q E s := by
  refine' enter [(src, poolO a b ta tb n)] H ?N ?k6 ?k7 ?k9 ?kB ?_ ?c2 ?c3 ?c4 ?c5
  walk_at "my enter"
  case N => exact fun q hq => by
              rcases List.mem_singleton.mp hq with rfl
              exact ⟨hs, h0⟩
  intro dp fr gd un g L h₁ tk₁ hg hL F N X T hd hu hU
  dsimp only at F ⊢
  walk_at "my steps"
  · rename (_ : List Value)[_]? = some _ => hv
    obtain ⟨y, hy⟩ := part_0 hv
    walk_at "my end"
    rename News _ _ _ _ => N9
    exact hQ _ _ _ _ _ _ _ _ (fun b o hb e => Fr.keep (by assumption) _ _ (hg _ _ (by simpa using hb) e)) (N9 (src, poolO _ _ _ _ n) (by k_mem)).1 (by assumption) hy
  · rename (_ : List Value)[_]? = some _ => hv
    obtain ⟨y, hy⟩ := part_1 hv
    walk_at "my end"
    rename News _ _ _ _ => N9
    exact hQ _ _ _ _ _ _ _ _ (fun b o hb e => Fr.keep (by assumption) _ _ (hg _ _ (by simpa using hb) e)) (N9 (src, poolO _ _ _ _ n) (by k_mem)).1 (by assumption) hy
  · rename (_ : List Value)[_]? = some _ => hv
    obtain ⟨y, hy⟩ := part_1 hv
    walk_at "my end"
    rename News _ _ _ _ => N9
    exact hQ _ _ _ _ _ _ _ _ (fun b o hb e => Fr.keep (by assumption) _ _ (hg _ _ (by simpa using hb) e)) (N9 (src, poolO _ _ _ _ n) (by k_mem)).1 (by assumption) hy
  · rename (x == Str.ofString "") = false => hne
    have hpos := str_pos hne
    walk_at "my steps"
    walk_at "my end"
    rename (Txt.slice _ _ _).length ≤ _ => hsl
    rename News _ _ _ _ => N9
    exact hQ _ _ _ _ _ _ _ _ (fun b o hb e => Fr.keep (by assumption) _ _ (hg _ _ (by simpa using hb) e)) (N9 (src, poolO _ _ _ _ n) (by k_mem)).1 (by assumption) (.str (by omega))
theorem cpl_slice {x : Str} {a b : Nat} (hab : a ≤ b) (ha : a ≤ (cpl x).length) : cpl (Txt.slice x (some (a : Int)) (some (b : Int))) = ((cpl x).drop a).take (b - a) := by
  have key : ∀ c : Nat, a ≤ c → c ≤ x.length → cpl (Txt.slice x (some (a : Int)) (some (c : Int))) = ((cpl x).drop a).take (c - a) := fun c h1 h2 => by
    have e := StrLaws.sliced_plain x h1 h2
    unfold Txt.slice
    split
    · rename_i q
      have hl : (Builtin.Str.strSliceIndices (some (a : Int)) (some (c : Int)) 1 x.length).length = x.length := by simpa using q
      rw [StrLaws.strSliceIndices_plain h1 h2, List.length_map, List.length_range] at hl
      have ha0 : a = 0 := by omega
      have hc0 : c = x.length := by omega
      subst ha0 hc0
      exact (List.take_of_length_le (by show (cpl x).length ≤ _; rw [← length_cpl]; omega)).symm
    · exact e
  have hl := length_cpl x
  by_cases hb : b ≤ x.length
  · exact key b hab hb
  · have e : Txt.slice x (some (a : Int)) (some (b : Int)) = Txt.slice x (some (a : Int)) (some (x.length : Int)) := by
      have e1 : Builtin.Str.strSliceIndices (some (a : Int)) (some (b : Int)) 1 x.length = Builtin.Str.strSliceIndices (some (a : Int)) (some (x.length : Int)) 1 x.length := by
        have h1 : ¬ ((b : Int) < 0) := by omega
        have h2 : ¬ ((x.length : Int) < 0) := by omega
        have e2 : max (0 : Int) (min (b : Int) (x.length : Int)) = max (0 : Int) (min (x.length : Int) (x.length : Int)) := by omega
        simp only [Builtin.Str.strSliceIndices, sliceRange, h1, h2, if_false, show ((1 : Int) > 0) = True from by simp, if_true, e2]
      unfold Txt.slice
      rw [e1]
    rw [e, key x.length (by omega) (Nat.le_refl _), List.take_of_length_le (by rw [List.length_drop]; omega), List.take_of_length_le (by rw [List.length_drop]; omega)]
theorem lawrepl_ok {w : World} {p : Program} {loose : List Str} {mean : ExcName → Option Value} {mg mb : Str → Option Value} {A : Around} {h₀ : Heap} {s : Shared} {Q E : Value → Shared → Prop}
  {x y z : Str} {tx ty tz : Tok} (hx : x.length ≤ 20) (hy : y.length ≤ 20) (hy1 : 1 ≤ y.length) (hz : z.length ≤ 20)
  (H : At w p loose mean mg mb A h₀ s 1)
  (hQ : ∀ t' h' tk, (∀ b o, s.heap.get? b = some o → h'.get? b = some o) → Q (.str (Txt.join z (Txt.split x y)) t') { s with heap := h', toks := tk }) :
  wpAny (model prg w) A (call (.ref 436) [.str x tx, .str y ty, .str z tz]) Q E s := by
  refine' enter0 H ?k6 ?k7 ?k9 ?kB ?_ ?c2 ?c3 ?c4 ?c5
  walk_at "my enter"
  intro dp fr gd un g L h₁ tk₁ hg F N X T hd hu hU
  dsimp only at F ⊢
  walk_at "my steps"
  rename Fr _ _ _ _ => F2
  rename News _ _ _ _ => N2
  refine while_my (σ := Nat × Tok × Str × Tok) (fun _ => []) (fun c => [(Str.ofString "text", .str x tx), (Str.ofString "part", .str y ty), (Str.ofString "other", .str z tz), (Str.ofString "found", .str c.2.2.1 c.2.2.2), (Str.ofString "at", .int c.1 c.2.1)])
    (fun c => c.1 ≤ x.length ∧ c.2.2.1.length ≤ c.1 * (1 + z.length) ∧ ∀ r, Scan (cpl y) (cpl z) ((cpl x).drop c.1) r → Scan (cpl y) (cpl z) (cpl x) (cpl c.2.2.1 ++ r)) (fun c => x.length - c.1) (0, _, Str.ofString "", _) F2 (fun q hq => nomatch hq) ⟨rfl, rfl, rfl, rfl, rfl, trivial⟩ ⟨Nat.zero_le _, Nat.zero_le _, fun r h => h⟩ ?_ noE_passes
  rintro ⟨i, ti, f, tf⟩ u h tk ⟨hi, hf, hv⟩ F3 N3
  dsimp only [kstB] at *
  have hcap : i * (1 + z.length) ≤ 20 * 21 := Nat.mul_le_mul (by omega) (by omega)
  walk_at "my steps"
  all_goals have hxl := length_cpl x
  all_goals have hyl := length_cpl y
  · rename (_ == y) = true => q
    rename Fr _ _ _ _ => F4
    rename News _ _ _ _ => N4
    have q' : Txt.slice x (some ((i : Nat) : Int)) (some ((i + y.length : Nat) : Int)) = y := eq_of_beq q
    have hc : ((cpl x).drop i).take (cpl y).length = cpl y := by
      have := cpl_slice (x := x) (a := i) (b := i + y.length) (by omega) (by omega)
      rw [q', Nat.add_sub_cancel_left, hyl] at this
      exact this.symm
    have hlen := congrArg List.length hc
    rw [List.length_take, List.length_drop] at hlen
    show TEnd _ _ _ _ _ _ _
    refine tend (i + y.length, _, f ++ z, _) F4 N4 (fun _ hq => nomatch hq) ⟨rfl, rfl, rfl, rfl, rfl, trivial⟩ ⟨⟨by dsimp only; omega, ?_, ?_⟩, by dsimp only; omega⟩
    · dsimp only
      rw [Str.length_append]
      have : (i + 1) * (1 + z.length) ≤ (i + y.length) * (1 + z.length) := Nat.mul_le_mul_right _ (by omega)
      rw [Nat.succ_mul] at this
      omega
    · intro r hr
      dsimp only at hr ⊢
      rw [cpl_append, List.append_assoc]
      exact hv _ (.hit hc (by rw [List.drop_drop, ← hyl]; exact hr))
  · rename (_ == y) = false => q
    rename Fr _ _ _ _ => F4
    rename News _ _ _ _ => N4
    have hlt : i < (cpl x).length := by omega
    have hi9 : (cpl x)[i]? = some (cpl x)[i] := List.getElem?_eq_getElem hlt
    have hd9 : (cpl x).drop i = (cpl x)[i] :: (cpl x).drop (i + 1) := List.drop_eq_getElem_cons hlt
    have hc : ((cpl x).drop i).take (cpl y).length ≠ cpl y := fun e => by
      have := cpl_slice (x := x) (a := i) (b := i + y.length) (by omega) (by omega)
      rw [Nat.add_sub_cancel_left, hyl, e] at this
      have e2 : Txt.slice x (some ((i : Nat) : Int)) (some ((i + y.length : Nat) : Int)) = y := cpl_ext this
      exact absurd e2 (beq_eq_false_iff_ne.mp q)
    rw [item_at hi9] at F4
    show TEnd _ _ _ _ _ _ _
    refine tend (i + 1, _, f ++ ⟨#[(cpl x)[i]]⟩, _) F4 N4 (fun _ hq => nomatch hq) ⟨rfl, rfl, rfl, rfl, rfl, trivial⟩ ⟨⟨by dsimp only; omega, ?_, ?_⟩, by dsimp only; omega⟩
    · dsimp only
      rw [Str.length_append, Nat.succ_mul]
      show f.length + 1 ≤ _
      omega
    · intro r hr
      dsimp only at hr ⊢
      rw [cpl_append, List.append_assoc]
      refine hv _ ?_
      rw [hd9] at hc ⊢
      exact .miss hc hr
  · walk_at "my end"
    have hi2 : (cpl x).length ≤ i := by omega
    have hS := hv [] (by rw [List.drop_eq_nil_of_le hi2]; exact .nil)
    rw [List.append_nil] at hS
    have e := Scan.det (fun e => by rw [e] at hyl; simp at hyl; omega) hS (scan_split (x := x) (y := y) (z := z) (by omega))
    rw [cpl_ext e]
    exact hQ _ _ _ fun b o e => F3.keep b o (hg b o e)
theorem pool_new {hp g : Heap} {d : Addr} (hg : ∀ b o, hp.get? b = some o → g.get? b = some o) (h : g.get? d = none) : hp.get? d = none := by
  cases q : hp.get? d with
  | none => rfl
  | some o => have := hg _ _ q; rw [h] at this; cases this
theorem pool_nn {a : Int} {c : Bool} (h : 0 ≤ a) : 0 ≤ a * (if c = true then 1 else 0) := by
  cases c <;> simp <;> omega
theorem lawpool_ok {w : World} {p : Program} {loose : List Str} {mean : ExcName → Option Value} {mg mb : Str → Option Value} {A : Around} {h₀ : Heap} {s : Shared} {Q E : Value → Shared → Prop}
  {sl : Addr} {vs : List Value} {ns : List Int} {k : Nat} {tk : Tok} (hl : s.heap.IsList sl vs.toArray) (hi : IntsAre vs ns) (hz : vs.length ≤ 1000) (hk : k < 3)
  (H : At w p loose mean mg mb A h₀ s 1)
  (hQ : ∀ d a b ta tb n h' tk', (∀ b o, s.heap.get? b = some o → h'.get? b = some o) → s.heap.get? d = none → h'.get? d = some (poolO a b ta tb n) → PoolOk a b → Q (.ref d) { s with heap := h', toks := tk' }) :
  wpAny (model prg w) A (call (.ref 374) [.ref sl, .int (k : Nat) tk]) Q E s := by
  refine' enter0 H ?k6 ?k7 ?k9 ?kB ?_ ?c2 ?c3 ?c4 ?c5
  walk_at "my enter"
  intro dp fr gd un g L h₁ tk₁ hg F N X T hd hu hU
  dsimp only at F ⊢
  have hlg : g.IsList sl vs.toArray := hl.at fun o e => hg sl o e
  walk_at "my steps"
  refine len_list (Fr.lst (by assumption) hlg) (by simp only [List.size_toArray]; omega) ?_
  rw [List.size_toArray]
  walk_at "my steps"
  all_goals walk_at "my end"
  all_goals rename Fr _ _ _ _ => F5
  all_goals rename News _ _ _ _ => N5
  all_goals refine hQ _ _ _ _ _ _ _ _ (fun b o e => F5.keep b o (hg b o e)) (pool_new hg (N5 _ (.head _)).2.2) (N5 _ (.head _)).1 ⟨pool_nn (by split <;> omega), fm _ (by decide)⟩
section
open Builtin
theorem rb_slot : Slot "bytes" "__repr__" "bytes.__repr__" :=
  .of (owner := "bytes") (n := "__repr__") (by rw [typeLookup_type, builtinLookup_eq_fast]; kernel_rfl) (by decide +kernel) (by decide +kernel) (by decide +kernel)
    (by first | exact .inl (by decide +kernel) | exact .inr (by decide +kernel)) (by rw [isSubtype_type]; kernel_rfl)
theorem rb_entry : entryFor table "bytes.__repr__" = some Builtin.«bytes.__repr__» := by first | exact entryFor_of_tree (by kernel_rfl) | exact entryFor_of_fast (by kernel_rfl)
theorem rb_args (a : Value) : argsOk "bytes.__repr__" ⟨[a], []⟩ := by
  unfold argsOk; rw [signature?_of (id := "bytes.__repr__") (n := ['_', '_', 'r', 'p', 'e', 'r', '_', '_']) (o := ['s', 'e', 't', 'y', 'b']) (by kernel_rfl) FB.owner_bytes]; kernel_rfl
theorem rb_gives (b : Array UInt8) (t : Tok) (hz : b.size ≤ 1000) : Gives (Builtin.«bytes.__repr__» ⟨[.bytes b t], []⟩) (.str (Bytes.literal b)) := .of_eq (by
  show (do let r ← Bytes.literalAsked b; retStr r : Sem Fin) = _
  have e : Bytes.tooLong (4 * b.size + 3 + 0) = false := by
    unfold Bytes.tooLong
    have := sizeLine_eq
    exact decide_eq_false (by omega)
  unfold Bytes.literalAsked
  rw [e]
  rfl)
theorem fold_size {g : Array Nat → UInt8 → Array Nat} (hg : ∀ acc c, (g acc c).size ≤ acc.size + 4) : ∀ (l : List UInt8) (acc : Array Nat), (l.foldl g acc).size ≤ acc.size + 4 * l.length
  | [], acc => by simp
  | c :: r, acc => by
    have ih := fold_size hg r (g acc c)
    have := hg acc c
    rw [List.foldl_cons, List.length_cons]
    omega
theorem literal_len {b : Array UInt8} (hz : b.size ≤ 1000) : (Bytes.literal b).length ≤ sizeLine := by
  rw [sizeLine_eq]
  unfold Bytes.literal
  show (Array.push _ _).size ≤ _
  rw [Array.size_push, ← Array.foldl_toList]
  refine Nat.le_trans (Nat.succ_le_succ (fold_size (fun acc c => ?_) _ _)) ?_
  · rw [Array.size_append]
    refine Nat.add_le_add_left ?_ _
    dsimp only
    repeat' split
    all_goals simp
  · show 2 + 4 * b.size + 1 ≤ _
    omega
theorem repr_bytes {prog : Program} {w : World} {A : Around} {E : Value → Shared → Prop} {s : Shared} {b : Array UInt8} {t : Tok} {Q : Value → Shared → Prop} (hz : b.size ≤ 1000) (h : Q (.str (Bytes.literal b) s.toks) { s with toks := s.toks + 1 }) :
    wpAny (model prog w) A (call (.builtin "repr") [.bytes b t]) Q E s :=
  call_repr_gives (typeIs_bytes s b t) rb_slot rb_entry (rb_args _) (rb_gives b t hz) h (hx := literal_len hz)
end
/-- a value and its repr, whatever its token -/
theorem repr_same {x : Str} (hx : x.length ≤ 1000) (hc : ∀ c ∈ cpl x, c < 1114112) : (reprText x).length ≤ sizeLine := by
  have := StrLaws.reprText_len x fun c h => Nat.lt_of_lt_of_le (hc c h) (by decide)
  rw [sizeLine_eq]; omega
theorem Scan.sub {Y Z : List Nat} {l r : List Nat} (h : Scan Y Z l r) : ∀ c ∈ r, c ∈ l ∨ c ∈ Z := by
  induction h with
  | nil => exact fun c h => nomatch h
  | hit h hr ih =>
    intro c hc
    rcases List.mem_append.mp hc with hc | hc
    · exact .inr hc
    · exact (ih c hc).imp List.mem_of_mem_drop id
  | miss h hr ih =>
    intro c hc
    rcases List.mem_cons.mp hc with rfl | hc
    · exact .inl (.head _)
    · exact (ih c hc).imp (.tail _) id
theorem repl_small {x y z : Str} (hy : 1 ≤ y.length) (hx : ∀ c ∈ cpl x, c < 1114112) (hz : ∀ c ∈ cpl z, c < 1114112) : ∀ c ∈ cpl (Txt.join z (Txt.split x y)), c < 1114112 := fun c hc =>
  ((scan_split (x := x) (y := y) (z := z) (by rw [← length_cpl]; exact hy)).sub c hc).elim (hx c) (hz c)
theorem repl_len {x y z : Str} (hy : 1 ≤ y.length) (hx : x.length ≤ 20) (hz : z.length ≤ 20) : (Txt.join z (Txt.split x y)).length ≤ 1000 := by
  have h := (scan_split (x := x) (y := y) (z := z) (by rw [← length_cpl]; exact hy)).len (by rw [← length_cpl]; exact hy)
  rw [← length_cpl, ← length_cpl, ← length_cpl] at h
  have : x.length * (1 + z.length) ≤ 20 * 21 := Nat.mul_le_mul hx (by omega)
  omega
section
open Builtin Builtin._codecs
theorem codec_utf8 (u : Tok) (id f which : String) : Str.codecArg id f which (some (.str (Str.ofString "utf-8") u)) = pure (some (Str.ofString "utf-8")) := by
  have e1 : (Str.ofString "utf-8").cps.any (· ≥ 128) = false := by decide +kernel
  have e2 : (Str.ofString "utf-8").cps.contains 0 = false := by decide +kernel
  show (do
    if (Str.ofString "utf-8").cps.any (· ≥ 128) then unsupported s!"{id}:non-ascii-name"
    if (Str.ofString "utf-8").cps.contains 0 then do { rule s!"{id}.nul-in-name"; raiseError "ValueError" "embedded null character" }
    pure (some (Str.ofString "utf-8")) : Sem (Option Str)) = _
  rw [e1, e2]; rfl
theorem encode_bind (u : Tok) : Str.bindOptional "str.encode" "encode" 0 ["encoding", "errors"] [.str (Str.ofString "utf-8") u] [] = pure [some (.str (Str.ofString "utf-8") u), none] := by kernel_rfl
theorem encode_tree2 (x : Str) (t u : Tok) : Builtin.«str.encode» ⟨[.str x t, .str (Str.ofString "utf-8") u], []⟩ = (do ret (← encodeRoad "str.encode" (.str x t) x (Str.ofString "utf-8") none)) := by
  show (Str.bindOptional "str.encode" "encode" 0 ["encoding", "errors"] [.str (Str.ofString "utf-8") u] [] >>= fun l => match l with
    | [encoding, errors] => (do
      let encoding := (← Str.codecArg "str.encode" "encode" "'encoding'" encoding).getD "utf-8"
      let errors ← Str.codecArg "str.encode" "encode" "'errors'" errors
      ret (← encodeRoad "str.encode" (.str x t) x encoding errors))
    | _ => unsupported "internal:str.encode") = _
  rw [encode_bind]
  show (Str.codecArg "str.encode" "encode" "'encoding'" (some (.str (Str.ofString "utf-8") u)) >>= fun e => Str.codecArg "str.encode" "encode" "'errors'" none >>= fun errors => do ret (← encodeRoad "str.encode" (.str x t) x (e.getD "utf-8") errors)) = _
  rw [codec_utf8]
  rfl
theorem enc_gives {x : Str} {t u : Tok} (hs : ∀ c ∈ cpl x, Str.isSurrogate c = false) (hz : x.cps.size ≤ 1000) : Gives (Builtin.«str.encode» ⟨[.str x t, .str (Str.ofString "utf-8") u], []⟩) (.bytes (utf8s x)) := .of_eq (by
  rw [encode_tree2, encodeRoad_utf8, narrow_utf8 _ _ x hs hz]
  rfl)
theorem enc_call {prog : Program} {w : World} {A : Around} {E : Value → Shared → Prop} {s : Shared} {x : Str} {t u : Tok} {Q : Value → Shared → Prop} (hs : ∀ c ∈ cpl x, Str.isSurrogate c = false) (hz : x.cps.size ≤ 1000)
    (h : ∀ t' k, Q (.bytes (utf8s x) t') { s with toks := k }) : wpAny (model prog w) A (call (.builtin "str.encode") [.str x t, .str (Str.ofString "utf-8") u]) Q E s :=
  call_gives F.slot_str_encode (typeIs_str s x t) F.entry_str_encode (F.args_str_encode_2 _ _) (enc_gives hs hz) (by
    have hu : (utf8s x).size ≤ 4 * x.cps.size := by rw [← pre8_all]; exact pre8_size (Nat.le_refl _)
    have hsl := sizeLine_eq
    first | exact ⟨by omega, h _ _⟩ | exact h _ _)
theorem enc_method {M : Model} {A : Around} {E : Value → Shared → Prop} {s : Shared} {x : Str} {t : Tok} {pl : Sem Bool} {Q : Value × List Value → Shared → Prop} (h : Q (.builtin "str.encode", [.str x t]) s) : wpAny M A (getMethod (.str x t) "encode" pl) Q E s :=
  GM.of (.str x t) (typeIs_str _ _ _) F.slot_str_encode F.type_str_encode GM.noRef h
theorem utf8s_size (x : Str) : (utf8s x).size ≤ 4 * x.length := by
  rw [← pre8_all]; exact pre8_size (Nat.le_refl _)
end
theorem off1_mem {D : Addr} : ∀ {l : List (Addr × Obj)}, LCg.Off1 D l → ∀ q ∈ l, q.1 ≠ D
  | [], _, q, hq => by simp at hq
  | p :: r, h, q, hq => by
    rcases List.mem_cons.mp hq with rfl | hq
    · exact h.1
    · exact off1_mem h.2 q hq
/-- what stands behind a call that changes the pool and hands back a new object -/
theorem drew_led {g h' : Heap} {s : Shared} {L src d : Addr} {m : Str → Option Value} {news : List (Addr × Obj)} {o o' od : Obj} {f : Obj → List (Addr × Obj)} (F : Fr g L s.heap m) (N : News g L s.heap news) (U : UpdF src o news f)
    (k : ∀ b o, b ≠ src → s.heap.get? b = some o → h'.get? b = some o) (ho : h'.get? src = some o') (hn : s.heap.get? d = none) (hd : h'.get? d = some od) : Fr g L h' m ∧ News g L h' ((d, od) :: f o') ∧ LCg.Off1 d (f o') := by
  obtain ⟨F', N'⟩ := news_drew F N U k ho
  have off : ∀ q ∈ f o', q.1 ≠ d := by
    obtain ⟨own, rest, rfl, hg, h1, h2⟩ := U.split
    rw [hg]
    intro q hq e
    have hm : ∃ ob, (q.1, ob) ∈ own ++ (src, o) :: rest := by
      rcases List.mem_append.mp hq with hq | hq
      · exact ⟨q.2, List.mem_append_left _ hq⟩
      · rcases List.mem_cons.mp hq with rfl | hq
        · exact ⟨o, List.mem_append_right _ (.head _)⟩
        · exact ⟨q.2, List.mem_append_right _ (.tail _ hq)⟩
    obtain ⟨ob, hm⟩ := hm
    have := (N _ hm).1
    rw [e, hn] at this; cases this
  refine ⟨F', fun q hq => ?_, off1_of off⟩
  rcases List.mem_cons.mp hq with rfl | hq
  · refine ⟨hd, fun e => ?_, ?_⟩
    · obtain ⟨oL, _, _, hL, _⟩ := F.ns
      subst e; rw [hL] at hn; cases hn
    · cases q : g.get? d with
      | none => rfl
      | some o => have := F.keep _ _ q; rw [hn] at this; cases this
  · exact N' q hq
inductive OtherOk : Value → Str → Prop
  | str {z : Str} {t : Tok} (h1 : z.length ≤ 20) (h2 : ∀ c ∈ cpl z, c < 1114112) : OtherOk (.str z t) z
  | int {z : Int} {t : Tok} (h0 : z.natAbs < 10 ^ 30) (h1 : (Str.ofString (toString z)).length ≤ 20) (h2 : ∀ c ∈ cpl (Str.ofString (toString z)), c < 1114112) : OtherOk (.int z t) (Str.ofString (toString z))
theorem OtherOk.texty {v : Value} {z : Str} (h : OtherOk v z) : Texty v z ∧ z.length ≤ 20 ∧ ∀ c ∈ cpl z, c < 1114112 := by
  cases h with
  | str h1 h2 => exact ⟨.str (by omega), h1, h2⟩
  | int h0 h1 h2 => exact ⟨.int h0, h1, h2⟩
theorem other_in {v : Value} {t1 t2 t3 t4 t5 t6 : Tok} {i : Nat} (h : [Value.str (Str.ofString "") t1, .str (Str.ofString "x") t2, .str (Str.ofString "ab") t3, .str (Str.ofString "\x00") t4, .int 7 t5, .int (-30) t6][i]? = some v) :
    ∃ z, OtherOk v z := by
  have m := List.mem_of_getElem? h
  have key : ∀ z ∈ [(7 : Int), -30], z.natAbs < 10 ^ 30 ∧ (Str.ofString (toString z)).length ≤ 20 ∧ ∀ c ∈ cpl (Str.ofString (toString z)), c < 1114112 := by decide +kernel
  have keyS : ∀ z ∈ [Str.ofString "", Str.ofString "x", Str.ofString "ab", Str.ofString "\x00"], z.length ≤ 20 ∧ ∀ c ∈ cpl z, c < 1114112 := by decide +kernel
  simp only [List.mem_cons, List.not_mem_nil, or_false] at m
  rcases m with rfl | rfl | rfl | rfl | rfl | rfl
  · exact ⟨_, .str (keyS _ (by simp)).1 (keyS _ (by simp)).2⟩
  · exact ⟨_, .str (keyS _ (by simp)).1 (keyS _ (by simp)).2⟩
  · exact ⟨_, .str (keyS _ (by simp)).1 (keyS _ (by simp)).2⟩
  · exact ⟨_, .str (keyS _ (by simp)).1 (keyS _ (by simp)).2⟩
  · exact ⟨_, .int (key _ (by simp)).1 (key _ (by simp)).2.1 (key _ (by simp)).2.2⟩
  · exact ⟨_, .int (key _ (by simp)).1 (key _ (by simp)).2.1 (key _ (by simp)).2.2⟩
local macro_rules | `(tactic| walk_at "my steps") => `(tactic| repeat' (first | (k_unfold; (try dsimp only)) | ((fail_if_success (first | (with_reducible show wpAny _ _ (exec (Stmt.While _ _ _ _) _) _ _ _) | (with_reducible show wpAny _ _ (exec (Stmt.For _ _ _ _ _) _) _ _ _) | (with_reducible show wpAny _ _ (pyIter _) _ _ _) | (with_reducible show wpAny _ _ (eval (Expr.ListComp _ _ _ _) _) _ _ _) | (with_reducible show wpAny _ _ (exec (Stmt.Assign _ (Expr.ListComp _ _ _ _) _) _) _ _ _) | (with_reducible show LCg.CompEnd _ _ _ _ _ _ _ _ _ _ _ _ _ _) | (with_reducible show LCg.CompSrc _ _ _ _ _ _ _ _ _ _ _ _ _ _) | (with_reducible show LCp.SrcLP _ _ _ _ _ _ _ _ _ _ _ _ _ _ _) | (with_reducible show wpAny _ _ (eval (Expr.IfExp _ _ _ _) _) _ _ _))); first | walk1 | (dsimp only; (fail_if_success (first | (with_reducible show wpAny _ _ (exec (Stmt.While _ _ _ _) _) _ _ _) | (with_reducible show wpAny _ _ (exec (Stmt.For _ _ _ _ _) _) _ _ _) | (with_reducible show wpAny _ _ (pyIter _) _ _ _) | (with_reducible show wpAny _ _ (eval (Expr.ListComp _ _ _ _) _) _ _ _) | (with_reducible show wpAny _ _ (exec (Stmt.Assign _ (Expr.ListComp _ _ _ _) _) _) _ _ _) | (with_reducible show LCg.CompEnd _ _ _ _ _ _ _ _ _ _ _ _ _ _) | (with_reducible show LCg.CompSrc _ _ _ _ _ _ _ _ _ _ _ _ _ _) | (with_reducible show LCp.SrcLP _ _ _ _ _ _ _ _ _ _ _ _ _ _ _) | (with_reducible show wpAny _ _ (eval (Expr.IfExp _ _ _ _) _) _ _ _))); walk1)) | (leave1; (try dsimp only)) | fail "no step"))
/-- what replacing gives back -/
def DueOk (v : Value) (x y z : Str) (r : Value) : Prop := (y = Str.ofString "" ∧ r = v) ∨ (y ≠ Str.ofString "" ∧ ∃ t, r = .str (Txt.join z (Txt.split x y)) t)
theorem log_small {n : Nat} (h : n < 10 ^ 30) : n.log2 < 1920 := by
  by_cases h0 : n = 0
  · subst h0; decide
  · exact (Nat.log2_lt h0).2 (Nat.lt_of_lt_of_le h (by decide +kernel))
theorem cut_eval {M : Model} {A : Around} {E : Value → Shared → Prop} {s : Shared} {g : Heap} {L : Addr} {m : Str → Option Value} {news : List (Addr × Obj)} {c : Sem Value} {Q : Value → Shared → Prop} (F : Fr g L s.heap m) (N : News g L s.heap news) (D : Value → Prop)
    (h : wpAny M A c (fun v s₁ => ∃ h' tk', s₁ = { s with heap := h', toks := tk' } ∧ Fr g L h' m ∧ News g L h' news ∧ D v) E s)
    (k : ∀ v h' tk', D v → Fr g L h' m → News g L h' news → Q v { s with heap := h', toks := tk' }) : wpAny M A c Q E s :=
  wpAny_mono h (fun v s₁ hv => by
    obtain ⟨h', tk', rfl, F', N', hD⟩ := hv
    exact k v h' tk' hD F' N') fun _ _ e => e
theorem len_nil {y : Str} (h : y.length = 0) : y = Str.ofString "" := Str.ext' (Array.eq_empty_of_size_eq_zero h)
def Shows (w : World) (v : Value) (R : Str) : Prop := ∀ A E s Q, Q (.str R s.toks) { s with toks := s.toks + 1 } → wpAny (model prg w) A (call (.builtin "repr") [v]) Q E s
theorem due_shows {w : World} {v : Value} {x y z : Str} (hv : Texty v x) (hx : x.length ≤ 20) (hxc : ∀ c ∈ cpl x, c < 1114112) (hz : z.length ≤ 20) (hzc : ∀ c ∈ cpl z, c < 1114112) : ∃ R, ∀ r, DueOk v x y z r → Shows w r R := by
  by_cases hy : y = Str.ofString ""
  · cases hv with
    | str h => exact ⟨_, fun r hr A E s Q h => by
        rcases hr with ⟨_, rfl⟩ | ⟨q, _⟩
        · exact P.repr_of_str h (hsz := repr_same (by omega) hxc)
        · exact absurd hy q⟩
    | int h9 => exact ⟨_, fun r hr A E s Q h => by
        rcases hr with ⟨_, rfl⟩ | ⟨q, _⟩
        · exact P.repr_of_int (log_small h9) h
        · exact absurd hy q⟩
    | bytes hb h9 => exact ⟨_, fun r hr A E s Q h => by
        rcases hr with ⟨_, rfl⟩ | ⟨q, _⟩
        · exact repr_bytes (by omega) h
        · exact absurd hy q⟩
  · have hy1 : 1 ≤ y.length := by
      rcases Nat.eq_zero_or_pos y.length with e | e
      · exact absurd (Str.ext' (Array.eq_empty_of_size_eq_zero e) : y = Str.ofString "") hy
      · exact e
    exact ⟨_, fun r hr A E s Q h => by
      rcases hr with ⟨q, _⟩ | ⟨_, t, rfl⟩
      · exact absurd q hy
      · exact P.repr_of_str h (hsz := repr_same (repl_len hy1 hx hz) (repl_small hy1 hxc hzc))⟩
theorem nulls_in {v p o : Value} {x y z : Str} {r : Int} (hv : Texty v x) (hp : Texty p y) (ho : Texty o z) (r0 : 0 ≤ r) (r1 : r < 3) : (∀ u ∈ [v, p, o].set r.toNat .none, u = .none ∨ ∃ x, Texty u x) ∧ .none ∈ [v, p, o].set r.toNat .none := by
  refine ⟨fun u hu => ?_, List.mem_set (show r.toNat < 3 by omega) _⟩
  rcases List.mem_or_eq_of_mem_set hu with hu | rfl
  · simp only [List.mem_cons, List.not_mem_nil, or_false] at hu
    rcases hu with rfl | rfl | rfl
    · exact .inr ⟨_, hv⟩
    · exact .inr ⟨_, hp⟩
    · exact .inr ⟨_, ho⟩
  · exact .inl rfl
theorem set_toList {h : Heap} {l : Addr} {us : List Value} {k : Nat} {u : Value} (hl : h.IsList l (us.toArray.setIfInBounds k u)) : h.IsList l (us.set k u).toArray := by
  rwa [List.setIfInBounds_toArray] at hl
theorem lawrr_ok {w : World} {p : Program} {loose : List Str} {mean : ExcName → Option Value} {mg mb : Str → Option Value} {A : Around} {h₀ : Heap} {s : Shared} {Q E : Value → Shared → Prop}
  {src : Addr} {a b : Int} {ta tb : Tok} {n : Nat}
  (H : At w p loose mean mg mb A h₀ s 8) (hs : s.heap.get? src = some (poolO a b ta tb n)) (h0 : h₀.get? src = none)
  (P : PoolOk a b)
  (hQ : ∀ h' tk a' b' ta' tb', (∀ b o, b ≠ src → s.heap.get? b = some o → h'.get? b = some o) → h'.get? src = some (poolO a' b' ta' tb' n) → PoolOk a' b' → Q (.bool true) { s with heap := h', toks := tk }) :
  wpAny (model prg w) A (call (.ref 443) [.ref src]) Q E s := by
  refine' enter [(src, poolO a b ta tb n)] H ?N ?k6 ?k7 ?k9 ?kB ?_ ?c2 ?c3 ?c4 ?c5
  walk_at "my enter"
  case N => exact fun q hq => by
              rcases List.mem_singleton.mp hq with rfl
              exact ⟨hs, h0⟩
  intro dp fr gd un g L h₁ tk₁ hg hL F N X T hd hu hU
  dsimp only at F ⊢
  walk_at "my steps"
  rename Fr _ _ _ _ => F2
  rename News _ _ _ _ => N2
  refine lawvalue_ok (At.of F2 X T rfl hd hu (by decide)) (N2 _ (.head _)).1 (N2 _ (.head _)).2.2 P fun d v x t m h' tk' a' b' ta' tb' k1 k2 P2 hn hdo hv hx hxc => ?_
  obtain ⟨F3, N3, off⟩ := drew_led F2 N2 (.head (r := []) fun _ h => nomatch h) k1 k2 hn hdo
  clear F2 N2
  simp only [LCg.Off1, and_true] at off
  walk_at "my steps"
  rename Fr _ _ _ _ => F2
  rename News _ _ _ _ => N2
  have U2 := UpdF.tail (p := (d, ({ cls := .type "tuple", data := .seq #[v, .str x t] m } : Obj))) (d := src) (o := poolO a' b' ta' tb' n) (Ne.symm off) (.head (r := []) fun _ h => nomatch h)
  refine lawpart_ok hx (At.of F2 X T rfl hd hu (by decide)) (N2 (src, _) (by k_mem)).1 (N2 (src, _) (by k_mem)).2.2 P2 fun part y h' tk' a' b' ta' tb' k1 k2 P3 hy => ?_
  obtain ⟨F3, N3⟩ := news_drew F2 N2 U2 k1 k2
  clear F2 N2 k1 k2
  walk_at "my steps"
  rename (_ : List Value)[_]? = some _ => hv9
  obtain ⟨z, hz⟩ : ∃ z, OtherOk _ z := other_in hv9
  obtain ⟨R, hR⟩ := due_shows (w := w) (y := y) hv hx hxc hz.texty.2.1 hz.texty.2.2
  rename Fr _ _ _ _ => F2
  rename News _ _ _ _ => N2
  refine cut_eval F2 N2 (DueOk v x y z) ?_ fun due h' tk' hdue F3 N3 => ?_
  · refine wpAny_IfExp ?_
    cases hy with
    | str hyz =>
      walk_at "my steps"
      · first | assumption | (dsimp only; assumption)
      · first | assumption | (dsimp only; assumption)
      · exact .inl ⟨len_nil (by omega), rfl⟩
      · have hy1 : 1 ≤ y.length := by omega
        have hne : y ≠ Str.ofString "" := fun e => by rw [e] at hy1; exact absurd hy1 (by decide)
        have hzz := hz.texty
        cases hz with
        | str h1 h2 =>
          walk_at "my steps"
          rename Fr _ _ _ _ => F6
          rename News _ _ _ _ => N6
          refine lawrepl_ok hx hyz hy1 hzz.2.1 (At.of F6 X T rfl hd hu (by decide)) fun t' h' tk' up => ?_
          obtain ⟨F7, N7⟩ := news_up F6 N6 up
          exact ⟨_, _, rfl, F7, N7, .inr ⟨hne, _, rfl⟩⟩
        | int h0 h1 h2 =>
          walk_at "my steps"
          rename Fr _ _ _ _ => F6
          rename News _ _ _ _ => N6
          refine lawrepl_ok hx hyz hy1 hzz.2.1 (At.of F6 X T rfl hd hu (by decide)) fun t' h' tk' up => ?_
          obtain ⟨F7, N7⟩ := news_up F6 N6 up
          exact ⟨_, _, rfl, F7, N7, .inr ⟨hne, _, rfl⟩⟩
    | bytes =>
      walk_at "my steps"
      · first | assumption | (dsimp only; assumption)
      · first | assumption | (dsimp only; assumption)
      · exact .inl ⟨rfl, rfl⟩
  · clear F2 N2
    walk_at "my steps"
    rename Fr _ _ _ _ => F6
    rename News _ _ _ _ => N6
    refine cut_eval F6 N6 (DueOk v x y z) (lc_replace (N6.isList (.head _)) hv hy.texty hz.texty.1 (by omega) (by have := hy.len; omega) (by have := hz.texty.2.1; omega) (At.of F6 X T rfl hd hu (by decide)) (fun q h' tk' up => ?_) (fun q t' h' tk' up => ?_)) fun r h' tk' hr F7 N7 => ?_
    · obtain ⟨F7, N7⟩ := news_up F6 N6 up
      exact ⟨_, _, rfl, F7, N7, .inl ⟨q, rfl⟩⟩
    · obtain ⟨F7, N7⟩ := news_up F6 N6 up
      exact ⟨_, _, rfl, F7, N7, .inr ⟨q, _, rfl⟩⟩
    clear F6 N6
    walk_at "my steps"
    refine hR r hr _ _ _ _ ?_
    walk_at "my steps"
    refine hR due hdue _ _ _ _ ?_
    walk_at "my steps"
    · rename (R != R) = true => q
      rw [bne_self_eq_false] at q
      cases q
    · rename Fr _ _ _ _ => F6
      rename News _ _ _ _ => N6
      rename (_ : Int) < 3 => r1
      rename PoolOk _ _ => P9
      refine wpAny_setItem_list (items := #[v, part, _]) (N6.isList (by k_mem)) (by assumption) (by omega) (by show _ < ((3 : Nat) : Int); omega) fun h' hl' hsb => ?_
      have F7 := F6.change hsb (N6 (_, W.listOf #[v, part, _] _) (by k_mem)).2.1 (N6 (_, W.listOf #[v, part, _] _) (by k_mem)).2.2
      have s7 := hsb.extBut src _ (by k_ne) (N6 (src, poolO _ _ _ _ n) (by k_mem)).1
      have N7 : News g L h' [(src, poolO _ _ _ _ n)] := fun q hq => by
        rcases List.mem_singleton.mp hq with rfl
        exact ⟨s7, (N6 (src, poolO _ _ _ _ n) (by k_mem)).2⟩
      clear F6 N6 hsb s7
      have hn9 := nulls_in (v := v) (p := part) hv hy.texty hz.texty.1 (by assumption) r1
      have hl9 := set_toList hl'
      walk_at "my steps"
      rename Fr _ _ _ _ => F6
      rename News _ _ _ _ => N6
      refine lc_replace_null hl9 hn9.1 hn9.2 (At.of F6 X T rfl hd hu (by decide)) fun h' tk' up => ?_
      obtain ⟨F7, N7⟩ := news_up F6 N6 up
      clear F6 N6 up
      walk_at "my steps"
      walk_at "my end"
      rename Fr _ _ _ _ => F6
      rename News _ _ _ _ => N6
      exact hQ _ _ _ _ _ _ (fun b o hb e => F6.keep b o (hg b o (by simpa using hb) e)) (N6 (src, poolO _ _ _ _ n) (by k_mem)).1 P9
section
variable {w : World} {p : Program} {loose : List Str} {mean : ExcName → Option Value} {mg mb : Str → Option Value} {A : Around} {h₀ : Heap} {s : Shared}
  {name qual : Str} {params : Arguments} {body : List Stmt} {scope : Scope} {dV kV doc pm cdv ct oc : Value} {an od : Option Addr} {osl : Array (Option Value)} {f : Addr} {vals : List Value} {binds : List (Str × Value)}
  {Q : Value → Shared → Prop} {k : Nat}
/-- entering a def with cells, restricted -/
theorem enterRC (news : List (Addr × Obj)) (H : At w p loose mean mg mb A h₀ s (k + 1)) (N : ∀ q ∈ news, s.heap.get? q.1 = some q.2 ∧ h₀.get? q.1 = none)
    (ho : (Mine.K w.params).lookup f = some ⟨oc, od, .func (fnOf name qual params body scope dV kV doc pm an cdv ct), osl⟩) (hcd : codeIn (Mine.K w.params) cdv qual = true)
    (hbind : BindsTo s (fnOf name qual params body scope dV kV doc pm an cdv ct) ⟨vals, []⟩ binds)
    (hkind : (binds.all fun y => scope.names.lookup y.1 == some .local || scope.names.lookup y.1 == some .cell) = true) (hnd : ((cellsFrom 0 scope.names []).map (·.1)).Nodup)
    (h : ∀ dp fr gd un g L h₁ tk cells, (∀ b o, b ∉ news.map (·.1) → s.heap.get? b = some o → g.get? b = some o) → (∀ q ∈ news, q.1 < L) → Fr g L h₁ (bindL (envOfC qual scope L f cdv).kindOf binds fun _ => none) → News g L h₁ (cells ++ news) →
      CellsAre (bindC (envOfC qual scope L f cdv).kindOf binds fun _ => none) (cellsFrom (L + 1) scope.names []) cells → (Mine.K w.params).In g → Top p loose mean mg mb g →
      (arr dp fr gd un).depth + k < 1000 → (arr dp fr gd un).units + 8 * k ≤ 9800 → (arr dp fr gd un).units ≤ 9800 →
      wpR (model prg w) (arr dp fr gd un) (execs body (envOfC qual scope L f cdv))
        (fun fl s' => Q (match fl with | .ret v => v | _ => .none) s') noE { s with heap := h₁, toks := tk })
    (hco : scope.isCoroutine = false) (hgen : scope.isGenerator = false) (hk : scope.kind = .function) :
    wpR (model prg w) A (call (.ref f) vals) Q noE s := by
  obtain ⟨h9, dp, fr, gd, un⟩ := A
  obtain rfl : h9 = none := H.handled
  refine wpR_call ?_
  have st : ∀ b o, h₀.get? b = some o → (hideAll s.heap (news.map (·.1))).get? b = some o := fun b o e => hideAll_get _ (H.keep b o e) fun q => by
    obtain ⟨r, hr, rfl⟩ := List.mem_map.mp q
    rw [(N r hr).2] at e; cases e
  have hdep := H.depth
  have hun := H.units
  refine codeR_call_function (show dp < 1000 by simp only at hdep; omega) (H.keep _ _ (H.X _ _ ho)) rfl hco hgen rfl (codeRec_of (H.X.keeps H.keep) hcd) (hbind _ _ _ _ ?_)
  refine wpAny_newFunctionEnv_cells hk (kindsX hkind _) fun env' he s' x => ?_
  subst he
  refine ⟨(H.T.nolimit.keeps H.keep).keeps x.toInCall.keep, codeR_func ?_⟩
  obtain ⟨h₁, tk, rfl, _⟩ := x.done
  have hk₁ := x.toInCall.keep
  obtain ⟨cells, NC, Y⟩ := Cl.news (h₀ := s.heap) (Nat.le_refl _) fun n c hm => ⟨x.cell n c (lookup_of_mem_nodup (cellsFrom_names scope.names 0 (s.heap.objs.size + 1) [] [] rfl ▸ hnd) hm), x.above n c hm⟩
  have := h (dp + 1) (fr.map ((envOfC qual scope s.heap.objs.size f cdv) :: ·)) gd (un + 3) _ s.heap.objs.size h₁ tk cells (fun b o hb e => hideAll_get _ e hb) (fun q hq => Heap.lt_size (N q hq).1) ⟨x.toInCall.ns, fun b o e => hk₁ b o (of_hideAll _ e), Nat.le_of_eq (hideAll_size _ _)⟩
    (fun q hq => by
      rcases List.mem_append.mp hq with hq | hq
      · refine ⟨(NC q hq).1, (NC q hq).2.1, ?_⟩
        cases e : (hideAll s.heap (news.map (·.1))).get? q.1 with
        | none => rfl
        | some o => have := of_hideAll _ e; rw [(NC q hq).2.2] at this; cases this
      · exact ⟨hk₁ _ _ (N q hq).1, Nat.ne_of_lt (Heap.lt_size (N q hq).1), hideAll_none _ (List.mem_map_of_mem hq)⟩) Y (H.X.keeps st) (H.T.keeps st)
    (show dp + 1 + k < 1000 by simp only at hdep; omega) (show un + 3 + 8 * k ≤ 9800 by simp only at hun; omega) (show un + 3 ≤ 9800 by simp only at hun; omega)
  exact wpR_mono this (fun fl s' hl => hl) fun _ _ y => False.elim y
end
section
open PyProof.Rows.LCg
variable {prog : Program} {w : World} {A : Around} {E : Value → Shared → Prop} {s : Shared} {h₀ : Heap} {L : Addr} {m : Str → Option Value} {env : Env}
/-- the turns of a comprehension over pairs by what holds between them -/
theorem compRestP_inv {elt : PySem.Expr} {x x₂ : Str} {scope : Scope} {cl : List (Str × Addr)} {S : List (Addr × Obj) → Prop} {P : Nat → Value → Prop} {Fin : List Value → List (Addr × Obj) → Prop} {n : Nat} (Inv : Nat → List Value → List (Addr × Obj) → Prop)
    (turn : ∀ i ys news, i < n → Inv i ys news → ∀ v, P i v → ∃ (t : Addr) (ot : Obj) (v₁ v₂ : Value) (nt : Nat), v = .ref t ∧ (t, ot) ∈ news ∧ ot.cls = .type "tuple" ∧ ot.data = .seq #[v₁, v₂] nt ∧
      ∀ I oI C oC D m₂ h tk (E' : Value → Shared → Prop), NsObj oC m₂ → m₂ x = some v₁ → m₂ x₂ = some v₂ → Fr h₀ L h m → News h₀ L h ((I, oI) :: (C, oC) :: (D, lst ys) :: news) → Off3 I C D news → ((@Ne Nat I C) ∧ (@Ne Nat I D) ∧ (@Ne Nat C D)) →
      wpAny (model prog w) A (eval elt (compEnvC scope cl C env)) (CompEnd h₀ L m { s with heap := h, toks := tk } I oI C oC D (lst ys) S (fun y news' => Inv (i + 1) (ys ++ [y]) news')) E' { s with heap := h, toks := tk })
    (fin : ∀ ys news, Inv n ys news → Fin ys news) : ∀ (k i : Nat) (ys : List Value) (news : List (Addr × Obj)), i + k = n → Inv i ys news → LCp.CompRestP prog w A h₀ L m env elt x x₂ scope cl s S P Fin k i ys news
  | 0, i, ys, news, e, hI => by
    obtain rfl : i = n := by omega
    exact .zero (fin _ _ hI)
  | k + 1, i, ys, news, e, hI => by
    refine .succ fun v hP => ?_
    obtain ⟨t, ot, v₁, v₂, nt, hv, hm, hc, hd, z⟩ := turn i ys news (by omega) hI v hP
    refine ⟨t, ot, v₁, v₂, nt, hv, hm, hc, hd, fun I oI C oC D m₂ h tk E' hC hx hx₂ F N off ne => ?_⟩
    refine wpAny_mono (z I oI C oC D m₂ h tk E' hC hx hx₂ F N off ne) (fun y s₂ hy => ?_) fun _ _ q => q
    obtain ⟨h', tk', news', rfl, F', N', off', hS, r⟩ := hy
    exact ⟨h', tk', news', rfl, F', N', off', hS, compRestP_inv Inv turn fin k (i + 1) _ _ (by omega) r⟩
/-- the turns of a comprehension with a test by what holds between them -/
theorem compRestT_inv {ct elt : PySem.Expr} {x : Str} {scope : Scope} {cl : List (Str × Addr)} {S : List (Addr × Obj) → Prop} {P : Nat → Value → Prop} {Fin : List Value → List (Addr × Obj) → Prop} {n : Nat} (Inv : Nat → List Value → List (Addr × Obj) → Prop)
    (turn : ∀ i ys news, i < n → Inv i ys news → ∀ v I oI C oC D m₂ h tk (E' : Value → Shared → Prop), P i v → NsObj oC m₂ → m₂ x = some v → Fr h₀ L h m → News h₀ L h ((I, oI) :: (C, oC) :: (D, lst ys) :: news) → Off3 I C D news → ((@Ne Nat I C) ∧ (@Ne Nat I D) ∧ (@Ne Nat C D)) →
      wpAny (model prog w) A (isTrue ct (compEnvC scope cl C env) (eval ct (compEnvC scope cl C env))) (fun ok s' => if ok = true then
        wpAny (model prog w) A (eval elt (compEnvC scope cl C env)) (CompEnd h₀ L m { s with heap := h, toks := tk } I oI C oC D (lst ys) S (fun y news' => Inv (i + 1) (ys ++ [y]) news')) E' s'
        else CompEnd h₀ L m { s with heap := h, toks := tk } I oI C oC D (lst ys) S (fun _ news' => Inv (i + 1) ys news') Value.none s') E' { s with heap := h, toks := tk })
    (fin : ∀ ys news, Inv n ys news → Fin ys news) : ∀ (k i : Nat) (ys : List Value) (news : List (Addr × Obj)), i + k = n → Inv i ys news → LCt.CompRestT prog w A h₀ L m env ct elt x scope cl s S P Fin k i ys news
  | 0, i, ys, news, e, hI => by
    obtain rfl : i = n := by omega
    exact .zero (fin _ _ hI)
  | k + 1, i, ys, news, e, hI => by
    refine .succ fun v I oI C oC D m₂ h tk E' hP hC hx F N off ne => ?_
    refine wpAny_mono (turn i ys news (by omega) hI v I oI C oC D m₂ h tk E' hP hC hx F N off ne) (fun ok s₂ hy => ?_) fun _ _ q => q
    cases ok with
    | true =>
      simp only [if_true] at hy ⊢
      refine wpAny_mono hy (fun y s₃ hy => ?_) fun _ _ q => q
      obtain ⟨h', tk', news', rfl, F', N', off', hS, r⟩ := hy
      exact ⟨h', tk', news', rfl, F', N', off', hS, compRestT_inv Inv turn fin k (i + 1) _ _ (by omega) r⟩
    | false =>
      simp only [Bool.false_eq_true, if_false] at hy ⊢
      obtain ⟨h', tk', news', rfl, F', N', off', hS, r⟩ := hy
      exact ⟨h', tk', news', rfl, F', N', off', hS, compRestT_inv Inv turn fin k (i + 1) _ _ (by omega) r⟩
end
abbrev tupO (v : Value) (c : Nat) (t : Tok) (m : Nat) : Obj := { cls := .type "tuple", data := .seq #[v, .str ⟨#[c]⟩ t] m }
/-- what has been drawn: the pair's address, the number, its sign -/
abbrev Rec9 : Type := Addr × Value × Nat × Tok × Nat
noncomputable def tups (ps : List Rec9) : List (Addr × Obj) := ps.map fun p => (p.1, tupO p.2.1 p.2.2.1 p.2.2.2.1 p.2.2.2.2)
noncomputable def refs9 (ps : List Rec9) : List Value := ps.map fun p => .ref p.1
noncomputable def givens (ps : List Rec9) : List Value := ps.map fun p => p.2.1
noncomputable def codes (ps : List Rec9) : List Nat := ps.map fun p => p.2.2.1
noncomputable def signs9 (ps : List Rec9) : List Value := ps.map fun p => .str ⟨#[p.2.2.1]⟩ p.2.2.2.1
def DrawnOk (ps : List Rec9) : Prop := ∀ p ∈ ps, Numb p.2.1 p.2.2.1 ∧ p.2.2.1 < 1114112 ∧ Str.isSurrogate p.2.2.1 = false
theorem numbs_of : ∀ {ps : List Rec9}, DrawnOk ps → Numbs (givens ps) (codes ps)
  | [], _ => .nil
  | p :: r, h => .cons (h p (.head _)).1 (numbs_of fun q hq => h q (.tail _ hq))
theorem codes_ok {ps : List Rec9} (h : DrawnOk ps) : ∀ c ∈ codes ps, c < 1114112 ∧ Str.isSurrogate c = false := fun c hc => by
  obtain ⟨p, hp, rfl⟩ := List.mem_map.mp hc
  exact (h p hp).2
theorem signs_are : ∀ (ps : List Rec9), StrsAre (signs9 ps) ((codes ps).map fun c => (⟨#[c]⟩ : Str))
  | [] => .nil
  | _ :: r => .cons _ _ (signs_are r)
theorem tups_at {ps : List Rec9} {i : Nat} {p : Rec9} (h : ps[i]? = some p) : (p.1, tupO p.2.1 p.2.2.1 p.2.2.2.1 p.2.2.2.2) ∈ tups ps := List.mem_map_of_mem (List.mem_of_getElem? h)
theorem number_call {w : World} {p : Program} {loose : List Str} {mean : ExcName → Option Value} {mg mb : Str → Option Value} {A : Around} {g : Heap} {s : Shared} {Q E : Value → Shared → Prop} {L : Addr} {m : Str → Option Value} {news : List (Addr × Obj)} {f : Obj → List (Addr × Obj)} {k : Nat}
  {src : Addr} {a b : Int} {ta tb : Tok} {n : Nat} (F : Fr g L s.heap m) (N : News g L s.heap news) (X : (Mine.K w.params).In g) (T : Top p loose mean mg mb g) (hh : A.handled = none) (hd : A.depth + k < 1000) (hu : A.units + 8 * k ≤ 9800)
  (hk : 3 ≤ k) (U : UpdF src (poolO a b ta tb n) news f) (P : PoolOk a b)
  (hQ : ∀ (q : Rec9) h' tk a' b' ta' tb', Fr g L h' m → News g L h' ((q.1, tupO q.2.1 q.2.2.1 q.2.2.2.1 q.2.2.2.2) :: f (poolO a' b' ta' tb' n)) → (∀ r ∈ f (poolO a' b' ta' tb' n), r.1 ≠ q.1) → PoolOk a' b' → (Numb q.2.1 q.2.2.1 ∧ q.2.2.1 < 1114112 ∧ Str.isSurrogate q.2.2.1 = false) → Q (.ref q.1) { s with heap := h', toks := tk }) :
  wpAny (model prg w) A (call (.ref 402) [.ref src]) Q E s :=
  number_ok (At.of F X T hh hd hu hk) (N _ (upd_mem U)).1 (N _ (upd_mem U)).2.2 P fun d v c t m' h' tk a' b' ta' tb' k1 k2 P' hn ho hv hc =>
    let ⟨F', N', off⟩ := drew_led F N U k1 k2 hn ho
    hQ (d, v, c, t, m') h' tk a' b' ta' tb' F' N' (fun _ hr => off1_mem off _ hr) P' ⟨hv, hc⟩
theorem tups_snoc (ps : List Rec9) (q : Rec9) : tups (ps ++ [q]) = tups ps ++ [(q.1, tupO q.2.1 q.2.2.1 q.2.2.2.1 q.2.2.2.2)] := List.map_append
theorem refs_snoc (ps : List Rec9) (q : Rec9) : refs9 (ps ++ [q]) = refs9 ps ++ [.ref q.1] := List.map_append
theorem sub_snoc {α : Type} {x : α} {l m : List α} : ∀ p ∈ l ++ (m ++ [x]), p ∈ x :: (l ++ m) := fun p hp => by
  rcases List.mem_append.mp hp with hp | hp
  · exact .tail _ (List.mem_append_left _ hp)
  · rcases List.mem_append.mp hp with hp | hp
    · exact .tail _ (List.mem_append_right _ hp)
    · rw [List.mem_singleton.mp hp]; exact .head _
theorem off3_snoc {I C D : Addr} {l : List (Addr × Obj)} {q : Addr × Obj} (h : LCg.Off3 I C D l) (hq : q.1 ≠ I ∧ q.1 ≠ C ∧ q.1 ≠ D) : LCg.Off3 I C D (l ++ [q]) := .of fun p hp => by
  rcases List.mem_append.mp hp with hp | hp
  · exact h.mem p hp
  · rw [List.mem_singleton.mp hp]; exact hq
theorem drawn_snoc {ps : List Rec9} {q : Rec9} (h : DrawnOk ps) (hq : Numb q.2.1 q.2.2.1 ∧ q.2.2.1 < 1114112 ∧ Str.isSurrogate q.2.2.1 = false) : DrawnOk (ps ++ [q]) := fun p hp => by
  rcases List.mem_append.mp hp with hp | hp
  · exact h p hp
  · rw [List.mem_singleton.mp hp]; exact hq
theorem ne_snoc {ps : List Rec9} {q : Rec9} {src : Addr} (h : ∀ r ∈ tups ps, r.1 ≠ src) (hq : q.1 ≠ src) : ∀ r ∈ tups (ps ++ [q]), r.1 ≠ src := fun r hr => by
  rw [tups_snoc] at hr
  rcases List.mem_append.mp hr with hr | hr
  · exact h r hr
  · rw [List.mem_singleton.mp hr]; exact hq
theorem refs_at {ps : List Rec9} {i : Nat} {v : Value} (h : (refs9 ps)[i]? = some v) : ∃ q, ps[i]? = some q ∧ v = .ref q.1 := by
  unfold refs9 at h
  rw [List.getElem?_map] at h
  cases q : ps[i]? with
  | none => rw [q] at h; cases h
  | some p => rw [q] at h; exact ⟨p, rfl, (Option.some.inj h).symm⟩
theorem signs_snoc {ps : List Rec9} {i : Nat} {q : Rec9} (h : ps[i]? = some q) : signs9 (ps.take (i + 1)) = signs9 (ps.take i) ++ [.str ⟨#[q.2.2.1]⟩ q.2.2.2.1] := by
  unfold signs9
  rw [List.take_add_one, List.map_append, h]; rfl
theorem givens_snoc {ps : List Rec9} {i : Nat} {q : Rec9} (h : ps[i]? = some q) : givens (ps.take (i + 1)) = givens (ps.take i) ++ [q.2.1] := by
  unfold givens
  rw [List.take_add_one, List.map_append, h]; rfl
/-- the places that hold sign 0: the first of them, or none -/
def Stops (x : Str) (i : Nat) (ks : List Int) : Prop := (ks = [] ∧ ∀ j < i, (cpl x)[j]? ≠ some 0) ∨ ∃ (k : Nat) (r : List Int), ks = (k : Int) :: r ∧ (cpl x)[k]? = some 0 ∧ ∀ j < k, (cpl x)[j]? ≠ some 0
theorem Stops.hit {x : Str} {i : Nat} {ks : List Int} (h : Stops x i ks) (e : (cpl x)[i]? = some 0) : Stops x (i + 1) (ks ++ [(i : Int)]) := by
  rcases h with ⟨rfl, h⟩ | ⟨k, r, rfl, h1, h2⟩
  · exact .inr ⟨i, [], rfl, e, h⟩
  · exact .inr ⟨k, r ++ [(i : Int)], rfl, h1, h2⟩
theorem Stops.miss {x : Str} {i : Nat} {ks : List Int} (h : Stops x i ks) (e : (cpl x)[i]? ≠ some 0) : Stops x (i + 1) ks := by
  rcases h with ⟨rfl, h⟩ | h
  · refine .inl ⟨rfl, fun j hj => ?_⟩
    by_cases q : j = i
    · rw [q]; exact e
    · exact h j (by omega)
  · exact .inr h
theorem Stops.done {x : Str} {ks : List Int} (h : Stops x x.length ks) : ∃ r, ks ++ [((x.length : Nat) : Int)] = ((((cpl x).takeWhile (fun k => decide (k ≠ 0))).length : Nat) : Int) :: r := by
  rcases h with ⟨rfl, h⟩ | ⟨k, r, rfl, h1, h2⟩
  · exact ⟨[], by rw [takeW_len h (.inr (length_cpl x))]; rfl⟩
  · exact ⟨r ++ [((x.length : Nat) : Int)], by rw [takeW_len h2 (.inl h1)]; rfl⟩
theorem item_code {x : Str} {i : Nat} (h : i < x.length) : ∃ c, (cpl x)[i]? = some c ∧ (Txt.item x (0 + (i : Int))).cps.getD 0 0 = c := by
  have hl : i < (cpl x).length := by rw [← length_cpl]; exact h
  refine ⟨_, List.getElem?_eq_getElem hl, ?_⟩
  rw [Int.zero_add, item_at (List.getElem?_eq_getElem hl)]
  rfl
theorem ints_cons {us : List Value} {k : Int} {r : List Int} (h : IntsAre us (k :: r)) : ∃ t rest, us = .int k t :: rest := by
  cases h with
  | cons => exact ⟨_, _, rfl⟩
theorem takeW_none {l : List Nat} (h : l = [] ∨ l.head? = some 0) : (l.takeWhile (fun k => decide (k ≠ 0))).length = 0 := by
  rcases h with rfl | h
  · rfl
  · cases l with
    | nil => rfl
    | cons a r => obtain rfl : a = 0 := by simpa using h
                  rfl
theorem takeW_some {l : List Nat} {c : Nat} (h : l.head? = some c) (hc : c ≠ 0) : 0 < (l.takeWhile (fun k => decide (k ≠ 0))).length := by
  cases l with
  | nil => cases h
  | cons a r =>
    obtain rfl : a = c := by simpa using h
    rw [List.takeWhile_cons, if_pos (by simpa using hc)]
    exact Nat.succ_pos _
theorem cut_exec {M : Model} {A : Around} {E : Value → Shared → Prop} {s : Shared} {g : Heap} {L : Addr} {m : Str → Option Value} {news : List (Addr × Obj)} {c : Sem Flow} {Q : Flow → Shared → Prop} (F : Fr g L s.heap m) (N : News g L s.heap news)
    (h : wpAny M A c (fun f s₁ => f = .next ∧ ∃ h' tk', s₁ = { s with heap := h', toks := tk' } ∧ Fr g L h' m ∧ News g L h' news) E s)
    (k : ∀ h' tk', Fr g L h' m → News g L h' news → Q .next { s with heap := h', toks := tk' }) : wpAny M A c Q E s :=
  wpAny_mono h (fun v s₁ hv => by
    obtain ⟨rfl, h', tk', rfl, F', N'⟩ := hv
    exact k h' tk' F' N') fun _ _ e => e
theorem lawsr_ok {w : World} {p : Program} {loose : List Str} {mean : ExcName → Option Value} {mg mb : Str → Option Value} {A : Around} {h₀ : Heap} {s : Shared} {Q : Value → Shared → Prop}
  {src : Addr} {a b : Int} {ta tb : Tok} {n : Nat}
  (H : At w p loose mean mg mb A h₀ s 8) (hs : s.heap.get? src = some (poolO a b ta tb n)) (h0 : h₀.get? src = none)
  (P : PoolOk a b)
  (hQ : ∀ h' tk a' b' ta' tb', (∀ b o, b ≠ src → s.heap.get? b = some o → h'.get? b = some o) → h'.get? src = some (poolO a' b' ta' tb' n) → PoolOk a' b' → Q (.bool true) { s with heap := h', toks := tk }) :
  wpR (model prg w) A (call (.ref 412) [.ref src]) Q noE s := by
  refine' enterRC [(src, poolO a b ta tb n)] H ?N ?k6 ?k7 ?k9 ?kB ?kD ?_ ?c2 ?c3 ?c4
  walk_at "my enterC"
  case N => exact fun q hq => by
              rcases List.mem_singleton.mp hq with rfl
              exact ⟨hs, h0⟩
  intro dp fr gd un g L h₁ tk₁ cells hg hL F N Y X T hd hu hU
  k_lt hL
  obtain ⟨oc, od, hE, dc, dd⟩ := PyProof.Rows.CellsAre.two Y
  subst hE
  simp only [List.cons_append, List.nil_append] at N
  dsimp only at F ⊢
  refine wpR_execs_any ?_
  walk_at "my steps"
  rename Fr _ _ _ _ => F2
  rename News _ _ _ _ => N2
  refine LCg.Assign_ListComp_U (F₀ := F2) (by rfl) (by with_unfolding_all rfl) (by with_unfolding_all rfl) (by decide) (by rfl) (by decide) (by rfl) (by rfl) (by rfl) ?_
  walk_at "my steps"
  rename IsRange _ _ _ _ _ _ _ _ => hr
  rename Fr _ _ _ _ => F3
  rename News _ _ _ _ => N3
  rename (_ : Int) < 6 => r1
  refine LCg.CompSrc.range rfl F3 N3 hr (small_one (by omega) (by omega) (by omega) (by omega)) (rangeSize_nat _ _) (by rw [sizeLine_eq]; omega) fun g' => ?_
  refine compRest_inv (fun i ys news => ∃ (a b : Int) (ta tb : Tok) (ps : List Rec9), news = (L + 1 + 1, oc) :: (L + 1, od) :: (src, poolO a b ta tb n) :: tups ps ∧ PoolOk a b ∧ ys = refs9 ps ∧ ps.length = i ∧ DrawnOk ps ∧ (∀ q ∈ tups ps, q.1 ≠ src) ∧ ∀ q ∈ tups ps, @Ne Nat q.1 (L + 1 + 1)) ?_ ?_ _ 0 [] _ (Nat.zero_add _) ⟨_, _, _, _, [], rfl, by assumption, rfl, rfl, (fun _ h => nomatch h), (fun _ h => nomatch h), (fun _ h => nomatch h)⟩
  · clear F3 N3
    rintro i ys news hi ⟨a, b, ta, tb, ps, rfl, P, rfl, hl, hok, hne, hne1⟩ v I oI C oC D m₂ h tk E' ⟨te, rfl⟩ hC hx F3 N3 off ne
    simp only [LCg.Off3] at off
    walk_at "my steps"
    rename Fr _ _ _ _ => F5
    rename News _ _ _ _ => N5
    have hLs : @Ne Nat (L + 1 + 1) src ∧ @Ne Nat (L + 1) src := by constructor <;> omega
    have U := UpdF.tail (p := (I, oI)) (Ne.symm off.2.2.1.1) (UpdF.tail (p := (C, oC)) (Ne.symm off.2.2.1.2.1) (UpdF.tail (p := (D, LCg.lst (refs9 ps))) (Ne.symm off.2.2.1.2.2) (UpdF.tail (p := (L + 1 + 1, oc)) hLs.1 (UpdF.tail (p := (L + 1, od)) hLs.2 (UpdF.head (d := src) (o := poolO a b ta tb n) hne)))))
    refine number_call F5 N5 X T rfl hd hu (by decide) U P fun q h' tk' a' b' ta' tb' F6 N6 offq P' hq => ?_
    try dsimp only at N6 offq
    refine LCg.CompEnd.intro F6 N6 ((L + 1 + 1, oc) :: (L + 1, od) :: (src, poolO a' b' ta' tb' n) :: tups (ps ++ [q])) ?_ ?_ trivial ⟨a', b', ta', tb', ps ++ [q], rfl, P', (refs_snoc ps q).symm, ?_, drawn_snoc hok hq, ne_snoc hne (Ne.symm (offq (src, poolO a' b' ta' tb' n) (by k_mem))), ne_snoc hne1 (Ne.symm (offq (L + 1 + 1, oc) (by k_mem)))⟩
    · rw [tups_snoc]
      exact sub_snoc (l := [(I, oI), (C, oC), (D, LCg.lst (refs9 ps)), (L + 1 + 1, oc), (L + 1, od), (src, poolO a' b' ta' tb' n)])
    · rw [tups_snoc]
      exact ⟨off.1, off.2.1, off.2.2.1, off3_snoc off.2.2.2 ⟨Ne.symm (offq (I, oI) (by k_mem)), Ne.symm (offq (C, oC) (by k_mem)), Ne.symm (offq (D, LCg.lst (refs9 ps)) (by k_mem))⟩⟩
    · rw [List.length_append, hl]; rfl
  · rintro ys news ⟨a, b, ta, tb, ps, rfl, P, rfl, hl, hok, hne, hne1⟩
    unfold LCg.FinA
    intro D h' tk' F5 N5 o1
    clear F3 N3
    simp only [LCg.Off1] at o1
    dsimp only
    refine wpR_execs_any ?_
    walk_at "my steps"
    rename Fr _ _ _ _ => F6
    rename News _ _ _ _ => N6
    refine LCp.ListComp_P (F₀ := F6) (by with_unfolding_all rfl) (by decide) (by rfl) (by decide) (by rfl) (by rfl) (by decide) ?_
    walk_at "my steps"
    rename Fr _ _ _ _ => F7
    rename News _ _ _ _ => N7
    have hpl : ps.length ≤ 5 := by omega
    have hrl : (refs9 ps).length = ps.length := List.length_map _
    refine LCp.SrcLP.ledger (by rfl) F7 N7 (its := (refs9 ps).toArray) (by k_mem) (by rw [List.size_toArray, hrl, sizeLine_eq]; omega) fun g' => ?_
    refine compRestP_inv (fun i ys news => news = (D, LCg.lst (refs9 ps)) :: (L + 1 + 1, oc) :: (L + 1, od) :: (src, poolO a b ta tb n) :: tups ps ∧ ys = signs9 (ps.take i)) ?_ ?_ _ 0 [] _ (Nat.zero_add _) ⟨rfl, rfl⟩
    · rintro i ys news hi ⟨rfl, rfl⟩ v hv
      obtain ⟨q9, hq9, rfl⟩ := refs_at (show (refs9 ps)[i]? = some v by simpa using hv)
      refine ⟨q9.1, _, _, _, _, rfl, .tail _ (.tail _ (.tail _ (.tail _ (tups_at hq9)))), rfl, rfl, ?_⟩
      intro I oI C oC D₂ m₂ h tk E' hC hx hx₂ F8 N8 off ne
      walk_at "my steps"
      refine LCg.CompEnd.intro F8 N8 ((D, LCg.lst (refs9 ps)) :: (L + 1 + 1, oc) :: (L + 1, od) :: (src, poolO a b ta tb n) :: tups ps) (fun _ h => h) off (.inr ⟨_, by k_mem, rfl, _, rfl⟩) ⟨rfl, ?_⟩
      exact (signs_snoc hq9).symm
    · rintro ys news ⟨rfl, rfl⟩
      rw [List.size_toArray, hrl, List.take_length]
      unfold LCg.FinE
      intro D₂ h' tk' F8 N8 o2
      clear F7 N7
      simp only [LCg.Off1] at o2
      walk_at "my steps"
      have e0 : (Str.ofString "").length = 0 := rfl
      have hcl : (codes ps).length = ps.length := List.length_map _
      refine join_news N8 (.head _) (signs_are ps) (by rw [one_sum, e0]; omega) fun t' k' => ?_
      rw [one_join]
      walk_at "my steps"
      have hne2 : ∀ q ∈ (L + 1, od) :: (src, poolO a b ta tb n) :: tups ps, @Ne Nat q.1 (L + 1 + 1) := fun q hq => by
        rcases List.mem_cons.mp hq with rfl | hq
        · show @Ne Nat (L + 1) (L + 1 + 1)
          omega
        · rcases List.mem_cons.mp hq with rfl | hq
          · show @Ne Nat src (L + 1 + 1)
            omega
          · exact hne1 q hq
      have U9 := UpdF.tail (p := (D₂, LCg.lst (signs9 ps))) (Ne.symm o2.2.1) (UpdF.tail (p := (D, LCg.lst (refs9 ps))) (Ne.symm o1.1) (UpdF.head (d := L + 1 + 1) (o := oc) hne2))
      refine storeX_C F8 N8 rfl U9 dc fun h' oc' F9 N9 dc' => ?_
      clear F8 N8 U9
      try dsimp only at N9
      have N10 := news_sub N9 (fun q hq => .tail _ hq)
      clear N9
      walk_at "my steps"
      refine wpR_execs_any ?_
      walk_at "my steps"
      rename Fr _ _ _ _ => F6
      rename News _ _ _ _ => N6
      refine LCp.ListComp_P (F₀ := F6) (by with_unfolding_all rfl) (by decide) (by rfl) (by decide) (by rfl) (by rfl) (by decide) ?_
      walk_at "my steps"
      rename Fr _ _ _ _ => F7
      rename News _ _ _ _ => N7
      refine LCp.SrcLP.ledger (by rfl) F7 N7 (its := (refs9 ps).toArray) (by k_mem) (by rw [List.size_toArray, hrl, sizeLine_eq]; omega) fun g' => ?_
      refine compRestP_inv (fun i ys news => news = (D, LCg.lst (refs9 ps)) :: (L + 1 + 1, oc') :: (L + 1, od) :: (src, poolO a b ta tb n) :: tups ps ∧ ys = givens (ps.take i)) ?_ ?_ _ 0 [] _ (Nat.zero_add _) ⟨rfl, rfl⟩
      · rintro i ys news hi ⟨rfl, rfl⟩ v hv
        obtain ⟨q9, hq9, rfl⟩ := refs_at (show (refs9 ps)[i]? = some v by simpa using hv)
        refine ⟨q9.1, _, _, _, _, rfl, .tail _ (.tail _ (.tail _ (.tail _ (tups_at hq9)))), rfl, rfl, ?_⟩
        intro I oI C oC D₂ m₂ h tk E' hC hx hx₂ F8 N8 off ne
        walk_at "my steps"
        refine LCg.CompEnd.intro F8 N8 ((D, LCg.lst (refs9 ps)) :: (L + 1 + 1, oc') :: (L + 1, od) :: (src, poolO a b ta tb n) :: tups ps) (fun _ h => h) off (.inr ⟨_, by k_mem, rfl, _, rfl⟩) ⟨rfl, ?_⟩
        exact (givens_snoc hq9).symm
      · rintro ys news ⟨rfl, rfl⟩
        rw [List.size_toArray, hrl, List.take_length]
        unfold LCg.FinE
        intro D₃ h' tk' F8 N8 o2
        clear F7 N7
        simp only [LCg.Off1] at o2
        walk_at "my steps"
        have N11 : News g L h' [(L + 1 + 1, oc'), (L + 1, od), (src, poolO a b ta tb n)] := news_sub N8 fun q hq => by
          simp only [List.mem_cons, List.not_mem_nil, or_false] at hq
          rcases hq with rfl | rfl | rfl <;> k_mem
        have hgl : (givens ps).length = ps.length := List.length_map _
        refine lc_char (N8.isList (.head _)) (numbs_of hok) (by omega) (At.of F8 X T rfl hd hu (by decide)) fun t9 h' tk' up => ?_
        obtain ⟨F10, N12⟩ := news_up F8 N11 up
        clear F8 N8 N11 up o1 o2
        have hcs := codes_ok hok
        have hxl : (⟨(codes ps).toArray⟩ : Str).length ≤ 5 := by rw [txt_len]; omega
        have hxc : cpl ⟨(codes ps).toArray⟩ = codes ps := rfl
        generalize (⟨(codes ps).toArray⟩ : Str) = xd at *
        rw [← hxc] at hcs
        clear hxc hcl hrl hgl hok hne hne1 hl hpl
        walk_at "my steps"
        refine wpR_execs_any ?_
        walk_at "my steps"
        · rename (_ != _) = true => q
          rw [bne_self_eq_false] at q
          cases q
        dsimp only
        refine wpR_execs_any ?_
        walk_at "my steps"
        rename Fr _ _ _ _ => F6
        rename News _ _ _ _ => N6
        refine LCt.ListComp_T (F₀ := F6) (by with_unfolding_all rfl) (by decide) (by rfl) (by decide) (by rfl) ?_
        walk_at "my steps"
        rename IsRange _ _ _ _ _ _ _ _ => hr
        rename Fr _ _ _ _ => FA
        rename News _ _ _ _ => NA
        refine LCt.CompSrcT.range rfl FA NA hr (small_one (by omega) (by omega) (by omega) (by omega)) (rangeSize_nat _ _) (by rw [sizeLine_eq]; omega) fun g' => ?_
        refine compRestT_inv (fun i ys news => news = [(L + 1 + 1, oc'), (L + 1, od), (src, poolO a b ta tb n)] ∧ ∃ ks, IntsAre ys ks ∧ Stops xd i ks ∧ ks.length ≤ i) ?_ ?_ _ 0 [] _ (Nat.zero_add _) ⟨rfl, [], .nil, .inl ⟨rfl, fun _ h => absurd h (Nat.not_lt_zero _)⟩, Nat.zero_le _⟩
        · clear FA NA
          rintro i ys news hi9 ⟨rfl, ks, hys, hst, hkl⟩ v I oI C oC D₂ m₂ h tk E' ⟨te, rfl⟩ hC hx FB NB off ne
          simp only [LCg.Off3, and_true] at off
          obtain ⟨c9, hc9, hi0⟩ := item_code (x := xd) (i := i) (by omega)
          walk_at "my steps"
          · rename ((Txt.item _ _).cps.getD 0 0 : Int) = 0 => q
            rename Fr _ _ _ _ => FB
            rename News _ _ _ _ => NB
            rw [hi0] at q
            refine LCg.CompEnd.intro FB NB [(L + 1 + 1, oc'), (L + 1, od), (src, poolO a b ta tb n)] (by lcg_sub) (by lcg_off) trivial ⟨rfl, _, ?_, hst.hit (by rw [hc9]; congr 1; omega), by rw [List.length_append]; exact Nat.succ_le_succ hkl⟩
            rw [Int.zero_add]
            exact hys.append (.cons _ _ .nil)
          · rename ((Txt.item _ _).cps.getD 0 0 : Int) ≠ 0 => q
            rename Fr _ _ _ _ => FB
            rename News _ _ _ _ => NB
            rw [hi0] at q
            refine LCg.CompEnd.intro FB NB [(L + 1 + 1, oc'), (L + 1, od), (src, poolO a b ta tb n)] (by lcg_sub) (by lcg_off) trivial ⟨rfl, _, hys, hst.miss (fun e => ?_), Nat.le_succ_of_le hkl⟩
            rw [hc9] at e
            have := Option.some.inj e
            omega
        · rintro ys news ⟨rfl, ks, hys, hst, hkl⟩
          unfold LCg.FinE
          intro D₂ h' tk' F8 N8 o2
          clear FA NA
          simp only [LCg.Off1, and_true] at o2
          dsimp only
          rw [show ((xd.length : Int) - 0).toNat = xd.length by omega] at hst hkl
          obtain ⟨rs, hrs⟩ := hst.done
          walk_at "my steps"
          rename IntsAre _ (_ ++ _) => hI
          rw [hrs] at hI
          obtain ⟨t8, us', e8⟩ := ints_cons hI
          subst e8
          have hkk : ((Txt.split xd ⟨#[0]⟩).headD Str.empty).length = ((cpl xd).takeWhile (fun k => decide (k ≠ 0))).length := by rw [length_cpl, split_head]
          have hkx : ((cpl xd).takeWhile (fun k => decide (k ≠ 0))).length ≤ (cpl xd).length := List.Sublist.length_le (List.takeWhile_sublist _)
          rw [← length_cpl] at hkx
          generalize hkd : ((cpl xd).takeWhile (fun k => decide (k ≠ 0))).length = kk at *
          refine wpR_execs_any ?_
          walk_at "my steps"
          rename Fr _ _ _ _ => FA
          rename News _ _ _ _ => NA
          refine lc_length_str (NA.isList (.head _)) (At.of FA X T rfl hd hu (by decide)) (by omega) fun t' h' tk' up => ?_
          rw [hkk]
          obtain ⟨FC, NC⟩ := news_up FA NA up
          clear FA NA up
          walk_at "my steps"
          · rename (_ : Int) ≠ List.getD _ _ _ => q
            exact absurd rfl q
          dsimp only
          rename Fr _ _ _ _ => FZ
          rename News _ _ _ _ => NZ
          refine wpR_execs_any (cut_exec FZ NZ ?_ fun h' tk' FC NC => ?_)
          · walk_at "my steps"
            rename Fr _ _ _ _ => FA
            rename News _ _ _ _ => NA
            refine cut_eval FA NA (fun r => (kk = 0 ∧ r = .none) ∨ ∃ (c : Nat) (t : Tok), 0 < kk ∧ (cpl xd)[0]? = some c ∧ r = .int (c : Int) t) (lc_unicode (NA.isList (.head _)) (At.of FA X T rfl hd hu (by decide)) (by omega) (fun q h' tk' up => ?_) (fun c q1 q2 t' h' tk' up => ?_)) fun r h' tk' hr FC NC => ?_
            · obtain ⟨FC, NC⟩ := news_up FA NA up
              exact ⟨_, _, rfl, FC, NC, .inl ⟨hkd ▸ takeW_none q, rfl⟩⟩
            · obtain ⟨FC, NC⟩ := news_up FA NA up
              exact ⟨_, _, rfl, FC, NC, .inr ⟨c, _, hkd ▸ takeW_some q1 q2, by rw [← List.head?_eq_getElem?]; exact q1, rfl⟩⟩
            clear FA NA
            rcases hr with ⟨k0, rfl⟩ | ⟨c, t6, k0, hc0, rfl⟩
            · walk_at "my steps"
              refine wpAny_IfExp ?_
              walk_at "my steps"
              all_goals first | rfl | assumption | (dsimp only; assumption) | (rename News _ _ _ _ => NX; exact news_sub NX fun q hq => .tail _ hq)
            · obtain ⟨c9, hc9, hi0⟩ := item_code (x := xd) (i := 0) (by omega)
              obtain rfl : c = c9 := by rw [hc0] at hc9; exact Option.some.inj hc9
              walk_at "my steps"
              refine wpAny_IfExp ?_
              walk_at "my steps"
              · rename (c : Int) ≠ _ => q
                exact absurd (congrArg Nat.cast (Eq.symm hi0)) q
              all_goals first | rfl | assumption | (dsimp only; assumption) | (rename News _ _ _ _ => NX; exact news_sub NX fun q hq => .tail _ hq)
          · clear FZ NZ
            have hu8 := utf8s_size xd
            refine wpR_execs_any ?_
            walk_at "my steps"
            refine enc_method ?_
            walk_at "my steps"
            refine enc_call (fun c hc => (hcs c hc).2) (show xd.length ≤ 1000 by omega) fun t7 k7 => ?_
            generalize hxu : utf8s xd = x8 at *
            walk_at "my steps"
            refine wpR_execs_cons (wpR_Return ?_)
            refine wpR_And2 (wpR_Compare1 ?_)
            refine wpR_CallName (a := 395) (o := f395) rfl ?_
            walk_at "my steps"
            refine splicedR_star (wpR_of ?_)
            walk_at "my steps"
            refine splicedR_star (wpR_of ?_)
            walk_at "my steps"
            refine splicedR_nil ?_
            rename Fr _ _ _ _ => FA
            rename News _ _ _ _ => NA
            refine ⟨FA.keep _ _ (X 395 f395 rfl), lc_hex_R (NA.isList (.head _)) (At.of FA X T rfl hd hu (by decide)) (fun c hc => (hcs c hc).1) (show xd.length ≤ 100 by omega) fun t' h' tk' up => ?_⟩
            obtain ⟨FC, NC⟩ := news_up FA NA up
            clear FA NA up
            rw [hxu]
            walk_at "my steps"
            rename Fr _ _ _ _ => FA
            rename News _ _ _ _ => NA
            refine lawhex_ok (At.of FA X T rfl hd hu (by decide)) (by omega) fun t' h' tk' up => ?_
            obtain ⟨FC, NC⟩ := news_up FA NA up
            clear FA NA up
            walk_at "my steps"
            rename Fr _ _ _ _ => FA
            rename News _ _ _ _ => NA
            refine lc_length_bytes (NA.isList (.head _)) (At.of FA X T rfl hd hu (by decide)) (by omega) fun t' h' tk' up => ?_
            obtain ⟨FC, NC⟩ := news_up FA NA up
            clear FA NA up
            walk_at "my steps"
            walk_at "my end"
            rename Fr _ _ _ _ => FA
            rename News _ _ _ _ => NA
            rw [beq_self_eq_true]
            exact hQ _ _ _ _ _ _ (fun b o hb e => FA.keep b o (hg b o (by simpa using hb) e)) (NA (src, poolO a b ta tb n) (by k_mem)).1 P
theorem law_ok {w : World} {p : Program} {loose : List Str} {mean : ExcName → Option Value} {mg mb : Str → Option Value} {A : Around} {h₀ : Heap} {s : Shared} {Q : Value → Shared → Prop}
  {sl : Addr} {vs : List Value} {ns : List Int} (hl : s.heap.IsList sl vs.toArray) (hi : IntsAre vs ns) (hz : vs.length ≤ 1000)
  (H : At w p loose mean mg mb A h₀ s 9)
  (hQ : ∀ h' tk, (∀ b o, s.heap.get? b = some o → h'.get? b = some o) → Q (.bool true) { s with heap := h', toks := tk }) :
  wpR (model prg w) A (call (.ref 450) [.ref sl]) Q noE s := by
  refine' enterR0 H ?k6 ?k7 ?k9 ?kB ?_ ?c2 ?c3 ?c4 ?c5
  walk_at "my enter"
  intro dp fr gd un g L h₁ tk₁ hg F N X T hd hu hU
  dsimp only at F ⊢
  have hlg : g.IsList sl vs.toArray := hl.at fun o e => hg sl o e
  have hnl := hi.length
  refine wpR_execs_cons (wpR_For ?_)
  walk_at "my steps"
  rename IsRange _ _ _ _ _ _ _ _ => hr
  rename Fr _ _ _ _ => F₃
  rename News _ _ _ _ => N₃
  obtain ⟨n9, e9, h9⟩ : ∃ n9 : Nat, (if (if 3 < (ns.length : Int) then 3 else (ns.length : Int)) > 1 then if 3 < (ns.length : Int) then 3 else (ns.length : Int) else 1) = (n9 : Int) ∧ n9 ≤ 3 := by
    refine ⟨Int.toNat _, (Int.toNat_of_nonneg ?_).symm, ?_⟩ <;> (repeat' split) <;> omega
  rw [e9] at hr
  refine wpAny_pyIter_range hr (small_one (by omega) (by omega) (by omega) (by omega)) ?_
  refine forR [] (fun _ : Unit => []) (fun _ => [("script", .ref sl)]) (fun _ _ => True) () (LCg.range_walks rfl 0 n9) (by cases e : Heap.get? _ _ with | none => rfl | some ob => exact absurd (Heap.lt_size e) (Nat.lt_irrefl _)) _ (fun b hb => .inl (List.mem_singleton.mp hb)) (by show IsRangeIter _ _ _ _ _; rw [rangeSize_nat]; simpa using Heap.get?_push_size _ rfl) rfl rfl rfl (fun _ => rfl) F₃ N₃ ⟨rfl, trivial⟩ trivial ?_ ?_
  · rintro i v c u h tk own hi9 ⟨t, rfl⟩ hJ hoff F4 N4
    rw [Int.zero_add] at F4
    dsimp only [kstB, List.nil_append] at *
    refine wpR_execs_any ?_
    walk_at "my steps"
    rename Fr _ _ _ _ => F5
    rename News _ _ _ _ => N5
    refine lawpool_ok (hlg.at fun o e => F5.keep sl o e) hi hz (by omega) (At.of F5 X T rfl hd hu (by decide)) fun d a b ta tb n h' tk' up hn ho P => ?_
    obtain ⟨F6, N6, off⟩ := nulls_led F5 N5 up hn ho
    clear F5 N5 up hn ho
    walk_at "my steps"
    refine wpR_execs_cons (wpR_IfR (isTrueR_Or (isTrueR_Not (isTrueR_call ?_))))
    refine wpR_CallName (a := 412) (o := f412) rfl ?_
    walk_at "my steps"
    refine splicedR_star (wpR_of ?_)
    walk_at "my steps"
    refine splicedR_nil ?_
    rename Fr _ _ _ _ => F7
    rename News _ _ _ _ => N7
    refine ⟨F7.keep _ _ (X 412 f412 rfl), lawsr_ok (At.of F7 X T rfl hd hu (by decide)) (N7 (d, _) (by k_mem)).1 (N7 (d, _) (by k_mem)).2.2 P fun h' tk' a' b' ta' tb' k1 k2 P2 => ?_⟩
    obtain ⟨F8, N8⟩ := news_drew F7 N7 (.head (off1_mem off)) k1 k2
    clear F7 N7 k1 k2
    walk_at "my steps"
    refine wpAny_allTrue_Or_cons ?_
    walk_at "my steps"
    rename Fr _ _ _ _ => F7
    rename News _ _ _ _ => N7
    refine lawrr_ok (At.of F7 X T rfl hd hu (by decide)) (N7 (d, _) (by k_mem)).1 (N7 (d, _) (by k_mem)).2.2 P2 fun h' tk' a' b' ta' tb' k1 k2 P3 => ?_
    obtain ⟨F8, N8⟩ := news_drew F7 N7 (.head (off1_mem off)) k1 k2
    clear F7 N7 k1 k2
    walk_at "my steps"
    refine wpAny_allTrue_Or_cons ?_
    walk_at "my steps"
    rename Fr _ _ _ _ => F7
    rename News _ _ _ _ => N7
    refine lawrr_ok (At.of F7 X T rfl hd hu (by decide)) (N7 (d, _) (by k_mem)).1 (N7 (d, _) (by k_mem)).2.2 P3 fun h' tk' a' b' ta' tb' k1 k2 P4 => ?_
    obtain ⟨F8, N8⟩ := news_drew F7 N7 (.head (off1_mem off)) k1 k2
    clear F7 N7 k1 k2
    walk_at "my steps"
    refine wpAny_allTrue_Or_nil ?_
    walk_at "my steps"
    iterate 2 (refine wpR_of (wpAny_execs_nil ?_); dsimp only)
    rename Fr _ _ _ _ => F7
    rename News _ _ _ _ => N7
    show TEnd _ _ _ _ _ _ _
    exact tend () F7 N7 (fun _ hq => .tail _ hq) ⟨rfl, trivial⟩ trivial
  · rintro c u h tk hJ F4 N4
    dsimp only [kstB] at *
    refine wpR_execs_any ?_
    walk_at "my steps"
    walk_at "my end"
    exact hQ _ _ fun b o e => F4.keep b o (hg b o e)
abbrev rw1 : RowW := PySem.Challenge.rw_pq0800_01.row.toRowW

/-- the end of a thread that a clear caller runs -/
theorem thread_endsR {prog : Program} {w : World} {t : Sem Fin} {s : Shared} {R : Result → Shared → Prop} (hreg : s.asleep)
    (h : wpR (model prog w) callerA t (fun fin s' => ∃ f, fin = .done f ∧ (R (.ok f) s' ∧ leftWithCleanup s'.gens = false)) noE s) :
    ∃ n r s' s'', schedN (denote table) prog w n (.single s ⟨t, .builtin "claim.caller" {}, default, []⟩) = .halted (outcomeOf r) s' ∧ runN (denote table) prog w n s ⟨t, .builtin "claim.caller" {}, default, []⟩ = .halted (outcomeOf r) s' ∧ s'.forget = s''.forget ∧ R r s'' := by
  have clear : Clear ⟨.builtin "claim.caller" {}, none, none, [], none⟩ := ⟨by decide +kernel, fun x hx => nomatch hx⟩
  have k := h ⟨.builtin "claim.caller" {}, none, none, [], none⟩ default caller_in clear
  obtain ⟨n, r, s₁, s₂, hs, hn, hfo, hR⟩ := wp_halts_full (M := model prog w) (c := .builtin "claim.caller" {}) (R := R) (p := default) hreg
    (Sem.wp_mono _ _ t (fun fin p' s' h' => by obtain ⟨f, rfl, hf⟩ := h'; exact hf) (fun _ _ _ h' => False.elim h') _ _ k)
  exact ⟨n, r, s₂, s₁, hs, hn, hfo, hR⟩

theorem good_true {s₀ s₁ : Shared} {args : List WData} {h' : Heap} {tk : Nat} (k : ∀ b o, s₁.heap.get? b = some o → h'.get? b = some o) (g : s₁.gens = #[]) :
    GoodWG rw1.claim (classAt s₀.heap) (ExcName.means s₀.heap) args s₁ (.ok (.ret (.bool true))) { s₁ with heap := h', toks := tk } := by
  refine GoodW.toG ?_
  refine ⟨.inl ⟨.bool true, .bool true, [], rfl, fun _ => rfl, .bool true, by kernel_rfl, fun _ => ⟨List.nodup_nil, fun a ha => nomatch ha⟩⟩, k, rfl, g⟩

theorem law_holds
    (walk : ∀ (w : World) (s₀ s₁ : Shared) (mg mb : Str → Option Value), Ground q loose [] (XL q lv) w s₀ mg mb s₁.heap → (K w.params).In s₁.heap → ∀ (args : List WData) (vs : List Value) (as : List Addr),
      rw1.claim.pre args = true → WData.layableAll args = true → Laid [] w s₀ s₁ args vs as → sysModules < s₀.heap.objs.size →
      wpR (model prg w) callerA (PySem.call (.ref 450) vs) (fun v s' => v = .bool true ∧ ∃ h' tk, s' = { s₁ with heap := h', toks := tk } ∧ ∀ b o, s₁.heap.get? b = some o → h'.get? b = some o) noE s₁) :
    PySem.Challenge.rw_pq0800_01.Holds := by
  refine holds_law ws fun said => ⟨said, ?hw, ?_⟩
  case hw => w_witness2
  have ok : (chainsOk q && opensWell rw1.prog && (frees rw1 && rw1.within.isEmpty)) = true := by decide +kernel
  obtain ⟨ok, k5⟩ := Bool.and_eq_true_iff.mp ok
  obtain ⟨hch, o1⟩ := Bool.and_eq_true_iff.mp ok
  obtain ⟨k5, k6⟩ := Bool.and_eq_true_iff.mp k5
  obtain ⟨hsame, hu, ha, hap, hm⟩ := frees_parts k5
  have hb : rw1.prog.bare := ⟨rfl, rfl, rfl, rfl, rfl, by decide +kernel⟩
  have hw : rw1.promised := by w_witness2
  have hXt : ∀ s, Xt s = true → XL q lv (s.heap.nsMap mainGlobals) s.heap ∧ RecFacts rw1.records s.heap := fun s e => ⟨xl_of s (Bool.and_eq_true_iff.mp e).1, recFacts_of (Bool.and_eq_true_iff.mp e).2⟩
  refine ⟨⟨hb, o1, rfl⟩, hw.witness, fun w => ⟨(left.behind (XP := fun mg h => XL q lv mg h ∧ RecFacts rw1.records h) hXt hch w).1, fun s' hs' => ?_⟩⟩
  obtain ⟨s₀, hf, hg0, s, hT, hz, hgens, hg, G00, y⟩ := (left.behind (XP := fun mg h => XL q lv mg h ∧ RecFacts rw1.records h) hXt hch w).2 s' hs'
  have hgens : s.gens = #[] := Array.eq_empty_of_size_eq_zero (beq_iff_eq.mp hgens)
  have G : Ground q loose [] (XL q lv) w s (s.heap.nsMap mainGlobals) (s.heap.nsMap builtinsNs) s.heap := ⟨G00.T, G00.B, G00.D, G00.TE, G00.TD, G00.W, G00.X.1, G00.cls, G00.has, G00.apart, G00.once, G00.K⟩
  have X : (K w.params).In s.heap := InK.of k_as w s y
  refine ⟨s₀, hf, hg0, s, hT, ?pin, (fun x (hx : x ∈ ([] : List _)) => nomatch hx), (fun x (hx : x ∈ ([] : List _)) => nomatch hx), ?_⟩
  case pin =>
    intro n hn
    obtain rfl : n = "law" := by
      have : n ∈ (["law"] : List Str) := hn
      simpa using this
    exact pinned_of_view hg G (by rfl) (by rfl) (by rfl)
  intro args hpre hlay ord hord
  obtain ⟨⟨vs, s₁⟩, hlaid⟩ := Option.isSome_iff_exists.mp (layAllW_isSome (P := w.params) (ord := ord) G.has args rw1.args s (pre_splitW hpre).1)
  have keeps := layAllW_keeps _ _ _ hlaid
  have hal := layAllW_rest _ _ _ hlaid
  obtain ⟨as, hrd, hin, hold⟩ := reads_layAllW hord _ _ _ hlaid hlay s₁.heap (fun _ _ e => e)
  have L : Laid [] w s s₁ args vs as := ⟨⟨ord, hord, hlaid⟩, hrd, hin, hold, keeps, hal.1.trans hgens, hal.2.2.1⟩
  have G₁ := G.keeps XL.keeps keeps
  have X₁ : (K w.params).In s₁.heap := InK.keeps w s.heap s₁.heap X keeps
  have hmg : s.heap.nsMap mainGlobals rw1.name = some (.ref 450) := mg_of X₁ G₁.T.g (by kernel_rfl)
  have h := walk w s s₁ _ _ G₁ X₁ args vs as hpre hlay L G.low
  have hi := ident_freeW hu ha hap
  have hwi : rw1.claim.within = [] := List.isEmpty_iff.mp k6
  have ht : wpR (model prg w) callerA (callStub rw1.name vs).cur (fun fin s' => ∃ f, fin = .done f ∧ ((rw1.claim.Ends s args vs s₁ (.ok f) s' ∧ s'.os = s.os) ∧ leftWithCleanup s'.gens = false)) noE s₁ := by
    refine wpR_bindA (wpAny_nsGet G₁.T.g ?_)
    show wpR _ _ (match s.heap.nsMap mainGlobals rw1.name with | some f => _ | none => _) _ _ _
    rw [hmg]
    refine wpR_bind (wpR_mono h (fun v s' hv => wpR_pure ?_) fun _ _ x => x)
    obtain ⟨rfl, h', tk, rfl, hk⟩ := hv
    have z := (good_true (args := args) (s₀ := s) (tk := tk) hk L.gens).laid (c := rw1.claim) hsame hwi hi L
    exact ⟨_, rfl, ⟨z.1, z.2.1⟩, leftWithCleanup_false_of_bare z.2.2⟩
  obtain ⟨k, r, s', s'', hsched, hrun, hfo, hcase, hos⟩ := thread_endsR (R := fun r s' => rw1.claim.Ends s args vs s₁ r s' ∧ s'.os = s.os) (Shared.asleep_of_life hal.2.2.2 hz) ht
  obtain ⟨eh, _, _, eo, _⟩ := Shared.forget_eq hfo
  have hcase := hcase.congr eh
  rw [← eo] at hos
  have hlife : s'.heap.life = s.heap.life := (runN_life _ _ _ hrun).trans hal.2.2.2
  refine ⟨vs, s₁, hlaid, k, _, s', hsched, ?_, (fun _ i x hx => by rw [hgens] at hx; simp at hx), (fun q => nomatch (q : false = true)), by rw [hlife], Shared.rest_eq hos⟩
  rcases hcase with ⟨v, rfl, d1, d2, d3, d4, d5⟩ | ⟨e, ob, cls, rfl, d1, d2, d3, d4, d5⟩
  · exact .inl ⟨v, rfl, d1, d2, d3, fun b o y _ => d4 b o y, d5⟩
  · exact .inr ⟨e, ob, cls, rfl, d1, d2, d3, d4, fun b o y _ => d5 b o y⟩

theorem the_law : PySem.Challenge.rw_pq0800_01.Holds := by
  refine law_holds fun w s₀ s₁ mg mb G X args vs as hpre hlay L low => ?_
  have hrd := L.reads
  have hwl := L.well
  have hlo := L.low low
  have T := G.T
  clear L low G
  wrow_args hpre hlay hrd hwl hlo
  rename Heap.IsList _ _ _ => hL9
  rename IntsAre _ _ => hI9
  rename ¬ (63 : Int) < _ => h63
  have hn9 := hI9.length
  exact law_ok hL9 hI9 (by omega) ⟨X, T, fun _ _ e => e, rfl, by decide, by decide⟩ fun h' tk k => ⟨rfl, h', tk, rfl, k⟩
end Mine
theorem PySem.Challenge.cw_pq0800_01_holds : PySem.Challenge.rw_pq0800_01.Holds := by
  exact Mine.the_law
