import PyProof.Rows.All
import Wide.All
import OpenK.AllK
import Wide.FinOn
import PySem.Challenge.RW_tk0049_01
set_option Elab.async false
set_option maxRecDepth 100000
set_option linter.unusedVariables false
set_option linter.unusedSimpArgs false
set_option genSizeOf false
set_option genInjectivity false
section
open PySem PySem.W PyProof.Rows
namespace Mine
noncomputable def stmtAt (i : Nat) : Stmt := match PySem.Challenge.pw_tk0049_01.main.body.drop i with
  | s :: _ => s
  | [] => .Pass ⟨0, 0, 0, 0⟩
noncomputable def fnO (nm md : Str) (tk cd : Nat) (a : Arguments) (b : List Stmt) (s : Scope) : Obj := { cls := Value.type "function", data := Data.func { name := nm, qualname := nm, params := a, body := FuncBody.stmts b, scope := s, globals := 3, closure := [], defaults := Value.none, kwdefaults := Value.none, pyModule := Value.str md tk, code := Value.ref cd } }
noncomputable abbrev FnAt (i : Nat) (nm md : Str) (tk cd : Nat) := { o : Obj // ∃ a b s n d r t ts bi p, o = fnO nm md tk cd a b s ∧ stmtAt i = .FunctionDef n a b d r t s ts bi p }
noncomputable def kd (P : Params) (k : Str) (t : Tok) (v : Value) : DictEntry := { hash := PyData.keyHash P k, key := Value.str k t, val := v }
noncomputable def ob58 : FnAt 4 "normal" "gmp.limbs" 187 57 := ⟨fnO "normal" "gmp.limbs" 187 57 _ _ _, ⟨_, _, _, _, _, _, _, _, _, _, rfl, rfl⟩⟩
noncomputable def ob65 : FnAt 5 "compare" "gmp.limbs" 187 64 := ⟨fnO "compare" "gmp.limbs" 187 64 _ _ _, ⟨_, _, _, _, _, _, _, _, _, _, rfl, rfl⟩⟩
noncomputable def ob72 : FnAt 6 "add" "gmp.limbs" 187 71 := ⟨fnO "add" "gmp.limbs" 187 71 _ _ _, ⟨_, _, _, _, _, _, _, _, _, _, rfl, rfl⟩⟩
noncomputable def ob79 : FnAt 7 "sub" "gmp.limbs" 187 78 := ⟨fnO "sub" "gmp.limbs" 187 78 _ _ _, ⟨_, _, _, _, _, _, _, _, _, _, rfl, rfl⟩⟩
noncomputable def ob86 : FnAt 8 "add_limb" "gmp.limbs" 187 85 := ⟨fnO "add_limb" "gmp.limbs" 187 85 _ _ _, ⟨_, _, _, _, _, _, _, _, _, _, rfl, rfl⟩⟩
noncomputable def ob93 : FnAt 9 "divrem_limb" "gmp.limbs" 187 92 := ⟨fnO "divrem_limb" "gmp.limbs" 187 92 _ _ _, ⟨_, _, _, _, _, _, _, _, _, _, rfl, rfl⟩⟩
noncomputable def ob100 : FnAt 10 "shift_left" "gmp.limbs" 187 99 := ⟨fnO "shift_left" "gmp.limbs" 187 99 _ _ _, ⟨_, _, _, _, _, _, _, _, _, _, rfl, rfl⟩⟩
noncomputable def ob107 : FnAt 11 "shift_right" "gmp.limbs" 187 106 := ⟨fnO "shift_right" "gmp.limbs" 187 106 _ _ _, ⟨_, _, _, _, _, _, _, _, _, _, rfl, rfl⟩⟩
noncomputable def ob114 : FnAt 12 "bits" "gmp.limbs" 187 113 := ⟨fnO "bits" "gmp.limbs" 187 113 _ _ _, ⟨_, _, _, _, _, _, _, _, _, _, rfl, rfl⟩⟩
noncomputable def ob121 : FnAt 14 "signed" "gmp.signed" 347 120 := ⟨fnO "signed" "gmp.signed" 347 120 _ _ _, ⟨_, _, _, _, _, _, _, _, _, _, rfl, rfl⟩⟩
noncomputable def ob128 : FnAt 15 "s_add" "gmp.signed" 347 127 := ⟨fnO "s_add" "gmp.signed" 347 127 _ _ _, ⟨_, _, _, _, _, _, _, _, _, _, rfl, rfl⟩⟩
noncomputable def ob135 : FnAt 16 "s_mul" "gmp.signed" 347 134 := ⟨fnO "s_mul" "gmp.signed" 347 134 _ _ _, ⟨_, _, _, _, _, _, _, _, _, _, rfl, rfl⟩⟩
noncomputable def ob142 : FnAt 17 "tdiv" "gmp.signed" 347 141 := ⟨fnO "tdiv" "gmp.signed" 347 141 _ _ _, ⟨_, _, _, _, _, _, _, _, _, _, rfl, rfl⟩⟩
noncomputable def ob149 : FnAt 18 "fdiv" "gmp.signed" 347 148 := ⟨fnO "fdiv" "gmp.signed" 347 148 _ _ _, ⟨_, _, _, _, _, _, _, _, _, _, rfl, rfl⟩⟩
noncomputable def ob156 : FnAt 20 "common" "gmp.rationals" 400 155 := ⟨fnO "common" "gmp.rationals" 400 155 _ _ _, ⟨_, _, _, _, _, _, _, _, _, _, rfl, rfl⟩⟩
noncomputable def ob163 : FnAt 21 "cut_signed" "gmp.rationals" 400 162 := ⟨fnO "cut_signed" "gmp.rationals" 400 162 _ _ _, ⟨_, _, _, _, _, _, _, _, _, _, rfl, rfl⟩⟩
noncomputable def ob170 : FnAt 22 "signed_of" "gmp.rationals" 400 169 := ⟨fnO "signed_of" "gmp.rationals" 400 169 _ _ _, ⟨_, _, _, _, _, _, _, _, _, _, rfl, rfl⟩⟩
noncomputable def ob177 : FnAt 23 "r_make" "gmp.rationals" 400 176 := ⟨fnO "r_make" "gmp.rationals" 400 176 _ _ _, ⟨_, _, _, _, _, _, _, _, _, _, rfl, rfl⟩⟩
noncomputable def ob184 : FnAt 24 "r_add" "gmp.rationals" 400 183 := ⟨fnO "r_add" "gmp.rationals" 400 183 _ _ _, ⟨_, _, _, _, _, _, _, _, _, _, rfl, rfl⟩⟩
noncomputable def ob191 : FnAt 25 "r_mul" "gmp.rationals" 400 190 := ⟨fnO "r_mul" "gmp.rationals" 400 190 _ _ _, ⟨_, _, _, _, _, _, _, _, _, _, rfl, rfl⟩⟩
noncomputable def ob198 : FnAt 26 "r_inverse" "gmp.rationals" 400 197 := ⟨fnO "r_inverse" "gmp.rationals" 400 197 _ _ _, ⟨_, _, _, _, _, _, _, _, _, _, rfl, rfl⟩⟩
noncomputable def ob205 : FnAt 27 "r_div" "gmp.rationals" 400 204 := ⟨fnO "r_div" "gmp.rationals" 400 204 _ _ _, ⟨_, _, _, _, _, _, _, _, _, _, rfl, rfl⟩⟩
noncomputable def ob212 : FnAt 28 "continued" "gmp.rationals" 400 211 := ⟨fnO "continued" "gmp.rationals" 400 211 _ _ _, ⟨_, _, _, _, _, _, _, _, _, _, rfl, rfl⟩⟩
noncomputable def ob219 : FnAt 30 "mul_school" "gmp.school" 502 218 := ⟨fnO "mul_school" "gmp.school" 502 218 _ _ _, ⟨_, _, _, _, _, _, _, _, _, _, rfl, rfl⟩⟩
noncomputable def ob226 : FnAt 31 "divrem_small" "gmp.school" 502 225 := ⟨fnO "divrem_small" "gmp.school" 502 225 _ _ _, ⟨_, _, _, _, _, _, _, _, _, _, rfl, rfl⟩⟩
noncomputable def ob233 : FnAt 32 "guessed_limb" "gmp.school" 502 232 := ⟨fnO "guessed_limb" "gmp.school" 502 232 _ _ _, ⟨_, _, _, _, _, _, _, _, _, _, rfl, rfl⟩⟩
noncomputable def ob240 : FnAt 33 "take_away" "gmp.school" 502 239 := ⟨fnO "take_away" "gmp.school" 502 239 _ _ _, ⟨_, _, _, _, _, _, _, _, _, _, rfl, rfl⟩⟩
noncomputable def ob247 : FnAt 34 "put_back" "gmp.school" 502 246 := ⟨fnO "put_back" "gmp.school" 502 246 _ _ _, ⟨_, _, _, _, _, _, _, _, _, _, rfl, rfl⟩⟩
noncomputable def ob254 : FnAt 35 "divide_rows" "gmp.school" 502 253 := ⟨fnO "divide_rows" "gmp.school" 502 253 _ _ _, ⟨_, _, _, _, _, _, _, _, _, _, rfl, rfl⟩⟩
noncomputable def ob261 : FnAt 36 "divrem_school" "gmp.school" 502 260 := ⟨fnO "divrem_school" "gmp.school" 502 260 _ _ _, ⟨_, _, _, _, _, _, _, _, _, _, rfl, rfl⟩⟩
noncomputable def ob268 : FnAt 38 "_law_sifted" "law_tk0049_01" 601 267 := ⟨fnO "_law_sifted" "law_tk0049_01" 601 267 _ _ _, ⟨_, _, _, _, _, _, _, _, _, _, rfl, rfl⟩⟩
noncomputable def ob275 : FnAt 39 "_law_limbs" "law_tk0049_01" 601 274 := ⟨fnO "_law_limbs" "law_tk0049_01" 601 274 _ _ _, ⟨_, _, _, _, _, _, _, _, _, _, rfl, rfl⟩⟩
noncomputable def ob282 : FnAt 40 "_law_signed" "law_tk0049_01" 601 281 := ⟨fnO "_law_signed" "law_tk0049_01" 601 281 _ _ _, ⟨_, _, _, _, _, _, _, _, _, _, rfl, rfl⟩⟩
noncomputable def ob289 : FnAt 41 "_law_plain" "law_tk0049_01" 601 288 := ⟨fnO "_law_plain" "law_tk0049_01" 601 288 _ _ _, ⟨_, _, _, _, _, _, _, _, _, _, rfl, rfl⟩⟩
noncomputable def ob296 : FnAt 42 "_law_folded" "law_tk0049_01" 601 295 := ⟨fnO "_law_folded" "law_tk0049_01" 601 295 _ _ _, ⟨_, _, _, _, _, _, _, _, _, _, rfl, rfl⟩⟩
noncomputable def ob303 : FnAt 43 "_law_given" "law_tk0049_01" 601 302 := ⟨fnO "_law_given" "law_tk0049_01" 601 302 _ _ _, ⟨_, _, _, _, _, _, _, _, _, _, rfl, rfl⟩⟩
noncomputable def ob308 : FnAt 44 "_law_led" "law_tk0049_01" 601 307 := ⟨fnO "_law_led" "law_tk0049_01" 601 307 _ _ _, ⟨_, _, _, _, _, _, _, _, _, _, rfl, rfl⟩⟩
noncomputable def ob313 : FnAt 45 "law" "law_tk0049_01" 601 312 := ⟨fnO "law" "law_tk0049_01" 601 312 _ _ _, ⟨_, _, _, _, _, _, _, _, _, _, rfl, rfl⟩⟩
noncomputable def hd.heap_39 (P : Params) : Frag := [
 (3, { cls := Value.type "dict", data := Data.dict #[kd P "__name__" 165 (Value.str (Str.ofString "law_tk0049_01") 601),
  kd P "__doc__" 166 (Value.none),
  kd P "__package__" 167 (Value.none),
  kd P "__loader__" 168 (Value.builtin "__main__.__loader__#opaque"),
  kd P "__spec__" 169 (Value.none),
  kd P "__annotations__" 170 (Value.ref 6),
  kd P "__builtins__" 171 (Value.ref 4),
  kd P "__file__" 173 (Value.str (Str.ofString "/claim/cut.py") 172),
  kd P "__cached__" 174 (Value.none),
  kd P "GmpError" 208 (Value.ref 24),
  kd P "DivisionByZero" 224 (Value.ref 37),
  kd P "OutOfRange" 240 (Value.ref 49),
  kd P "normal" 248 (Value.ref 58),
  kd P "compare" 257 (Value.ref 65),
  kd P "add" 270 (Value.ref 72),
  kd P "sub" 284 (Value.ref 79),
  kd P "add_limb" 296 (Value.ref 86),
  kd P "divrem_limb" 308 (Value.ref 93),
  kd P "shift_left" 323 (Value.ref 100),
  kd P "shift_right" 338 (Value.ref 107),
  kd P "bits" 346 (Value.ref 114),
  kd P "signed" 356 (Value.ref 121),
  kd P "s_add" 365 (Value.ref 128),
  kd P "s_mul" 375 (Value.ref 135),
  kd P "tdiv" 387 (Value.ref 142),
  kd P "fdiv" 399 (Value.ref 149),
  kd P "common" 411 (Value.ref 156),
  kd P "cut_signed" 421 (Value.ref 163),
  kd P "signed_of" 428 (Value.ref 170),
  kd P "r_make" 439 (Value.ref 177),
  kd P "r_add" 455 (Value.ref 184),
  kd P "r_mul" 469 (Value.ref 191),
  kd P "r_inverse" 476 (Value.ref 198),
  kd P "r_div" 487 (Value.ref 205),
  kd P "continued" 501 (Value.ref 212),
  kd P "mul_school" 519 (Value.ref 219),
  kd P "divrem_small" 530 (Value.ref 226),
  kd P "guessed_limb" 544 (Value.ref 233),
  kd P "take_away" 560 (Value.ref 240),
  kd P "put_back" 574 (Value.ref 247),
  kd P "divide_rows" 587 (Value.ref 254),
  kd P "divrem_school" 600 (Value.ref 261),
  kd P "_law_sifted" 610 (Value.ref 268),
  kd P "_law_limbs" 619 (Value.ref 275),
  kd P "_law_signed" 627 (Value.ref 282),
  kd P "_law_plain" 637 (Value.ref 289),
  kd P "_law_folded" 647 (Value.ref 296),
  kd P "_law_given" 660 (Value.ref 303),
  kd P "_law_led" 666 (Value.ref 308),
  kd P "law" 672 (Value.ref 313)] 50 }),
 (57, { cls := Value.type "code", data := Data.fields #[Value.str (Str.ofString "normal") 241, Value.str (Str.ofString "normal") 242, Value.str (Str.ofString "/claim/cut.py") 243, Value.int 8 0, Value.int 1 0, Value.int 0 0, Value.int 0 0, Value.int 3 0, Value.ref 52, Value.bool Bool.true, Value.int 181 0, Value.ref 53, Value.none, Value.ref 54, Value.ref 55, Value.ref 56, Value.int 246 0, Value.int 8 0, Value.str (Str.ofString "/claim/cut.py") 247] }),
 (58, ob58.1),
 (64, { cls := Value.type "code", data := Data.fields #[Value.str (Str.ofString "compare") 249, Value.str (Str.ofString "compare") 250, Value.str (Str.ofString "/claim/cut.py") 251, Value.int 13 0, Value.int 2 0, Value.int 0 0, Value.int 0 0, Value.int 3 0, Value.ref 59, Value.bool Bool.true, Value.int 181 0, Value.ref 60, Value.none, Value.ref 61, Value.ref 62, Value.ref 63, Value.int 255 0, Value.int 13 0, Value.str (Str.ofString "/claim/cut.py") 256] }),
 (65, ob65.1),
 (71, { cls := Value.type "code", data := Data.fields #[Value.str (Str.ofString "add") 258, Value.str (Str.ofString "add") 259, Value.str (Str.ofString "/claim/cut.py") 260, Value.int 20 0, Value.int 3 0, Value.int 0 0, Value.int 0 0, Value.int 3 0, Value.ref 66, Value.bool Bool.true, Value.int 181 0, Value.ref 67, Value.none, Value.ref 68, Value.ref 69, Value.ref 70, Value.int 268 0, Value.int 20 0, Value.str (Str.ofString "/claim/cut.py") 269] }),
 (72, ob72.1),
 (78, { cls := Value.type "code", data := Data.fields #[Value.str (Str.ofString "sub") 271, Value.str (Str.ofString "sub") 272, Value.str (Str.ofString "/claim/cut.py") 273, Value.int 35 0, Value.int 3 0, Value.int 0 0, Value.int 0 0, Value.int 3 0, Value.ref 73, Value.bool Bool.true, Value.int 181 0, Value.ref 74, Value.none, Value.ref 75, Value.ref 76, Value.ref 77, Value.int 282 0, Value.int 35 0, Value.str (Str.ofString "/claim/cut.py") 283] }),
 (79, ob79.1),
 (85, { cls := Value.type "code", data := Data.fields #[Value.str (Str.ofString "add_limb") 285, Value.str (Str.ofString "add_limb") 286, Value.str (Str.ofString "/claim/cut.py") 287, Value.int 44 0, Value.int 3 0, Value.int 0 0, Value.int 0 0, Value.int 3 0, Value.ref 80, Value.bool Bool.true, Value.int 181 0, Value.ref 81, Value.none, Value.ref 82, Value.ref 83, Value.ref 84, Value.int 294 0, Value.int 44 0, Value.str (Str.ofString "/claim/cut.py") 295] }),
 (86, ob86.1),
 (92, { cls := Value.type "code", data := Data.fields #[Value.str (Str.ofString "divrem_limb") 297, Value.str (Str.ofString "divrem_limb") 298, Value.str (Str.ofString "/claim/cut.py") 299, Value.int 53 0, Value.int 3 0, Value.int 0 0, Value.int 0 0, Value.int 3 0, Value.ref 87, Value.bool Bool.true, Value.int 181 0, Value.ref 88, Value.none, Value.ref 89, Value.ref 90, Value.ref 91, Value.int 306 0, Value.int 53 0, Value.str (Str.ofString "/claim/cut.py") 307] }),
 (93, ob93.1),
 (99, { cls := Value.type "code", data := Data.fields #[Value.str (Str.ofString "shift_left") 309, Value.str (Str.ofString "shift_left") 310, Value.str (Str.ofString "/claim/cut.py") 311, Value.int 62 0, Value.int 3 0, Value.int 0 0, Value.int 0 0, Value.int 3 0, Value.ref 94, Value.bool Bool.true, Value.int 181 0, Value.ref 95, Value.none, Value.ref 96, Value.ref 97, Value.ref 98, Value.int 321 0, Value.int 62 0, Value.str (Str.ofString "/claim/cut.py") 322] }),
 (100, ob100.1),
 (106, { cls := Value.type "code", data := Data.fields #[Value.str (Str.ofString "shift_right") 324, Value.str (Str.ofString "shift_right") 325, Value.str (Str.ofString "/claim/cut.py") 326, Value.int 74 0, Value.int 3 0, Value.int 0 0, Value.int 0 0, Value.int 3 0, Value.ref 101, Value.bool Bool.true, Value.int 181 0, Value.ref 102, Value.none, Value.ref 103, Value.ref 104, Value.ref 105, Value.int 336 0, Value.int 74 0, Value.str (Str.ofString "/claim/cut.py") 337] }),
 (107, ob107.1),
 (113, { cls := Value.type "code", data := Data.fields #[Value.str (Str.ofString "bits") 339, Value.str (Str.ofString "bits") 340, Value.str (Str.ofString "/claim/cut.py") 341, Value.int 81 0, Value.int 2 0, Value.int 0 0, Value.int 0 0, Value.int 3 0, Value.ref 108, Value.bool Bool.true, Value.int 181 0, Value.ref 109, Value.none, Value.ref 110, Value.ref 111, Value.ref 112, Value.int 344 0, Value.int 81 0, Value.str (Str.ofString "/claim/cut.py") 345] }),
 (114, ob114.1),
 (120, { cls := Value.type "code", data := Data.fields #[Value.str (Str.ofString "signed") 349, Value.str (Str.ofString "signed") 350, Value.str (Str.ofString "/claim/cut.py") 351, Value.int 84 0, Value.int 2 0, Value.int 0 0, Value.int 0 0, Value.int 3 0, Value.ref 115, Value.bool Bool.true, Value.int 181 0, Value.ref 116, Value.none, Value.ref 117, Value.ref 118, Value.ref 119, Value.int 354 0, Value.int 84 0, Value.str (Str.ofString "/claim/cut.py") 355] }),
 (121, ob121.1),
 (127, { cls := Value.type "code", data := Data.fields #[Value.str (Str.ofString "s_add") 357, Value.str (Str.ofString "s_add") 358, Value.str (Str.ofString "/claim/cut.py") 359, Value.int 86 0, Value.int 3 0, Value.int 0 0, Value.int 0 0, Value.int 3 0, Value.ref 122, Value.bool Bool.true, Value.int 181 0, Value.ref 123, Value.none, Value.ref 124, Value.ref 125, Value.ref 126, Value.int 363 0, Value.int 86 0, Value.str (Str.ofString "/claim/cut.py") 364] }),
 (128, ob128.1),
 (134, { cls := Value.type "code", data := Data.fields #[Value.str (Str.ofString "s_mul") 366, Value.str (Str.ofString "s_mul") 367, Value.str (Str.ofString "/claim/cut.py") 368, Value.int 92 0, Value.int 4 0, Value.int 0 0, Value.int 0 0, Value.int 3 0, Value.ref 129, Value.bool Bool.true, Value.int 181 0, Value.ref 130, Value.none, Value.ref 131, Value.ref 132, Value.ref 133, Value.int 373 0, Value.int 92 0, Value.str (Str.ofString "/claim/cut.py") 374] }),
 (135, ob135.1),
 (141, { cls := Value.type "code", data := Data.fields #[Value.str (Str.ofString "tdiv") 376, Value.str (Str.ofString "tdiv") 377, Value.str (Str.ofString "/claim/cut.py") 378, Value.int 94 0, Value.int 4 0, Value.int 0 0, Value.int 0 0, Value.int 3 0, Value.ref 136, Value.bool Bool.true, Value.int 181 0, Value.ref 137, Value.none, Value.ref 138, Value.ref 139, Value.ref 140, Value.int 385 0, Value.int 94 0, Value.str (Str.ofString "/claim/cut.py") 386] }),
 (142, ob142.1),
 (148, { cls := Value.type "code", data := Data.fields #[Value.str (Str.ofString "fdiv") 388, Value.str (Str.ofString "fdiv") 389, Value.str (Str.ofString "/claim/cut.py") 390, Value.int 99 0, Value.int 4 0, Value.int 0 0, Value.int 0 0, Value.int 3 0, Value.ref 143, Value.bool Bool.true, Value.int 181 0, Value.ref 144, Value.none, Value.ref 145, Value.ref 146, Value.ref 147, Value.int 397 0, Value.int 99 0, Value.str (Str.ofString "/claim/cut.py") 398] }),
 (149, ob149.1),
 (155, { cls := Value.type "code", data := Data.fields #[Value.str (Str.ofString "common") 402, Value.str (Str.ofString "common") 403, Value.str (Str.ofString "/claim/cut.py") 404, Value.int 105 0, Value.int 4 0, Value.int 0 0, Value.int 0 0, Value.int 3 0, Value.ref 150, Value.bool Bool.true, Value.int 181 0, Value.ref 151, Value.none, Value.ref 152, Value.ref 153, Value.ref 154, Value.int 409 0, Value.int 105 0, Value.str (Str.ofString "/claim/cut.py") 410] }),
 (156, ob156.1),
 (162, { cls := Value.type "code", data := Data.fields #[Value.str (Str.ofString "cut_signed") 412, Value.str (Str.ofString "cut_signed") 413, Value.str (Str.ofString "/claim/cut.py") 414, Value.int 109 0, Value.int 4 0, Value.int 0 0, Value.int 0 0, Value.int 3 0, Value.ref 157, Value.bool Bool.true, Value.int 181 0, Value.ref 158, Value.none, Value.ref 159, Value.ref 160, Value.ref 161, Value.int 419 0, Value.int 109 0, Value.str (Str.ofString "/claim/cut.py") 420] }),
 (163, ob163.1),
 (169, { cls := Value.type "code", data := Data.fields #[Value.str (Str.ofString "signed_of") 422, Value.str (Str.ofString "signed_of") 423, Value.str (Str.ofString "/claim/cut.py") 424, Value.int 111 0, Value.int 1 0, Value.int 0 0, Value.int 0 0, Value.int 3 0, Value.ref 164, Value.bool Bool.true, Value.int 181 0, Value.ref 165, Value.none, Value.ref 166, Value.ref 167, Value.ref 168, Value.int 426 0, Value.int 111 0, Value.str (Str.ofString "/claim/cut.py") 427] }),
 (170, ob170.1),
 (176, { cls := Value.type "code", data := Data.fields #[Value.str (Str.ofString "r_make") 429, Value.str (Str.ofString "r_make") 430, Value.str (Str.ofString "/claim/cut.py") 431, Value.int 113 0, Value.int 4 0, Value.int 0 0, Value.int 0 0, Value.int 3 0, Value.ref 171, Value.bool Bool.true, Value.int 181 0, Value.ref 172, Value.none, Value.ref 173, Value.ref 174, Value.ref 175, Value.int 437 0, Value.int 113 0, Value.str (Str.ofString "/claim/cut.py") 438] }),
 (177, ob177.1),
 (183, { cls := Value.type "code", data := Data.fields #[Value.str (Str.ofString "r_add") 440, Value.str (Str.ofString "r_add") 441, Value.str (Str.ofString "/claim/cut.py") 442, Value.int 120 0, Value.int 5 0, Value.int 0 0, Value.int 0 0, Value.int 3 0, Value.ref 178, Value.bool Bool.true, Value.int 181 0, Value.ref 179, Value.none, Value.ref 180, Value.ref 181, Value.ref 182, Value.int 453 0, Value.int 120 0, Value.str (Str.ofString "/claim/cut.py") 454] }),
 (184, ob184.1),
 (190, { cls := Value.type "code", data := Data.fields #[Value.str (Str.ofString "r_mul") 456, Value.str (Str.ofString "r_mul") 457, Value.str (Str.ofString "/claim/cut.py") 458, Value.int 128 0, Value.int 5 0, Value.int 0 0, Value.int 0 0, Value.int 3 0, Value.ref 185, Value.bool Bool.true, Value.int 181 0, Value.ref 186, Value.none, Value.ref 187, Value.ref 188, Value.ref 189, Value.int 467 0, Value.int 128 0, Value.str (Str.ofString "/claim/cut.py") 468] }),
 (191, ob191.1),
 (197, { cls := Value.type "code", data := Data.fields #[Value.str (Str.ofString "r_inverse") 470, Value.str (Str.ofString "r_inverse") 471, Value.str (Str.ofString "/claim/cut.py") 472, Value.int 134 0, Value.int 1 0, Value.int 0 0, Value.int 0 0, Value.int 3 0, Value.ref 192, Value.bool Bool.true, Value.int 181 0, Value.ref 193, Value.none, Value.ref 194, Value.ref 195, Value.ref 196, Value.int 474 0, Value.int 134 0, Value.str (Str.ofString "/claim/cut.py") 475] }),
 (198, ob198.1),
 (204, { cls := Value.type "code", data := Data.fields #[Value.str (Str.ofString "r_div") 477, Value.str (Str.ofString "r_div") 478, Value.str (Str.ofString "/claim/cut.py") 479, Value.int 138 0, Value.int 5 0, Value.int 0 0, Value.int 0 0, Value.int 3 0, Value.ref 199, Value.bool Bool.true, Value.int 181 0, Value.ref 200, Value.none, Value.ref 201, Value.ref 202, Value.ref 203, Value.int 485 0, Value.int 138 0, Value.str (Str.ofString "/claim/cut.py") 486] }),
 (205, ob205.1),
 (211, { cls := Value.type "code", data := Data.fields #[Value.str (Str.ofString "continued") 488, Value.str (Str.ofString "continued") 489, Value.str (Str.ofString "/claim/cut.py") 490, Value.int 140 0, Value.int 3 0, Value.int 0 0, Value.int 0 0, Value.int 3 0, Value.ref 206, Value.bool Bool.true, Value.int 181 0, Value.ref 207, Value.none, Value.ref 208, Value.ref 209, Value.ref 210, Value.int 499 0, Value.int 140 0, Value.str (Str.ofString "/claim/cut.py") 500] }),
 (212, ob212.1),
 (218, { cls := Value.type "code", data := Data.fields #[Value.str (Str.ofString "mul_school") 504, Value.str (Str.ofString "mul_school") 505, Value.str (Str.ofString "/claim/cut.py") 506, Value.int 148 0, Value.int 3 0, Value.int 0 0, Value.int 0 0, Value.int 3 0, Value.ref 213, Value.bool Bool.true, Value.int 181 0, Value.ref 214, Value.none, Value.ref 215, Value.ref 216, Value.ref 217, Value.int 517 0, Value.int 148 0, Value.str (Str.ofString "/claim/cut.py") 518] }),
 (219, ob219.1),
 (225, { cls := Value.type "code", data := Data.fields #[Value.str (Str.ofString "divrem_small") 520, Value.str (Str.ofString "divrem_small") 521, Value.str (Str.ofString "/claim/cut.py") 522, Value.int 158 0, Value.int 3 0, Value.int 0 0, Value.int 0 0, Value.int 3 0, Value.ref 220, Value.bool Bool.true, Value.int 181 0, Value.ref 221, Value.none, Value.ref 222, Value.ref 223, Value.ref 224, Value.int 528 0, Value.int 158 0, Value.str (Str.ofString "/claim/cut.py") 529] }),
 (226, ob226.1),
 (232, { cls := Value.type "code", data := Data.fields #[Value.str (Str.ofString "guessed_limb") 531, Value.str (Str.ofString "guessed_limb") 532, Value.str (Str.ofString "/claim/cut.py") 533, Value.int 161 0, Value.int 4 0, Value.int 0 0, Value.int 0 0, Value.int 3 0, Value.ref 227, Value.bool Bool.true, Value.int 181 0, Value.ref 228, Value.none, Value.ref 229, Value.ref 230, Value.ref 231, Value.int 542 0, Value.int 161 0, Value.str (Str.ofString "/claim/cut.py") 543] }),
 (233, ob233.1),
 (239, { cls := Value.type "code", data := Data.fields #[Value.str (Str.ofString "take_away") 545, Value.str (Str.ofString "take_away") 546, Value.str (Str.ofString "/claim/cut.py") 547, Value.int 169 0, Value.int 5 0, Value.int 0 0, Value.int 0 0, Value.int 3 0, Value.ref 234, Value.bool Bool.true, Value.int 181 0, Value.ref 235, Value.none, Value.ref 236, Value.ref 237, Value.ref 238, Value.int 558 0, Value.int 169 0, Value.str (Str.ofString "/claim/cut.py") 559] }),
 (240, ob240.1),
 (246, { cls := Value.type "code", data := Data.fields #[Value.str (Str.ofString "put_back") 561, Value.str (Str.ofString "put_back") 562, Value.str (Str.ofString "/claim/cut.py") 563, Value.int 178 0, Value.int 4 0, Value.int 0 0, Value.int 0 0, Value.int 3 0, Value.ref 241, Value.bool Bool.true, Value.int 181 0, Value.ref 242, Value.none, Value.ref 243, Value.ref 244, Value.ref 245, Value.int 572 0, Value.int 178 0, Value.str (Str.ofString "/claim/cut.py") 573] }),
 (247, ob247.1),
 (253, { cls := Value.type "code", data := Data.fields #[Value.str (Str.ofString "divide_rows") 575, Value.str (Str.ofString "divide_rows") 576, Value.str (Str.ofString "/claim/cut.py") 577, Value.int 185 0, Value.int 3 0, Value.int 0 0, Value.int 0 0, Value.int 3 0, Value.ref 248, Value.bool Bool.true, Value.int 181 0, Value.ref 249, Value.none, Value.ref 250, Value.ref 251, Value.ref 252, Value.int 585 0, Value.int 185 0, Value.str (Str.ofString "/claim/cut.py") 586] }),
 (254, ob254.1),
 (260, { cls := Value.type "code", data := Data.fields #[Value.str (Str.ofString "divrem_school") 588, Value.str (Str.ofString "divrem_school") 589, Value.str (Str.ofString "/claim/cut.py") 590, Value.int 195 0, Value.int 3 0, Value.int 0 0, Value.int 0 0, Value.int 3 0, Value.ref 255, Value.bool Bool.true, Value.int 181 0, Value.ref 256, Value.none, Value.ref 257, Value.ref 258, Value.ref 259, Value.int 598 0, Value.int 195 0, Value.str (Str.ofString "/claim/cut.py") 599] }),
 (261, ob261.1),
 (267, { cls := Value.type "code", data := Data.fields #[Value.str (Str.ofString "_law_sifted") 603, Value.str (Str.ofString "_law_sifted") 604, Value.str (Str.ofString "/claim/cut.py") 605, Value.int 209 0, Value.int 2 0, Value.int 0 0, Value.int 0 0, Value.int 3 0, Value.ref 262, Value.bool Bool.true, Value.int 181 0, Value.ref 263, Value.none, Value.ref 264, Value.ref 265, Value.ref 266, Value.int 608 0, Value.int 209 0, Value.str (Str.ofString "/claim/cut.py") 609] }),
 (268, ob268.1),
 (274, { cls := Value.type "code", data := Data.fields #[Value.str (Str.ofString "_law_limbs") 611, Value.str (Str.ofString "_law_limbs") 612, Value.str (Str.ofString "/claim/cut.py") 613, Value.int 214 0, Value.int 2 0, Value.int 0 0, Value.int 0 0, Value.int 3 0, Value.ref 269, Value.bool Bool.true, Value.int 181 0, Value.ref 270, Value.none, Value.ref 271, Value.ref 272, Value.ref 273, Value.int 617 0, Value.int 214 0, Value.str (Str.ofString "/claim/cut.py") 618] }),
 (275, ob275.1),
 (281, { cls := Value.type "code", data := Data.fields #[Value.str (Str.ofString "_law_signed") 620, Value.str (Str.ofString "_law_signed") 621, Value.str (Str.ofString "/claim/cut.py") 622, Value.int 220 0, Value.int 2 0, Value.int 0 0, Value.int 0 0, Value.int 3 0, Value.ref 276, Value.bool Bool.true, Value.int 181 0, Value.ref 277, Value.none, Value.ref 278, Value.ref 279, Value.ref 280, Value.int 625 0, Value.int 220 0, Value.str (Str.ofString "/claim/cut.py") 626] }),
 (282, ob282.1),
 (288, { cls := Value.type "code", data := Data.fields #[Value.str (Str.ofString "_law_plain") 628, Value.str (Str.ofString "_law_plain") 629, Value.str (Str.ofString "/claim/cut.py") 630, Value.int 222 0, Value.int 2 0, Value.int 0 0, Value.int 0 0, Value.int 3 0, Value.ref 283, Value.bool Bool.true, Value.int 181 0, Value.ref 284, Value.none, Value.ref 285, Value.ref 286, Value.ref 287, Value.int 635 0, Value.int 222 0, Value.str (Str.ofString "/claim/cut.py") 636] }),
 (289, ob289.1),
 (295, { cls := Value.type "code", data := Data.fields #[Value.str (Str.ofString "_law_folded") 638, Value.str (Str.ofString "_law_folded") 639, Value.str (Str.ofString "/claim/cut.py") 640, Value.int 227 0, Value.int 1 0, Value.int 0 0, Value.int 0 0, Value.int 3 0, Value.ref 290, Value.bool Bool.true, Value.int 181 0, Value.ref 291, Value.none, Value.ref 292, Value.ref 293, Value.ref 294, Value.int 645 0, Value.int 227 0, Value.str (Str.ofString "/claim/cut.py") 646] }),
 (296, ob296.1),
 (302, { cls := Value.type "code", data := Data.fields #[Value.str (Str.ofString "_law_given") 648, Value.str (Str.ofString "_law_given") 649, Value.str (Str.ofString "/claim/cut.py") 650, Value.int 232 0, Value.int 2 0, Value.int 0 0, Value.int 0 0, Value.int 3 0, Value.ref 297, Value.bool Bool.true, Value.int 181 0, Value.ref 298, Value.none, Value.ref 299, Value.ref 300, Value.ref 301, Value.int 658 0, Value.int 232 0, Value.str (Str.ofString "/claim/cut.py") 659] }),
 (303, ob303.1),
 (307, { cls := Value.type "code", data := Data.fields #[Value.str (Str.ofString "_law_led") 661, Value.str (Str.ofString "_law_led") 662, Value.str (Str.ofString "/claim/cut.py") 663, Value.int 239 0, Value.int 3 0, Value.int 0 0, Value.int 0 0, Value.int 3 0, Value.ref 304, Value.bool Bool.true, Value.int 181 0, Value.ref 305, Value.none, Value.none, Value.none, Value.ref 306, Value.int 664 0, Value.int 239 0, Value.str (Str.ofString "/claim/cut.py") 665] }),
 (308, ob308.1),
 (312, { cls := Value.type "code", data := Data.fields #[Value.str (Str.ofString "law") 667, Value.str (Str.ofString "law") 668, Value.str (Str.ofString "/claim/cut.py") 669, Value.int 244 0, Value.int 1 0, Value.int 0 0, Value.int 0 0, Value.int 3 0, Value.ref 309, Value.bool Bool.true, Value.int 181 0, Value.ref 310, Value.none, Value.none, Value.none, Value.ref 311, Value.int 670 0, Value.int 244 0, Value.str (Str.ofString "/claim/cut.py") 671] }),
 (313, ob313.1)]
noncomputable def kas : List Addr := [3,57,58,64,65,71,72,78,79,85,86,92,93,99,100,106,107,113,114,120,121,127,128,134,135,141,142,148,149,155,156,162,163,169,170,176,177,183,184,190,191,197,198,204,205,211,212,218,219,225,226,232,233,239,240,246,247,253,254,260,261,267,268,274,275,281,282,288,289,295,296,302,303,307,308,312,313]
noncomputable def keepS (s : Stmt) : Bool := match s with
  | .Assign .. => false
  | _ => true
noncomputable def hd.view_39 : Program := { PySem.Challenge.pw_tk0049_01 with main := { PySem.Challenge.pw_tk0049_01.main with body := PySem.Challenge.pw_tk0049_01.main.body.filter keepS } }
noncomputable def hk : Hook := kHook hd.heap_39 kas (fun P => by kernel_rfl)
theorem law_said : PySem.Challenge.rw_tk0049_01.wellSaid = true := by kernel_rfl

set_option maxHeartbeats 0
noncomputable abbrev lawP : Program := PySem.Challenge.rw_tk0049_01.row.toRowW.1
noncomputable def protoOf (o : Obj) : Obj := match o.data with
  | .func f => { cls := Value.none, data := Data.func { name := f.name, qualname := f.qualname, params := f.params, body := f.body, scope := f.scope, globals := 0, closure := [], defaults := Value.none, kwdefaults := Value.none } }
  | _ => o
noncomputable def hd.sts_49 : List Stmt := (behindTheImports lawP).take 2
noncomputable def hd.sts_65 : List Stmt := ((behindTheImports lawP).drop 2).take 1
noncomputable def hd.sts_80 : List Stmt := ((behindTheImports lawP).drop 3).take 6
noncomputable def hd.sts_130 : List Stmt := ((behindTheImports lawP).drop 9).take 13
noncomputable def hd.sts_209 : List Stmt := ((behindTheImports lawP).drop 22).take 12
noncomputable def hd.sts_288 : List Stmt := ((behindTheImports lawP).drop 34).take 12
noncomputable def hd.o_43 : Params → Obj := fun P => { cls := Value.type "tuple", data := Data.seq #[] }
noncomputable def hd.o_44 : Params → Obj := fun P => { cls := Value.none, data := Data.fields #[] }
noncomputable def hd.o_45 : Params → Obj := fun P => { cls := Value.type "code", data := Data.fields #[Value.str (Str.ofString "<module>") 182, Value.str (Str.ofString "<module>") 183, Value.str (Str.ofString "/claim/cut.py") 184, Value.int 1 0, Value.int 0 0, Value.int 0 0, Value.int 0 0, Value.int 0 0, Value.ref 11, Value.bool false, Value.int 181 0, Value.ref 12, Value.none, Value.none, Value.none, Value.none, Value.int 185 0, Value.int 1 0, Value.str (Str.ofString "/claim/cut.py") 186] }
noncomputable def hd.o_46 : Params → Obj := fun P => { cls := Value.type "frame", slots := #[some (Value.ref 13), some (Value.ref 3), some (Value.ref 3), none, some (Value.str (Str.ofString "__main__") 164), none, some (Value.ref 0)] }
noncomputable def hd.o_49 : Params → Obj := fun P => { cls := Value.none, data := Data.dict #[kd P "type.__subclasses__.Exception.0" 205 (Value.int 24 0), kd P "type.__subclasses__.Exception.n" 206 (Value.int 1 0)] 2 }
noncomputable def hd.o_50 : Params → Obj := fun P => { cls := Value.type "dict", data := Data.dict #[kd P "__name__" 165 (Value.str (Str.ofString "gmp.limbs") 187), kd P "__doc__" 166 (Value.none), kd P "__package__" 167 (Value.none), kd P "__loader__" 168 (Value.builtin "__main__.__loader__#opaque"), kd P "__spec__" 169 (Value.none), kd P "__annotations__" 170 (Value.ref 6), kd P "__builtins__" 171 (Value.ref 4), kd P "__file__" 173 (Value.str (Str.ofString "/claim/cut.py") 172), kd P "__cached__" 174 (Value.none), kd P "GmpError" 208 (Value.ref 24)] 10 }
noncomputable def hd.o_51 : Params → Obj := fun P => { cls := Value.none, data := Data.fields #[Value.int 2 0, Value.int 0 0, Value.ref 20] }
noncomputable def hd.o_52 : Params → Obj := fun P => { cls := Value.type "tuple", data := Data.seq #[Value.type "Exception"] }
noncomputable def hd.o_53 : Params → Obj := fun P => { cls := Value.type "builtin_function_or_method", data := Data.fields #[Value.builtin "type.__prepare__", Value.type "type"] }
noncomputable def hd.o_54 : Params → Obj := fun P => { cls := Value.type "dict", data := Data.dict #[kd P "__module__" 196 (Value.str (Str.ofString "gmp.limbs") 187), kd P "__qualname__" 198 (Value.str (Str.ofString "GmpError") 197), kd P "__firstlineno__" 200 (Value.int 2 199), kd P "__static_attributes__" 201 (Value.ref 22)] 4 }
noncomputable def hd.o_55 : Params → Obj := fun P => { cls := Value.type "tuple", data := Data.seq #[] }
noncomputable def hd.o_56 : Params → Obj := fun P => { cls := Value.none, data := Data.fields #[] }
noncomputable def hd.o_57 : Params → Obj := fun P => { cls := Value.type "code", data := Data.fields #[Value.str (Str.ofString "GmpError") 191, Value.str (Str.ofString "GmpError") 192, Value.str (Str.ofString "/claim/cut.py") 193, Value.int 2 0, Value.int 0 0, Value.int 0 0, Value.int 0 0, Value.int 0 0, Value.ref 18, Value.bool false, Value.int 181 0, Value.ref 19, Value.none, Value.none, Value.none, Value.none, Value.int 194 0, Value.int 2 0, Value.str (Str.ofString "/claim/cut.py") 195] }
noncomputable def hd.o_58 : Params → Obj := fun P => { cls := Value.type "frame", slots := #[some (Value.ref 20), some (Value.ref 3), some (Value.ref 17), none, some (Value.str (Str.ofString "gmp.limbs") 187), none, some (Value.ref 0)] }
noncomputable def hd.o_59 : Params → Obj := fun P => { cls := Value.type "tuple", data := Data.seq #[] }
noncomputable def hd.o_60 : Params → Obj := fun P => { cls := Value.type "dict", data := Data.dict #[kd P "__module__" 196 (Value.str (Str.ofString "gmp.limbs") 187), kd P "__firstlineno__" 200 (Value.int 2 199), kd P "__static_attributes__" 201 (Value.ref 22), kd P "__weakref__" 203 (Value.ref 25), kd P "__doc__" 204 (Value.none)] 3 }
noncomputable def hd.o_61 : Params → Obj := fun P => { cls := Value.type "type", data := Data.cls { name := Str.ofString "GmpError", bases := [Value.type "Exception"], mro := [Value.ref 24, Value.type "Exception", Value.type "BaseException", Value.type "object"], ns := 23, qualname := Str.ofString "GmpError" }, slots := #[some (Value.ref 15), none, some (Value.str (Str.ofString "GmpError") 189), some (Value.str (Str.ofString "GmpError") 197), some (Value.builtin "Exception.__new__"), some (Value.bool true)] }
noncomputable def hd.o_62 : Params → Obj := fun P => { cls := Value.type "getset_descriptor", data := Data.fields #[Value.str (Str.ofString "__weakref__") 202, Value.ref 24, Value.builtin "ExceptionGroup.__weakref__", Value.none] }
noncomputable def hd.o_63 : Params → Obj := fun P => { cls := Value.type "super", data := Data.fields #[Value.ref 24, Value.ref 24, Value.ref 24] }
noncomputable def hd.o_64 : Params → Obj := fun P => { cls := Value.type "builtin_function_or_method", data := Data.fields #[Value.builtin "object.__init_subclass__", Value.ref 24] }
noncomputable def hd.o_65 : Params → Obj := fun P => { cls := Value.type "dict", data := Data.dict #[kd P "__name__" 165 (Value.str (Str.ofString "gmp.limbs") 187), kd P "__doc__" 166 (Value.none), kd P "__package__" 167 (Value.none), kd P "__loader__" 168 (Value.builtin "__main__.__loader__#opaque"), kd P "__spec__" 169 (Value.none), kd P "__annotations__" 170 (Value.ref 6), kd P "__builtins__" 171 (Value.ref 4), kd P "__file__" 173 (Value.str (Str.ofString "/claim/cut.py") 172), kd P "__cached__" 174 (Value.none), kd P "GmpError" 208 (Value.ref 24), kd P "DivisionByZero" 224 (Value.ref 37)] 11 }
noncomputable def hd.o_66 : Params → Obj := fun P => { cls := Value.none, data := Data.fields #[Value.int 2 0, Value.int 0 0, Value.ref 20, Value.int 4 0, Value.int 0 0, Value.ref 33] }
noncomputable def hd.o_67 : Params → Obj := fun P => { cls := Value.type "type", data := Data.cls { name := Str.ofString "GmpError", bases := [Value.type "Exception"], mro := [Value.ref 24, Value.type "Exception", Value.type "BaseException", Value.type "object"], ns := 23, qualname := Str.ofString "GmpError", subclasses := [Value.ref 37] }, slots := #[some (Value.ref 15), none, some (Value.str (Str.ofString "GmpError") 189), some (Value.str (Str.ofString "GmpError") 197), some (Value.builtin "Exception.__new__"), some (Value.bool true)] }
noncomputable def hd.o_68 : Params → Obj := fun P => { cls := Value.type "tuple", data := Data.seq #[Value.ref 24] }
noncomputable def hd.o_69 : Params → Obj := fun P => { cls := Value.type "builtin_function_or_method", data := Data.fields #[Value.builtin "type.__prepare__", Value.type "type"] }
noncomputable def hd.o_70 : Params → Obj := fun P => { cls := Value.type "dict", data := Data.dict #[kd P "__module__" 216 (Value.str (Str.ofString "gmp.limbs") 187), kd P "__qualname__" 218 (Value.str (Str.ofString "DivisionByZero") 217), kd P "__firstlineno__" 220 (Value.int 4 219), kd P "__static_attributes__" 221 (Value.ref 35)] 4 }
noncomputable def hd.o_71 : Params → Obj := fun P => { cls := Value.type "tuple", data := Data.seq #[] }
noncomputable def hd.o_72 : Params → Obj := fun P => { cls := Value.none, data := Data.fields #[] }
noncomputable def hd.o_73 : Params → Obj := fun P => { cls := Value.type "code", data := Data.fields #[Value.str (Str.ofString "DivisionByZero") 211, Value.str (Str.ofString "DivisionByZero") 212, Value.str (Str.ofString "/claim/cut.py") 213, Value.int 4 0, Value.int 0 0, Value.int 0 0, Value.int 0 0, Value.int 0 0, Value.ref 31, Value.bool false, Value.int 181 0, Value.ref 32, Value.none, Value.none, Value.none, Value.none, Value.int 214 0, Value.int 4 0, Value.str (Str.ofString "/claim/cut.py") 215] }
noncomputable def hd.o_74 : Params → Obj := fun P => { cls := Value.type "frame", slots := #[some (Value.ref 33), some (Value.ref 3), some (Value.ref 30), none, some (Value.str (Str.ofString "gmp.limbs") 187), none, some (Value.ref 0)] }
noncomputable def hd.o_75 : Params → Obj := fun P => { cls := Value.type "tuple", data := Data.seq #[] }
noncomputable def hd.o_76 : Params → Obj := fun P => { cls := Value.type "dict", data := Data.dict #[kd P "__module__" 216 (Value.str (Str.ofString "gmp.limbs") 187), kd P "__firstlineno__" 220 (Value.int 4 219), kd P "__static_attributes__" 221 (Value.ref 35), kd P "__doc__" 222 (Value.none)] 2 }
noncomputable def hd.o_77 : Params → Obj := fun P => { cls := Value.type "type", data := Data.cls { name := Str.ofString "DivisionByZero", bases := [Value.ref 24], mro := [Value.ref 37, Value.ref 24, Value.type "Exception", Value.type "BaseException", Value.type "object"], ns := 36, qualname := Str.ofString "DivisionByZero" }, slots := #[some (Value.ref 28), none, some (Value.str (Str.ofString "DivisionByZero") 209), some (Value.str (Str.ofString "DivisionByZero") 217), some (Value.builtin "Exception.__new__"), some (Value.bool true)] }
noncomputable def hd.o_78 : Params → Obj := fun P => { cls := Value.type "super", data := Data.fields #[Value.ref 37, Value.ref 37, Value.ref 37] }
noncomputable def hd.o_79 : Params → Obj := fun P => { cls := Value.type "builtin_function_or_method", data := Data.fields #[Value.builtin "object.__init_subclass__", Value.ref 37] }
noncomputable def hd.o_80 : Params → Obj := fun P => { cls := Value.type "dict", data := Data.dict #[kd P "__name__" 165 (Value.str (Str.ofString "gmp.limbs") 187), kd P "__doc__" 166 (Value.none), kd P "__package__" 167 (Value.none), kd P "__loader__" 168 (Value.builtin "__main__.__loader__#opaque"), kd P "__spec__" 169 (Value.none), kd P "__annotations__" 170 (Value.ref 6), kd P "__builtins__" 171 (Value.ref 4), kd P "__file__" 173 (Value.str (Str.ofString "/claim/cut.py") 172), kd P "__cached__" 174 (Value.none), kd P "GmpError" 208 (Value.ref 24), kd P "DivisionByZero" 224 (Value.ref 37), kd P "OutOfRange" 240 (Value.ref 49), kd P "normal" 248 (Value.ref 58), kd P "compare" 257 (Value.ref 65), kd P "add" 270 (Value.ref 72), kd P "sub" 284 (Value.ref 79), kd P "add_limb" 296 (Value.ref 86)] 17 }
noncomputable def hd.o_81 : Params → Obj := fun P => { cls := Value.none, data := Data.fields #[Value.int 2 0, Value.int 0 0, Value.ref 20, Value.int 4 0, Value.int 0 0, Value.ref 33, Value.int 6 0, Value.int 0 0, Value.ref 45, Value.int 8 0, Value.int 0 0, Value.ref 57, Value.int 13 0, Value.int 0 0, Value.ref 64, Value.int 20 0, Value.int 0 0, Value.ref 71, Value.int 35 0, Value.int 0 0, Value.ref 78, Value.int 44 0, Value.int 0 0, Value.ref 85] }
noncomputable def hd.o_82 : Params → Obj := fun P => { cls := Value.type "type", data := Data.cls { name := Str.ofString "GmpError", bases := [Value.type "Exception"], mro := [Value.ref 24, Value.type "Exception", Value.type "BaseException", Value.type "object"], ns := 23, qualname := Str.ofString "GmpError", subclasses := [Value.ref 37, Value.ref 49] }, slots := #[some (Value.ref 15), none, some (Value.str (Str.ofString "GmpError") 189), some (Value.str (Str.ofString "GmpError") 197), some (Value.builtin "Exception.__new__"), some (Value.bool true)] }
noncomputable def hd.o_83 : Params → Obj := fun P => { cls := Value.type "tuple", data := Data.seq #[Value.ref 24] }
noncomputable def hd.o_84 : Params → Obj := fun P => { cls := Value.type "builtin_function_or_method", data := Data.fields #[Value.builtin "type.__prepare__", Value.type "type"] }
noncomputable def hd.o_85 : Params → Obj := fun P => { cls := Value.type "dict", data := Data.dict #[kd P "__module__" 232 (Value.str (Str.ofString "gmp.limbs") 187), kd P "__qualname__" 234 (Value.str (Str.ofString "OutOfRange") 233), kd P "__firstlineno__" 236 (Value.int 6 235), kd P "__static_attributes__" 237 (Value.ref 47)] 4 }
noncomputable def hd.o_86 : Params → Obj := fun P => { cls := Value.type "tuple", data := Data.seq #[] }
noncomputable def hd.o_87 : Params → Obj := fun P => { cls := Value.none, data := Data.fields #[] }
noncomputable def hd.o_88 : Params → Obj := fun P => { cls := Value.type "code", data := Data.fields #[Value.str (Str.ofString "OutOfRange") 227, Value.str (Str.ofString "OutOfRange") 228, Value.str (Str.ofString "/claim/cut.py") 229, Value.int 6 0, Value.int 0 0, Value.int 0 0, Value.int 0 0, Value.int 0 0, Value.ref 43, Value.bool false, Value.int 181 0, Value.ref 44, Value.none, Value.none, Value.none, Value.none, Value.int 230 0, Value.int 6 0, Value.str (Str.ofString "/claim/cut.py") 231] }
noncomputable def hd.o_89 : Params → Obj := fun P => { cls := Value.type "frame", slots := #[some (Value.ref 45), some (Value.ref 3), some (Value.ref 42), none, some (Value.str (Str.ofString "gmp.limbs") 187), none, some (Value.ref 0)] }
noncomputable def hd.o_90 : Params → Obj := fun P => { cls := Value.type "tuple", data := Data.seq #[] }
noncomputable def hd.o_91 : Params → Obj := fun P => { cls := Value.type "dict", data := Data.dict #[kd P "__module__" 232 (Value.str (Str.ofString "gmp.limbs") 187), kd P "__firstlineno__" 236 (Value.int 6 235), kd P "__static_attributes__" 237 (Value.ref 47), kd P "__doc__" 238 (Value.none)] 2 }
noncomputable def hd.o_92 : Params → Obj := fun P => { cls := Value.type "type", data := Data.cls { name := Str.ofString "OutOfRange", bases := [Value.ref 24], mro := [Value.ref 49, Value.ref 24, Value.type "Exception", Value.type "BaseException", Value.type "object"], ns := 48, qualname := Str.ofString "OutOfRange" }, slots := #[some (Value.ref 40), none, some (Value.str (Str.ofString "OutOfRange") 225), some (Value.str (Str.ofString "OutOfRange") 233), some (Value.builtin "Exception.__new__"), some (Value.bool true)] }
noncomputable def hd.o_93 : Params → Obj := fun P => { cls := Value.type "super", data := Data.fields #[Value.ref 49, Value.ref 49, Value.ref 49] }
noncomputable def hd.o_94 : Params → Obj := fun P => { cls := Value.type "builtin_function_or_method", data := Data.fields #[Value.builtin "object.__init_subclass__", Value.ref 49] }
noncomputable def hd.o_95 : Params → Obj := fun P => { cls := Value.type "tuple", data := Data.seq #[] }
noncomputable def hd.o_96 : Params → Obj := fun P => { cls := Value.none, data := Data.fields #[] }
noncomputable def hd.o_97 : Params → Obj := fun P => { cls := Value.type "tuple", data := Data.seq #[Value.str (Str.ofString "a") 244, Value.str (Str.ofString "end") 245] }
noncomputable def hd.o_98 : Params → Obj := fun P => { cls := Value.type "tuple", data := Data.seq #[] }
noncomputable def hd.o_99 : Params → Obj := fun _ => protoOf ob58.1
noncomputable def hd.o_100 : Params → Obj := fun P => { cls := Value.type "code", data := Data.fields #[Value.str (Str.ofString "normal") 241, Value.str (Str.ofString "normal") 242, Value.str (Str.ofString "/claim/cut.py") 243, Value.int 8 0, Value.int 1 0, Value.int 0 0, Value.int 0 0, Value.int 3 0, Value.ref 52, Value.bool true, Value.int 181 0, Value.ref 53, Value.none, Value.ref 54, Value.ref 55, Value.ref 56, Value.int 246 0, Value.int 8 0, Value.str (Str.ofString "/claim/cut.py") 247] }
noncomputable def hd.o_101 : Params → Obj := fun _ => ob58.1
noncomputable def hd.o_102 : Params → Obj := fun P => { cls := Value.type "tuple", data := Data.seq #[] }
noncomputable def hd.o_103 : Params → Obj := fun P => { cls := Value.none, data := Data.fields #[] }
noncomputable def hd.o_104 : Params → Obj := fun P => { cls := Value.type "tuple", data := Data.seq #[Value.str (Str.ofString "a") 252, Value.str (Str.ofString "b") 253, Value.str (Str.ofString "at") 254] }
noncomputable def hd.o_105 : Params → Obj := fun P => { cls := Value.type "tuple", data := Data.seq #[] }
noncomputable def hd.o_106 : Params → Obj := fun _ => protoOf ob65.1
noncomputable def hd.o_107 : Params → Obj := fun P => { cls := Value.type "code", data := Data.fields #[Value.str (Str.ofString "compare") 249, Value.str (Str.ofString "compare") 250, Value.str (Str.ofString "/claim/cut.py") 251, Value.int 13 0, Value.int 2 0, Value.int 0 0, Value.int 0 0, Value.int 3 0, Value.ref 59, Value.bool true, Value.int 181 0, Value.ref 60, Value.none, Value.ref 61, Value.ref 62, Value.ref 63, Value.int 255 0, Value.int 13 0, Value.str (Str.ofString "/claim/cut.py") 256] }
noncomputable def hd.o_108 : Params → Obj := fun _ => ob65.1
noncomputable def hd.o_109 : Params → Obj := fun P => { cls := Value.type "tuple", data := Data.seq #[] }
noncomputable def hd.o_110 : Params → Obj := fun P => { cls := Value.none, data := Data.fields #[] }
noncomputable def hd.o_111 : Params → Obj := fun P => { cls := Value.type "tuple", data := Data.seq #[Value.str (Str.ofString "a") 261, Value.str (Str.ofString "b") 262, Value.str (Str.ofString "w") 263, Value.str (Str.ofString "found") 264, Value.str (Str.ofString "carry") 265, Value.str (Str.ofString "mask") 266, Value.str (Str.ofString "at") 267] }
noncomputable def hd.o_112 : Params → Obj := fun P => { cls := Value.type "tuple", data := Data.seq #[] }
noncomputable def hd.o_113 : Params → Obj := fun _ => protoOf ob72.1
noncomputable def hd.o_114 : Params → Obj := fun P => { cls := Value.type "code", data := Data.fields #[Value.str (Str.ofString "add") 258, Value.str (Str.ofString "add") 259, Value.str (Str.ofString "/claim/cut.py") 260, Value.int 20 0, Value.int 3 0, Value.int 0 0, Value.int 0 0, Value.int 3 0, Value.ref 66, Value.bool true, Value.int 181 0, Value.ref 67, Value.none, Value.ref 68, Value.ref 69, Value.ref 70, Value.int 268 0, Value.int 20 0, Value.str (Str.ofString "/claim/cut.py") 269] }
noncomputable def hd.o_115 : Params → Obj := fun _ => ob72.1
noncomputable def hd.o_116 : Params → Obj := fun P => { cls := Value.type "tuple", data := Data.seq #[] }
noncomputable def hd.o_117 : Params → Obj := fun P => { cls := Value.none, data := Data.fields #[] }
noncomputable def hd.o_118 : Params → Obj := fun P => { cls := Value.type "tuple", data := Data.seq #[Value.str (Str.ofString "a") 274, Value.str (Str.ofString "b") 275, Value.str (Str.ofString "w") 276, Value.str (Str.ofString "found") 277, Value.str (Str.ofString "borrow") 278, Value.str (Str.ofString "base") 279, Value.str (Str.ofString "at") 280, Value.str (Str.ofString "limb") 281] }
noncomputable def hd.o_119 : Params → Obj := fun P => { cls := Value.type "tuple", data := Data.seq #[] }
noncomputable def hd.o_120 : Params → Obj := fun _ => protoOf ob79.1
noncomputable def hd.o_121 : Params → Obj := fun P => { cls := Value.type "code", data := Data.fields #[Value.str (Str.ofString "sub") 271, Value.str (Str.ofString "sub") 272, Value.str (Str.ofString "/claim/cut.py") 273, Value.int 35 0, Value.int 3 0, Value.int 0 0, Value.int 0 0, Value.int 3 0, Value.ref 73, Value.bool true, Value.int 181 0, Value.ref 74, Value.none, Value.ref 75, Value.ref 76, Value.ref 77, Value.int 282 0, Value.int 35 0, Value.str (Str.ofString "/claim/cut.py") 283] }
noncomputable def hd.o_122 : Params → Obj := fun _ => ob79.1
noncomputable def hd.o_123 : Params → Obj := fun P => { cls := Value.type "tuple", data := Data.seq #[] }
noncomputable def hd.o_124 : Params → Obj := fun P => { cls := Value.none, data := Data.fields #[] }
noncomputable def hd.o_125 : Params → Obj := fun P => { cls := Value.type "tuple", data := Data.seq #[Value.str (Str.ofString "a") 288, Value.str (Str.ofString "limb") 289, Value.str (Str.ofString "w") 290, Value.str (Str.ofString "found") 291, Value.str (Str.ofString "mask") 292, Value.str (Str.ofString "one") 293] }
noncomputable def hd.o_126 : Params → Obj := fun P => { cls := Value.type "tuple", data := Data.seq #[] }
noncomputable def hd.o_127 : Params → Obj := fun _ => protoOf ob86.1
noncomputable def hd.o_128 : Params → Obj := fun P => { cls := Value.type "code", data := Data.fields #[Value.str (Str.ofString "add_limb") 285, Value.str (Str.ofString "add_limb") 286, Value.str (Str.ofString "/claim/cut.py") 287, Value.int 44 0, Value.int 3 0, Value.int 0 0, Value.int 0 0, Value.int 3 0, Value.ref 80, Value.bool true, Value.int 181 0, Value.ref 81, Value.none, Value.ref 82, Value.ref 83, Value.ref 84, Value.int 294 0, Value.int 44 0, Value.str (Str.ofString "/claim/cut.py") 295] }
noncomputable def hd.o_129 : Params → Obj := fun _ => ob86.1
noncomputable def hd.o_130 : Params → Obj := fun P => { cls := Value.type "dict", data := Data.dict #[kd P "__name__" 165 (Value.str (Str.ofString "gmp.rationals") 400), kd P "__doc__" 166 (Value.none), kd P "__package__" 167 (Value.none), kd P "__loader__" 168 (Value.builtin "__main__.__loader__#opaque"), kd P "__spec__" 169 (Value.none), kd P "__annotations__" 170 (Value.ref 6), kd P "__builtins__" 171 (Value.ref 4), kd P "__file__" 173 (Value.str (Str.ofString "/claim/cut.py") 172), kd P "__cached__" 174 (Value.none), kd P "GmpError" 208 (Value.ref 24), kd P "DivisionByZero" 224 (Value.ref 37), kd P "OutOfRange" 240 (Value.ref 49), kd P "normal" 248 (Value.ref 58), kd P "compare" 257 (Value.ref 65), kd P "add" 270 (Value.ref 72), kd P "sub" 284 (Value.ref 79), kd P "add_limb" 296 (Value.ref 86), kd P "divrem_limb" 308 (Value.ref 93), kd P "shift_left" 323 (Value.ref 100), kd P "shift_right" 338 (Value.ref 107), kd P "bits" 346 (Value.ref 114), kd P "signed" 356 (Value.ref 121), kd P "s_add" 365 (Value.ref 128), kd P "s_mul" 375 (Value.ref 135), kd P "tdiv" 387 (Value.ref 142), kd P "fdiv" 399 (Value.ref 149), kd P "common" 411 (Value.ref 156), kd P "cut_signed" 421 (Value.ref 163)] 28 }
noncomputable def hd.o_131 : Params → Obj := fun P => { cls := Value.none, data := Data.fields #[Value.int 2 0, Value.int 0 0, Value.ref 20, Value.int 4 0, Value.int 0 0, Value.ref 33, Value.int 6 0, Value.int 0 0, Value.ref 45, Value.int 8 0, Value.int 0 0, Value.ref 57, Value.int 13 0, Value.int 0 0, Value.ref 64, Value.int 20 0, Value.int 0 0, Value.ref 71, Value.int 35 0, Value.int 0 0, Value.ref 78, Value.int 44 0, Value.int 0 0, Value.ref 85, Value.int 53 0, Value.int 0 0, Value.ref 92, Value.int 62 0, Value.int 0 0, Value.ref 99, Value.int 74 0, Value.int 0 0, Value.ref 106, Value.int 81 0, Value.int 0 0, Value.ref 113, Value.int 84 0, Value.int 0 0, Value.ref 120, Value.int 86 0, Value.int 0 0, Value.ref 127, Value.int 92 0, Value.int 0 0, Value.ref 134, Value.int 94 0, Value.int 0 0, Value.ref 141, Value.int 99 0, Value.int 0 0, Value.ref 148, Value.int 105 0, Value.int 0 0, Value.ref 155, Value.int 109 0, Value.int 0 0, Value.ref 162] }
noncomputable def hd.o_132 : Params → Obj := fun P => { cls := Value.type "tuple", data := Data.seq #[] }
noncomputable def hd.o_133 : Params → Obj := fun P => { cls := Value.none, data := Data.fields #[] }
noncomputable def hd.o_134 : Params → Obj := fun P => { cls := Value.type "tuple", data := Data.seq #[Value.str (Str.ofString "a") 300, Value.str (Str.ofString "limb") 301, Value.str (Str.ofString "w") 302, Value.str (Str.ofString "found") 303, Value.str (Str.ofString "rest") 304, Value.str (Str.ofString "at") 305] }
noncomputable def hd.o_135 : Params → Obj := fun P => { cls := Value.type "tuple", data := Data.seq #[] }
noncomputable def hd.o_136 : Params → Obj := fun _ => protoOf ob93.1
noncomputable def hd.o_137 : Params → Obj := fun P => { cls := Value.type "code", data := Data.fields #[Value.str (Str.ofString "divrem_limb") 297, Value.str (Str.ofString "divrem_limb") 298, Value.str (Str.ofString "/claim/cut.py") 299, Value.int 53 0, Value.int 3 0, Value.int 0 0, Value.int 0 0, Value.int 3 0, Value.ref 87, Value.bool true, Value.int 181 0, Value.ref 88, Value.none, Value.ref 89, Value.ref 90, Value.ref 91, Value.int 306 0, Value.int 53 0, Value.str (Str.ofString "/claim/cut.py") 307] }
noncomputable def hd.o_138 : Params → Obj := fun _ => ob93.1
noncomputable def hd.o_139 : Params → Obj := fun P => { cls := Value.type "tuple", data := Data.seq #[] }
noncomputable def hd.o_140 : Params → Obj := fun P => { cls := Value.none, data := Data.fields #[] }
noncomputable def hd.o_141 : Params → Obj := fun P => { cls := Value.type "tuple", data := Data.seq #[Value.str (Str.ofString "a") 312, Value.str (Str.ofString "n") 313, Value.str (Str.ofString "w") 314, Value.str (Str.ofString "spots") 315, Value.str (Str.ofString "few") 316, Value.str (Str.ofString "found") 317, Value.str (Str.ofString "carry") 318, Value.str (Str.ofString "mask") 319, Value.str (Str.ofString "one") 320] }
noncomputable def hd.o_142 : Params → Obj := fun P => { cls := Value.type "tuple", data := Data.seq #[] }
noncomputable def hd.o_143 : Params → Obj := fun _ => protoOf ob100.1
noncomputable def hd.o_144 : Params → Obj := fun P => { cls := Value.type "code", data := Data.fields #[Value.str (Str.ofString "shift_left") 309, Value.str (Str.ofString "shift_left") 310, Value.str (Str.ofString "/claim/cut.py") 311, Value.int 62 0, Value.int 3 0, Value.int 0 0, Value.int 0 0, Value.int 3 0, Value.ref 94, Value.bool true, Value.int 181 0, Value.ref 95, Value.none, Value.ref 96, Value.ref 97, Value.ref 98, Value.int 321 0, Value.int 62 0, Value.str (Str.ofString "/claim/cut.py") 322] }
noncomputable def hd.o_145 : Params → Obj := fun _ => ob100.1
noncomputable def hd.o_146 : Params → Obj := fun P => { cls := Value.type "tuple", data := Data.seq #[] }
noncomputable def hd.o_147 : Params → Obj := fun P => { cls := Value.none, data := Data.fields #[] }
noncomputable def hd.o_148 : Params → Obj := fun P => { cls := Value.type "tuple", data := Data.seq #[Value.str (Str.ofString "a") 327, Value.str (Str.ofString "n") 328, Value.str (Str.ofString "w") 329, Value.str (Str.ofString "spots") 330, Value.str (Str.ofString "few") 331, Value.str (Str.ofString "found") 332, Value.str (Str.ofString "mask") 333, Value.str (Str.ofString "at") 334, Value.str (Str.ofString "above") 335] }
noncomputable def hd.o_149 : Params → Obj := fun P => { cls := Value.type "tuple", data := Data.seq #[] }
noncomputable def hd.o_150 : Params → Obj := fun _ => protoOf ob107.1
noncomputable def hd.o_151 : Params → Obj := fun P => { cls := Value.type "code", data := Data.fields #[Value.str (Str.ofString "shift_right") 324, Value.str (Str.ofString "shift_right") 325, Value.str (Str.ofString "/claim/cut.py") 326, Value.int 74 0, Value.int 3 0, Value.int 0 0, Value.int 0 0, Value.int 3 0, Value.ref 101, Value.bool true, Value.int 181 0, Value.ref 102, Value.none, Value.ref 103, Value.ref 104, Value.ref 105, Value.int 336 0, Value.int 74 0, Value.str (Str.ofString "/claim/cut.py") 337] }
noncomputable def hd.o_152 : Params → Obj := fun _ => ob107.1
noncomputable def hd.o_153 : Params → Obj := fun P => { cls := Value.type "tuple", data := Data.seq #[] }
noncomputable def hd.o_154 : Params → Obj := fun P => { cls := Value.none, data := Data.fields #[] }
noncomputable def hd.o_155 : Params → Obj := fun P => { cls := Value.type "tuple", data := Data.seq #[Value.str (Str.ofString "a") 342, Value.str (Str.ofString "w") 343] }
noncomputable def hd.o_156 : Params → Obj := fun P => { cls := Value.type "tuple", data := Data.seq #[] }
noncomputable def hd.o_157 : Params → Obj := fun _ => protoOf ob114.1
noncomputable def hd.o_158 : Params → Obj := fun P => { cls := Value.type "code", data := Data.fields #[Value.str (Str.ofString "bits") 339, Value.str (Str.ofString "bits") 340, Value.str (Str.ofString "/claim/cut.py") 341, Value.int 81 0, Value.int 2 0, Value.int 0 0, Value.int 0 0, Value.int 3 0, Value.ref 108, Value.bool true, Value.int 181 0, Value.ref 109, Value.none, Value.ref 110, Value.ref 111, Value.ref 112, Value.int 344 0, Value.int 81 0, Value.str (Str.ofString "/claim/cut.py") 345] }
noncomputable def hd.o_159 : Params → Obj := fun _ => ob114.1
noncomputable def hd.o_160 : Params → Obj := fun P => { cls := Value.type "tuple", data := Data.seq #[] }
noncomputable def hd.o_161 : Params → Obj := fun P => { cls := Value.none, data := Data.fields #[] }
noncomputable def hd.o_162 : Params → Obj := fun P => { cls := Value.type "tuple", data := Data.seq #[Value.str (Str.ofString "is_below") 352, Value.str (Str.ofString "nat") 353] }
noncomputable def hd.o_163 : Params → Obj := fun P => { cls := Value.type "tuple", data := Data.seq #[] }
noncomputable def hd.o_164 : Params → Obj := fun _ => protoOf ob121.1
noncomputable def hd.o_165 : Params → Obj := fun P => { cls := Value.type "code", data := Data.fields #[Value.str (Str.ofString "signed") 349, Value.str (Str.ofString "signed") 350, Value.str (Str.ofString "/claim/cut.py") 351, Value.int 84 0, Value.int 2 0, Value.int 0 0, Value.int 0 0, Value.int 3 0, Value.ref 115, Value.bool true, Value.int 181 0, Value.ref 116, Value.none, Value.ref 117, Value.ref 118, Value.ref 119, Value.int 354 0, Value.int 84 0, Value.str (Str.ofString "/claim/cut.py") 355] }
noncomputable def hd.o_166 : Params → Obj := fun _ => ob121.1
noncomputable def hd.o_167 : Params → Obj := fun P => { cls := Value.type "tuple", data := Data.seq #[] }
noncomputable def hd.o_168 : Params → Obj := fun P => { cls := Value.none, data := Data.fields #[] }
noncomputable def hd.o_169 : Params → Obj := fun P => { cls := Value.type "tuple", data := Data.seq #[Value.str (Str.ofString "x") 360, Value.str (Str.ofString "y") 361, Value.str (Str.ofString "w") 362] }
noncomputable def hd.o_170 : Params → Obj := fun P => { cls := Value.type "tuple", data := Data.seq #[] }
noncomputable def hd.o_171 : Params → Obj := fun _ => protoOf ob128.1
noncomputable def hd.o_172 : Params → Obj := fun P => { cls := Value.type "code", data := Data.fields #[Value.str (Str.ofString "s_add") 357, Value.str (Str.ofString "s_add") 358, Value.str (Str.ofString "/claim/cut.py") 359, Value.int 86 0, Value.int 3 0, Value.int 0 0, Value.int 0 0, Value.int 3 0, Value.ref 122, Value.bool true, Value.int 181 0, Value.ref 123, Value.none, Value.ref 124, Value.ref 125, Value.ref 126, Value.int 363 0, Value.int 86 0, Value.str (Str.ofString "/claim/cut.py") 364] }
noncomputable def hd.o_173 : Params → Obj := fun _ => ob128.1
noncomputable def hd.o_174 : Params → Obj := fun P => { cls := Value.type "tuple", data := Data.seq #[] }
noncomputable def hd.o_175 : Params → Obj := fun P => { cls := Value.none, data := Data.fields #[] }
noncomputable def hd.o_176 : Params → Obj := fun P => { cls := Value.type "tuple", data := Data.seq #[Value.str (Str.ofString "x") 369, Value.str (Str.ofString "y") 370, Value.str (Str.ofString "w") 371, Value.str (Str.ofString "mul") 372] }
noncomputable def hd.o_177 : Params → Obj := fun P => { cls := Value.type "tuple", data := Data.seq #[] }
noncomputable def hd.o_178 : Params → Obj := fun _ => protoOf ob135.1
noncomputable def hd.o_179 : Params → Obj := fun P => { cls := Value.type "code", data := Data.fields #[Value.str (Str.ofString "s_mul") 366, Value.str (Str.ofString "s_mul") 367, Value.str (Str.ofString "/claim/cut.py") 368, Value.int 92 0, Value.int 4 0, Value.int 0 0, Value.int 0 0, Value.int 3 0, Value.ref 129, Value.bool true, Value.int 181 0, Value.ref 130, Value.none, Value.ref 131, Value.ref 132, Value.ref 133, Value.int 373 0, Value.int 92 0, Value.str (Str.ofString "/claim/cut.py") 374] }
noncomputable def hd.o_180 : Params → Obj := fun _ => ob135.1
noncomputable def hd.o_181 : Params → Obj := fun P => { cls := Value.type "tuple", data := Data.seq #[] }
noncomputable def hd.o_182 : Params → Obj := fun P => { cls := Value.none, data := Data.fields #[] }
noncomputable def hd.o_183 : Params → Obj := fun P => { cls := Value.type "tuple", data := Data.seq #[Value.str (Str.ofString "x") 379, Value.str (Str.ofString "y") 380, Value.str (Str.ofString "w") 381, Value.str (Str.ofString "divrem") 382, Value.str (Str.ofString "quotient") 383, Value.str (Str.ofString "rest") 384] }
noncomputable def hd.o_184 : Params → Obj := fun P => { cls := Value.type "tuple", data := Data.seq #[] }
noncomputable def hd.o_185 : Params → Obj := fun _ => protoOf ob142.1
noncomputable def hd.o_186 : Params → Obj := fun P => { cls := Value.type "code", data := Data.fields #[Value.str (Str.ofString "tdiv") 376, Value.str (Str.ofString "tdiv") 377, Value.str (Str.ofString "/claim/cut.py") 378, Value.int 94 0, Value.int 4 0, Value.int 0 0, Value.int 0 0, Value.int 3 0, Value.ref 136, Value.bool true, Value.int 181 0, Value.ref 137, Value.none, Value.ref 138, Value.ref 139, Value.ref 140, Value.int 385 0, Value.int 94 0, Value.str (Str.ofString "/claim/cut.py") 386] }
noncomputable def hd.o_187 : Params → Obj := fun _ => ob142.1
noncomputable def hd.o_188 : Params → Obj := fun P => { cls := Value.type "tuple", data := Data.seq #[] }
noncomputable def hd.o_189 : Params → Obj := fun P => { cls := Value.none, data := Data.fields #[] }
noncomputable def hd.o_190 : Params → Obj := fun P => { cls := Value.type "tuple", data := Data.seq #[Value.str (Str.ofString "x") 391, Value.str (Str.ofString "y") 392, Value.str (Str.ofString "w") 393, Value.str (Str.ofString "divrem") 394, Value.str (Str.ofString "quotient") 395, Value.str (Str.ofString "rest") 396] }
noncomputable def hd.o_191 : Params → Obj := fun P => { cls := Value.type "tuple", data := Data.seq #[] }
noncomputable def hd.o_192 : Params → Obj := fun _ => protoOf ob149.1
noncomputable def hd.o_193 : Params → Obj := fun P => { cls := Value.type "code", data := Data.fields #[Value.str (Str.ofString "fdiv") 388, Value.str (Str.ofString "fdiv") 389, Value.str (Str.ofString "/claim/cut.py") 390, Value.int 99 0, Value.int 4 0, Value.int 0 0, Value.int 0 0, Value.int 3 0, Value.ref 143, Value.bool true, Value.int 181 0, Value.ref 144, Value.none, Value.ref 145, Value.ref 146, Value.ref 147, Value.int 397 0, Value.int 99 0, Value.str (Str.ofString "/claim/cut.py") 398] }
noncomputable def hd.o_194 : Params → Obj := fun _ => ob149.1
noncomputable def hd.o_195 : Params → Obj := fun P => { cls := Value.type "tuple", data := Data.seq #[] }
noncomputable def hd.o_196 : Params → Obj := fun P => { cls := Value.none, data := Data.fields #[] }
noncomputable def hd.o_197 : Params → Obj := fun P => { cls := Value.type "tuple", data := Data.seq #[Value.str (Str.ofString "a") 405, Value.str (Str.ofString "b") 406, Value.str (Str.ofString "w") 407, Value.str (Str.ofString "divrem") 408] }
noncomputable def hd.o_198 : Params → Obj := fun P => { cls := Value.type "tuple", data := Data.seq #[] }
noncomputable def hd.o_199 : Params → Obj := fun _ => protoOf ob156.1
noncomputable def hd.o_200 : Params → Obj := fun P => { cls := Value.type "code", data := Data.fields #[Value.str (Str.ofString "common") 402, Value.str (Str.ofString "common") 403, Value.str (Str.ofString "/claim/cut.py") 404, Value.int 105 0, Value.int 4 0, Value.int 0 0, Value.int 0 0, Value.int 3 0, Value.ref 150, Value.bool true, Value.int 181 0, Value.ref 151, Value.none, Value.ref 152, Value.ref 153, Value.ref 154, Value.int 409 0, Value.int 105 0, Value.str (Str.ofString "/claim/cut.py") 410] }
noncomputable def hd.o_201 : Params → Obj := fun _ => ob156.1
noncomputable def hd.o_202 : Params → Obj := fun P => { cls := Value.type "tuple", data := Data.seq #[] }
noncomputable def hd.o_203 : Params → Obj := fun P => { cls := Value.none, data := Data.fields #[] }
noncomputable def hd.o_204 : Params → Obj := fun P => { cls := Value.type "tuple", data := Data.seq #[Value.str (Str.ofString "x") 415, Value.str (Str.ofString "d") 416, Value.str (Str.ofString "w") 417, Value.str (Str.ofString "divrem") 418] }
noncomputable def hd.o_205 : Params → Obj := fun P => { cls := Value.type "tuple", data := Data.seq #[] }
noncomputable def hd.o_206 : Params → Obj := fun _ => protoOf ob163.1
noncomputable def hd.o_207 : Params → Obj := fun P => { cls := Value.type "code", data := Data.fields #[Value.str (Str.ofString "cut_signed") 412, Value.str (Str.ofString "cut_signed") 413, Value.str (Str.ofString "/claim/cut.py") 414, Value.int 109 0, Value.int 4 0, Value.int 0 0, Value.int 0 0, Value.int 3 0, Value.ref 157, Value.bool true, Value.int 181 0, Value.ref 158, Value.none, Value.ref 159, Value.ref 160, Value.ref 161, Value.int 419 0, Value.int 109 0, Value.str (Str.ofString "/claim/cut.py") 420] }
noncomputable def hd.o_208 : Params → Obj := fun _ => ob163.1
noncomputable def hd.o_209 : Params → Obj := fun P => { cls := Value.type "dict", data := Data.dict #[kd P "__name__" 165 (Value.str (Str.ofString "gmp.school") 502), kd P "__doc__" 166 (Value.none), kd P "__package__" 167 (Value.none), kd P "__loader__" 168 (Value.builtin "__main__.__loader__#opaque"), kd P "__spec__" 169 (Value.none), kd P "__annotations__" 170 (Value.ref 6), kd P "__builtins__" 171 (Value.ref 4), kd P "__file__" 173 (Value.str (Str.ofString "/claim/cut.py") 172), kd P "__cached__" 174 (Value.none), kd P "GmpError" 208 (Value.ref 24), kd P "DivisionByZero" 224 (Value.ref 37), kd P "OutOfRange" 240 (Value.ref 49), kd P "normal" 248 (Value.ref 58), kd P "compare" 257 (Value.ref 65), kd P "add" 270 (Value.ref 72), kd P "sub" 284 (Value.ref 79), kd P "add_limb" 296 (Value.ref 86), kd P "divrem_limb" 308 (Value.ref 93), kd P "shift_left" 323 (Value.ref 100), kd P "shift_right" 338 (Value.ref 107), kd P "bits" 346 (Value.ref 114), kd P "signed" 356 (Value.ref 121), kd P "s_add" 365 (Value.ref 128), kd P "s_mul" 375 (Value.ref 135), kd P "tdiv" 387 (Value.ref 142), kd P "fdiv" 399 (Value.ref 149), kd P "common" 411 (Value.ref 156), kd P "cut_signed" 421 (Value.ref 163), kd P "signed_of" 428 (Value.ref 170), kd P "r_make" 439 (Value.ref 177), kd P "r_add" 455 (Value.ref 184), kd P "r_mul" 469 (Value.ref 191), kd P "r_inverse" 476 (Value.ref 198), kd P "r_div" 487 (Value.ref 205), kd P "continued" 501 (Value.ref 212), kd P "mul_school" 519 (Value.ref 219), kd P "divrem_small" 530 (Value.ref 226), kd P "guessed_limb" 544 (Value.ref 233), kd P "take_away" 560 (Value.ref 240)] 39 }
noncomputable def hd.o_210 : Params → Obj := fun P => { cls := Value.none, data := Data.fields #[Value.int 2 0, Value.int 0 0, Value.ref 20, Value.int 4 0, Value.int 0 0, Value.ref 33, Value.int 6 0, Value.int 0 0, Value.ref 45, Value.int 8 0, Value.int 0 0, Value.ref 57, Value.int 13 0, Value.int 0 0, Value.ref 64, Value.int 20 0, Value.int 0 0, Value.ref 71, Value.int 35 0, Value.int 0 0, Value.ref 78, Value.int 44 0, Value.int 0 0, Value.ref 85, Value.int 53 0, Value.int 0 0, Value.ref 92, Value.int 62 0, Value.int 0 0, Value.ref 99, Value.int 74 0, Value.int 0 0, Value.ref 106, Value.int 81 0, Value.int 0 0, Value.ref 113, Value.int 84 0, Value.int 0 0, Value.ref 120, Value.int 86 0, Value.int 0 0, Value.ref 127, Value.int 92 0, Value.int 0 0, Value.ref 134, Value.int 94 0, Value.int 0 0, Value.ref 141, Value.int 99 0, Value.int 0 0, Value.ref 148, Value.int 105 0, Value.int 0 0, Value.ref 155, Value.int 109 0, Value.int 0 0, Value.ref 162, Value.int 111 0, Value.int 0 0, Value.ref 169, Value.int 113 0, Value.int 0 0, Value.ref 176, Value.int 120 0, Value.int 0 0, Value.ref 183, Value.int 128 0, Value.int 0 0, Value.ref 190, Value.int 134 0, Value.int 0 0, Value.ref 197, Value.int 138 0, Value.int 0 0, Value.ref 204, Value.int 140 0, Value.int 0 0, Value.ref 211, Value.int 148 0, Value.int 0 0, Value.ref 218, Value.int 158 0, Value.int 0 0, Value.ref 225, Value.int 161 0, Value.int 0 0, Value.ref 232, Value.int 169 0, Value.int 0 0, Value.ref 239] }
noncomputable def hd.o_211 : Params → Obj := fun P => { cls := Value.type "tuple", data := Data.seq #[] }
noncomputable def hd.o_212 : Params → Obj := fun P => { cls := Value.none, data := Data.fields #[] }
noncomputable def hd.o_213 : Params → Obj := fun P => { cls := Value.type "tuple", data := Data.seq #[Value.str (Str.ofString "nat") 425] }
noncomputable def hd.o_214 : Params → Obj := fun P => { cls := Value.type "tuple", data := Data.seq #[] }
noncomputable def hd.o_215 : Params → Obj := fun _ => protoOf ob170.1
noncomputable def hd.o_216 : Params → Obj := fun P => { cls := Value.type "code", data := Data.fields #[Value.str (Str.ofString "signed_of") 422, Value.str (Str.ofString "signed_of") 423, Value.str (Str.ofString "/claim/cut.py") 424, Value.int 111 0, Value.int 1 0, Value.int 0 0, Value.int 0 0, Value.int 3 0, Value.ref 164, Value.bool true, Value.int 181 0, Value.ref 165, Value.none, Value.ref 166, Value.ref 167, Value.ref 168, Value.int 426 0, Value.int 111 0, Value.str (Str.ofString "/claim/cut.py") 427] }
noncomputable def hd.o_217 : Params → Obj := fun _ => ob170.1
noncomputable def hd.o_218 : Params → Obj := fun P => { cls := Value.type "tuple", data := Data.seq #[] }
noncomputable def hd.o_219 : Params → Obj := fun P => { cls := Value.none, data := Data.fields #[] }
noncomputable def hd.o_220 : Params → Obj := fun P => { cls := Value.type "tuple", data := Data.seq #[Value.str (Str.ofString "top") 432, Value.str (Str.ofString "bottom") 433, Value.str (Str.ofString "w") 434, Value.str (Str.ofString "divrem") 435, Value.str (Str.ofString "told") 436] }
noncomputable def hd.o_221 : Params → Obj := fun P => { cls := Value.type "tuple", data := Data.seq #[] }
noncomputable def hd.o_222 : Params → Obj := fun _ => protoOf ob177.1
noncomputable def hd.o_223 : Params → Obj := fun P => { cls := Value.type "code", data := Data.fields #[Value.str (Str.ofString "r_make") 429, Value.str (Str.ofString "r_make") 430, Value.str (Str.ofString "/claim/cut.py") 431, Value.int 113 0, Value.int 4 0, Value.int 0 0, Value.int 0 0, Value.int 3 0, Value.ref 171, Value.bool true, Value.int 181 0, Value.ref 172, Value.none, Value.ref 173, Value.ref 174, Value.ref 175, Value.int 437 0, Value.int 113 0, Value.str (Str.ofString "/claim/cut.py") 438] }
noncomputable def hd.o_224 : Params → Obj := fun _ => ob177.1
noncomputable def hd.o_225 : Params → Obj := fun P => { cls := Value.type "tuple", data := Data.seq #[] }
noncomputable def hd.o_226 : Params → Obj := fun P => { cls := Value.none, data := Data.fields #[] }
noncomputable def hd.o_227 : Params → Obj := fun P => { cls := Value.type "tuple", data := Data.seq #[Value.str (Str.ofString "x") 443, Value.str (Str.ofString "y") 444, Value.str (Str.ofString "w") 445, Value.str (Str.ofString "mul") 446, Value.str (Str.ofString "divrem") 447, Value.str (Str.ofString "told") 448, Value.str (Str.ofString "here") 449, Value.str (Str.ofString "there") 450, Value.str (Str.ofString "top") 451, Value.str (Str.ofString "out") 452] }
noncomputable def hd.o_228 : Params → Obj := fun P => { cls := Value.type "tuple", data := Data.seq #[] }
noncomputable def hd.o_229 : Params → Obj := fun _ => protoOf ob184.1
noncomputable def hd.o_230 : Params → Obj := fun P => { cls := Value.type "code", data := Data.fields #[Value.str (Str.ofString "r_add") 440, Value.str (Str.ofString "r_add") 441, Value.str (Str.ofString "/claim/cut.py") 442, Value.int 120 0, Value.int 5 0, Value.int 0 0, Value.int 0 0, Value.int 3 0, Value.ref 178, Value.bool true, Value.int 181 0, Value.ref 179, Value.none, Value.ref 180, Value.ref 181, Value.ref 182, Value.int 453 0, Value.int 120 0, Value.str (Str.ofString "/claim/cut.py") 454] }
noncomputable def hd.o_231 : Params → Obj := fun _ => ob184.1
noncomputable def hd.o_232 : Params → Obj := fun P => { cls := Value.type "tuple", data := Data.seq #[] }
noncomputable def hd.o_233 : Params → Obj := fun P => { cls := Value.none, data := Data.fields #[] }
noncomputable def hd.o_234 : Params → Obj := fun P => { cls := Value.type "tuple", data := Data.seq #[Value.str (Str.ofString "x") 459, Value.str (Str.ofString "y") 460, Value.str (Str.ofString "w") 461, Value.str (Str.ofString "mul") 462, Value.str (Str.ofString "divrem") 463, Value.str (Str.ofString "one") 464, Value.str (Str.ofString "other") 465, Value.str (Str.ofString "top") 466] }
noncomputable def hd.o_235 : Params → Obj := fun P => { cls := Value.type "tuple", data := Data.seq #[] }
noncomputable def hd.o_236 : Params → Obj := fun _ => protoOf ob191.1
noncomputable def hd.o_237 : Params → Obj := fun P => { cls := Value.type "code", data := Data.fields #[Value.str (Str.ofString "r_mul") 456, Value.str (Str.ofString "r_mul") 457, Value.str (Str.ofString "/claim/cut.py") 458, Value.int 128 0, Value.int 5 0, Value.int 0 0, Value.int 0 0, Value.int 3 0, Value.ref 185, Value.bool true, Value.int 181 0, Value.ref 186, Value.none, Value.ref 187, Value.ref 188, Value.ref 189, Value.int 467 0, Value.int 128 0, Value.str (Str.ofString "/claim/cut.py") 468] }
noncomputable def hd.o_238 : Params → Obj := fun _ => ob191.1
noncomputable def hd.o_239 : Params → Obj := fun P => { cls := Value.type "tuple", data := Data.seq #[] }
noncomputable def hd.o_240 : Params → Obj := fun P => { cls := Value.none, data := Data.fields #[] }
noncomputable def hd.o_241 : Params → Obj := fun P => { cls := Value.type "tuple", data := Data.seq #[Value.str (Str.ofString "x") 473] }
noncomputable def hd.o_242 : Params → Obj := fun P => { cls := Value.type "tuple", data := Data.seq #[] }
noncomputable def hd.o_243 : Params → Obj := fun _ => protoOf ob198.1
noncomputable def hd.o_244 : Params → Obj := fun P => { cls := Value.type "code", data := Data.fields #[Value.str (Str.ofString "r_inverse") 470, Value.str (Str.ofString "r_inverse") 471, Value.str (Str.ofString "/claim/cut.py") 472, Value.int 134 0, Value.int 1 0, Value.int 0 0, Value.int 0 0, Value.int 3 0, Value.ref 192, Value.bool true, Value.int 181 0, Value.ref 193, Value.none, Value.ref 194, Value.ref 195, Value.ref 196, Value.int 474 0, Value.int 134 0, Value.str (Str.ofString "/claim/cut.py") 475] }
noncomputable def hd.o_245 : Params → Obj := fun _ => ob198.1
noncomputable def hd.o_246 : Params → Obj := fun P => { cls := Value.type "tuple", data := Data.seq #[] }
noncomputable def hd.o_247 : Params → Obj := fun P => { cls := Value.none, data := Data.fields #[] }
noncomputable def hd.o_248 : Params → Obj := fun P => { cls := Value.type "tuple", data := Data.seq #[Value.str (Str.ofString "x") 480, Value.str (Str.ofString "y") 481, Value.str (Str.ofString "w") 482, Value.str (Str.ofString "mul") 483, Value.str (Str.ofString "divrem") 484] }
noncomputable def hd.o_249 : Params → Obj := fun P => { cls := Value.type "tuple", data := Data.seq #[] }
noncomputable def hd.o_250 : Params → Obj := fun _ => protoOf ob205.1
noncomputable def hd.o_251 : Params → Obj := fun P => { cls := Value.type "code", data := Data.fields #[Value.str (Str.ofString "r_div") 477, Value.str (Str.ofString "r_div") 478, Value.str (Str.ofString "/claim/cut.py") 479, Value.int 138 0, Value.int 5 0, Value.int 0 0, Value.int 0 0, Value.int 3 0, Value.ref 199, Value.bool true, Value.int 181 0, Value.ref 200, Value.none, Value.ref 201, Value.ref 202, Value.ref 203, Value.int 485 0, Value.int 138 0, Value.str (Str.ofString "/claim/cut.py") 486] }
noncomputable def hd.o_252 : Params → Obj := fun _ => ob205.1
noncomputable def hd.o_253 : Params → Obj := fun P => { cls := Value.type "tuple", data := Data.seq #[] }
noncomputable def hd.o_254 : Params → Obj := fun P => { cls := Value.none, data := Data.fields #[] }
noncomputable def hd.o_255 : Params → Obj := fun P => { cls := Value.type "tuple", data := Data.seq #[Value.str (Str.ofString "x") 491, Value.str (Str.ofString "w") 492, Value.str (Str.ofString "divrem") 493, Value.str (Str.ofString "found") 494, Value.str (Str.ofString "top") 495, Value.str (Str.ofString "bottom") 496, Value.str (Str.ofString "whole") 497, Value.str (Str.ofString "rest") 498] }
noncomputable def hd.o_256 : Params → Obj := fun P => { cls := Value.type "tuple", data := Data.seq #[] }
noncomputable def hd.o_257 : Params → Obj := fun _ => protoOf ob212.1
noncomputable def hd.o_258 : Params → Obj := fun P => { cls := Value.type "code", data := Data.fields #[Value.str (Str.ofString "continued") 488, Value.str (Str.ofString "continued") 489, Value.str (Str.ofString "/claim/cut.py") 490, Value.int 140 0, Value.int 3 0, Value.int 0 0, Value.int 0 0, Value.int 3 0, Value.ref 206, Value.bool true, Value.int 181 0, Value.ref 207, Value.none, Value.ref 208, Value.ref 209, Value.ref 210, Value.int 499 0, Value.int 140 0, Value.str (Str.ofString "/claim/cut.py") 500] }
noncomputable def hd.o_259 : Params → Obj := fun _ => ob212.1
noncomputable def hd.o_260 : Params → Obj := fun P => { cls := Value.type "tuple", data := Data.seq #[] }
noncomputable def hd.o_261 : Params → Obj := fun P => { cls := Value.none, data := Data.fields #[] }
noncomputable def hd.o_262 : Params → Obj := fun P => { cls := Value.type "tuple", data := Data.seq #[Value.str (Str.ofString "a") 507, Value.str (Str.ofString "b") 508, Value.str (Str.ofString "w") 509, Value.str (Str.ofString "found") 510, Value.str (Str.ofString "mask") 511, Value.str (Str.ofString "at") 512, Value.str (Str.ofString "limb") 513, Value.str (Str.ofString "carry") 514, Value.str (Str.ofString "spot") 515, Value.str (Str.ofString "other") 516] }
noncomputable def hd.o_263 : Params → Obj := fun P => { cls := Value.type "tuple", data := Data.seq #[] }
noncomputable def hd.o_264 : Params → Obj := fun _ => protoOf ob219.1
noncomputable def hd.o_265 : Params → Obj := fun P => { cls := Value.type "code", data := Data.fields #[Value.str (Str.ofString "mul_school") 504, Value.str (Str.ofString "mul_school") 505, Value.str (Str.ofString "/claim/cut.py") 506, Value.int 148 0, Value.int 3 0, Value.int 0 0, Value.int 0 0, Value.int 3 0, Value.ref 213, Value.bool true, Value.int 181 0, Value.ref 214, Value.none, Value.ref 215, Value.ref 216, Value.ref 217, Value.int 517 0, Value.int 148 0, Value.str (Str.ofString "/claim/cut.py") 518] }
noncomputable def hd.o_266 : Params → Obj := fun _ => ob219.1
noncomputable def hd.o_267 : Params → Obj := fun P => { cls := Value.type "tuple", data := Data.seq #[] }
noncomputable def hd.o_268 : Params → Obj := fun P => { cls := Value.none, data := Data.fields #[] }
noncomputable def hd.o_269 : Params → Obj := fun P => { cls := Value.type "tuple", data := Data.seq #[Value.str (Str.ofString "a") 523, Value.str (Str.ofString "b") 524, Value.str (Str.ofString "w") 525, Value.str (Str.ofString "quotient") 526, Value.str (Str.ofString "rest") 527] }
noncomputable def hd.o_270 : Params → Obj := fun P => { cls := Value.type "tuple", data := Data.seq #[] }
noncomputable def hd.o_271 : Params → Obj := fun _ => protoOf ob226.1
noncomputable def hd.o_272 : Params → Obj := fun P => { cls := Value.type "code", data := Data.fields #[Value.str (Str.ofString "divrem_small") 520, Value.str (Str.ofString "divrem_small") 521, Value.str (Str.ofString "/claim/cut.py") 522, Value.int 158 0, Value.int 3 0, Value.int 0 0, Value.int 0 0, Value.int 3 0, Value.ref 220, Value.bool true, Value.int 181 0, Value.ref 221, Value.none, Value.ref 222, Value.ref 223, Value.ref 224, Value.int 528 0, Value.int 158 0, Value.str (Str.ofString "/claim/cut.py") 529] }
noncomputable def hd.o_273 : Params → Obj := fun _ => ob226.1
noncomputable def hd.o_274 : Params → Obj := fun P => { cls := Value.type "tuple", data := Data.seq #[] }
noncomputable def hd.o_275 : Params → Obj := fun P => { cls := Value.none, data := Data.fields #[] }
noncomputable def hd.o_276 : Params → Obj := fun P => { cls := Value.type "tuple", data := Data.seq #[Value.str (Str.ofString "top") 534, Value.str (Str.ofString "first") 535, Value.str (Str.ofString "second") 536, Value.str (Str.ofString "w") 537, Value.str (Str.ofString "high") 538, Value.str (Str.ofString "base") 539, Value.str (Str.ofString "limb") 540, Value.str (Str.ofString "rest") 541] }
noncomputable def hd.o_277 : Params → Obj := fun P => { cls := Value.type "tuple", data := Data.seq #[] }
noncomputable def hd.o_278 : Params → Obj := fun _ => protoOf ob233.1
noncomputable def hd.o_279 : Params → Obj := fun P => { cls := Value.type "code", data := Data.fields #[Value.str (Str.ofString "guessed_limb") 531, Value.str (Str.ofString "guessed_limb") 532, Value.str (Str.ofString "/claim/cut.py") 533, Value.int 161 0, Value.int 4 0, Value.int 0 0, Value.int 0 0, Value.int 3 0, Value.ref 227, Value.bool true, Value.int 181 0, Value.ref 228, Value.none, Value.ref 229, Value.ref 230, Value.ref 231, Value.int 542 0, Value.int 161 0, Value.str (Str.ofString "/claim/cut.py") 543] }
noncomputable def hd.o_280 : Params → Obj := fun _ => ob233.1
noncomputable def hd.o_281 : Params → Obj := fun P => { cls := Value.type "tuple", data := Data.seq #[] }
noncomputable def hd.o_282 : Params → Obj := fun P => { cls := Value.none, data := Data.fields #[] }
noncomputable def hd.o_283 : Params → Obj := fun P => { cls := Value.type "tuple", data := Data.seq #[Value.str (Str.ofString "rest") 548, Value.str (Str.ofString "b") 549, Value.str (Str.ofString "limb") 550, Value.str (Str.ofString "at") 551, Value.str (Str.ofString "w") 552, Value.str (Str.ofString "carry") 553, Value.str (Str.ofString "base") 554, Value.str (Str.ofString "spot") 555, Value.str (Str.ofString "other") 556, Value.str (Str.ofString "here") 557] }
noncomputable def hd.o_284 : Params → Obj := fun P => { cls := Value.type "tuple", data := Data.seq #[] }
noncomputable def hd.o_285 : Params → Obj := fun _ => protoOf ob240.1
noncomputable def hd.o_286 : Params → Obj := fun P => { cls := Value.type "code", data := Data.fields #[Value.str (Str.ofString "take_away") 545, Value.str (Str.ofString "take_away") 546, Value.str (Str.ofString "/claim/cut.py") 547, Value.int 169 0, Value.int 5 0, Value.int 0 0, Value.int 0 0, Value.int 3 0, Value.ref 234, Value.bool true, Value.int 181 0, Value.ref 235, Value.none, Value.ref 236, Value.ref 237, Value.ref 238, Value.int 558 0, Value.int 169 0, Value.str (Str.ofString "/claim/cut.py") 559] }
noncomputable def hd.o_287 : Params → Obj := fun _ => ob240.1
noncomputable def hd.o_288 : Params → Obj := fun P => { cls := Value.type "dict", data := Data.dict #[kd P "__name__" 165 (Value.str (Str.ofString "law_tk0049_01") 601), kd P "__doc__" 166 (Value.none), kd P "__package__" 167 (Value.none), kd P "__loader__" 168 (Value.builtin "__main__.__loader__#opaque"), kd P "__spec__" 169 (Value.none), kd P "__annotations__" 170 (Value.ref 6), kd P "__builtins__" 171 (Value.ref 4), kd P "__file__" 173 (Value.str (Str.ofString "/claim/cut.py") 172), kd P "__cached__" 174 (Value.none), kd P "GmpError" 208 (Value.ref 24), kd P "DivisionByZero" 224 (Value.ref 37), kd P "OutOfRange" 240 (Value.ref 49), kd P "normal" 248 (Value.ref 58), kd P "compare" 257 (Value.ref 65), kd P "add" 270 (Value.ref 72), kd P "sub" 284 (Value.ref 79), kd P "add_limb" 296 (Value.ref 86), kd P "divrem_limb" 308 (Value.ref 93), kd P "shift_left" 323 (Value.ref 100), kd P "shift_right" 338 (Value.ref 107), kd P "bits" 346 (Value.ref 114), kd P "signed" 356 (Value.ref 121), kd P "s_add" 365 (Value.ref 128), kd P "s_mul" 375 (Value.ref 135), kd P "tdiv" 387 (Value.ref 142), kd P "fdiv" 399 (Value.ref 149), kd P "common" 411 (Value.ref 156), kd P "cut_signed" 421 (Value.ref 163), kd P "signed_of" 428 (Value.ref 170), kd P "r_make" 439 (Value.ref 177), kd P "r_add" 455 (Value.ref 184), kd P "r_mul" 469 (Value.ref 191), kd P "r_inverse" 476 (Value.ref 198), kd P "r_div" 487 (Value.ref 205), kd P "continued" 501 (Value.ref 212), kd P "mul_school" 519 (Value.ref 219), kd P "divrem_small" 530 (Value.ref 226), kd P "guessed_limb" 544 (Value.ref 233), kd P "take_away" 560 (Value.ref 240), kd P "put_back" 574 (Value.ref 247), kd P "divide_rows" 587 (Value.ref 254), kd P "divrem_school" 600 (Value.ref 261), kd P "_law_sifted" 610 (Value.ref 268), kd P "_law_limbs" 619 (Value.ref 275), kd P "_law_signed" 627 (Value.ref 282), kd P "_law_plain" 637 (Value.ref 289), kd P "_law_folded" 647 (Value.ref 296), kd P "_law_given" 660 (Value.ref 303), kd P "_law_led" 666 (Value.ref 308), kd P "law" 672 (Value.ref 313)] 50 }
noncomputable def hd.o_289 : Params → Obj := fun P => { cls := Value.none, data := Data.fields #[Value.int 2 0, Value.int 0 0, Value.ref 20, Value.int 4 0, Value.int 0 0, Value.ref 33, Value.int 6 0, Value.int 0 0, Value.ref 45, Value.int 8 0, Value.int 0 0, Value.ref 57, Value.int 13 0, Value.int 0 0, Value.ref 64, Value.int 20 0, Value.int 0 0, Value.ref 71, Value.int 35 0, Value.int 0 0, Value.ref 78, Value.int 44 0, Value.int 0 0, Value.ref 85, Value.int 53 0, Value.int 0 0, Value.ref 92, Value.int 62 0, Value.int 0 0, Value.ref 99, Value.int 74 0, Value.int 0 0, Value.ref 106, Value.int 81 0, Value.int 0 0, Value.ref 113, Value.int 84 0, Value.int 0 0, Value.ref 120, Value.int 86 0, Value.int 0 0, Value.ref 127, Value.int 92 0, Value.int 0 0, Value.ref 134, Value.int 94 0, Value.int 0 0, Value.ref 141, Value.int 99 0, Value.int 0 0, Value.ref 148, Value.int 105 0, Value.int 0 0, Value.ref 155, Value.int 109 0, Value.int 0 0, Value.ref 162, Value.int 111 0, Value.int 0 0, Value.ref 169, Value.int 113 0, Value.int 0 0, Value.ref 176, Value.int 120 0, Value.int 0 0, Value.ref 183, Value.int 128 0, Value.int 0 0, Value.ref 190, Value.int 134 0, Value.int 0 0, Value.ref 197, Value.int 138 0, Value.int 0 0, Value.ref 204, Value.int 140 0, Value.int 0 0, Value.ref 211, Value.int 148 0, Value.int 0 0, Value.ref 218, Value.int 158 0, Value.int 0 0, Value.ref 225, Value.int 161 0, Value.int 0 0, Value.ref 232, Value.int 169 0, Value.int 0 0, Value.ref 239, Value.int 178 0, Value.int 0 0, Value.ref 246, Value.int 185 0, Value.int 0 0, Value.ref 253, Value.int 195 0, Value.int 0 0, Value.ref 260, Value.int 209 0, Value.int 0 0, Value.ref 267, Value.int 214 0, Value.int 0 0, Value.ref 274, Value.int 220 0, Value.int 0 0, Value.ref 281, Value.int 222 0, Value.int 0 0, Value.ref 288, Value.int 227 0, Value.int 0 0, Value.ref 295, Value.int 232 0, Value.int 0 0, Value.ref 302, Value.int 239 0, Value.int 0 0, Value.ref 307, Value.int 244 0, Value.int 0 0, Value.ref 312] }
noncomputable def hd.o_290 : Params → Obj := fun P => { cls := Value.type "tuple", data := Data.seq #[] }
noncomputable def hd.o_291 : Params → Obj := fun P => { cls := Value.none, data := Data.fields #[] }
noncomputable def hd.o_292 : Params → Obj := fun P => { cls := Value.type "tuple", data := Data.seq #[Value.str (Str.ofString "rest") 564, Value.str (Str.ofString "b") 565, Value.str (Str.ofString "at") 566, Value.str (Str.ofString "w") 567, Value.str (Str.ofString "carry") 568, Value.str (Str.ofString "mask") 569, Value.str (Str.ofString "spot") 570, Value.str (Str.ofString "other") 571] }
noncomputable def hd.o_293 : Params → Obj := fun P => { cls := Value.type "tuple", data := Data.seq #[] }
noncomputable def hd.o_294 : Params → Obj := fun _ => protoOf ob247.1
noncomputable def hd.o_295 : Params → Obj := fun P => { cls := Value.type "code", data := Data.fields #[Value.str (Str.ofString "put_back") 561, Value.str (Str.ofString "put_back") 562, Value.str (Str.ofString "/claim/cut.py") 563, Value.int 178 0, Value.int 4 0, Value.int 0 0, Value.int 0 0, Value.int 3 0, Value.ref 241, Value.bool true, Value.int 181 0, Value.ref 242, Value.none, Value.ref 243, Value.ref 244, Value.ref 245, Value.int 572 0, Value.int 178 0, Value.str (Str.ofString "/claim/cut.py") 573] }
noncomputable def hd.o_296 : Params → Obj := fun _ => ob247.1
noncomputable def hd.o_297 : Params → Obj := fun P => { cls := Value.type "tuple", data := Data.seq #[] }
noncomputable def hd.o_298 : Params → Obj := fun P => { cls := Value.none, data := Data.fields #[] }
noncomputable def hd.o_299 : Params → Obj := fun P => { cls := Value.type "tuple", data := Data.seq #[Value.str (Str.ofString "rest") 578, Value.str (Str.ofString "b") 579, Value.str (Str.ofString "w") 580, Value.str (Str.ofString "size") 581, Value.str (Str.ofString "quotient") 582, Value.str (Str.ofString "at") 583, Value.str (Str.ofString "limb") 584] }
noncomputable def hd.o_300 : Params → Obj := fun P => { cls := Value.type "tuple", data := Data.seq #[] }
noncomputable def hd.o_301 : Params → Obj := fun _ => protoOf ob254.1
noncomputable def hd.o_302 : Params → Obj := fun P => { cls := Value.type "code", data := Data.fields #[Value.str (Str.ofString "divide_rows") 575, Value.str (Str.ofString "divide_rows") 576, Value.str (Str.ofString "/claim/cut.py") 577, Value.int 185 0, Value.int 3 0, Value.int 0 0, Value.int 0 0, Value.int 3 0, Value.ref 248, Value.bool true, Value.int 181 0, Value.ref 249, Value.none, Value.ref 250, Value.ref 251, Value.ref 252, Value.int 585 0, Value.int 185 0, Value.str (Str.ofString "/claim/cut.py") 586] }
noncomputable def hd.o_303 : Params → Obj := fun _ => ob254.1
noncomputable def hd.o_304 : Params → Obj := fun P => { cls := Value.type "tuple", data := Data.seq #[] }
noncomputable def hd.o_305 : Params → Obj := fun P => { cls := Value.none, data := Data.fields #[] }
noncomputable def hd.o_306 : Params → Obj := fun P => { cls := Value.type "tuple", data := Data.seq #[Value.str (Str.ofString "a") 591, Value.str (Str.ofString "b") 592, Value.str (Str.ofString "w") 593, Value.str (Str.ofString "shift") 594, Value.str (Str.ofString "divisor") 595, Value.str (Str.ofString "rest") 596, Value.str (Str.ofString "quotient") 597] }
noncomputable def hd.o_307 : Params → Obj := fun P => { cls := Value.type "tuple", data := Data.seq #[] }
noncomputable def hd.o_308 : Params → Obj := fun _ => protoOf ob261.1
noncomputable def hd.o_309 : Params → Obj := fun P => { cls := Value.type "code", data := Data.fields #[Value.str (Str.ofString "divrem_school") 588, Value.str (Str.ofString "divrem_school") 589, Value.str (Str.ofString "/claim/cut.py") 590, Value.int 195 0, Value.int 3 0, Value.int 0 0, Value.int 0 0, Value.int 3 0, Value.ref 255, Value.bool true, Value.int 181 0, Value.ref 256, Value.none, Value.ref 257, Value.ref 258, Value.ref 259, Value.int 598 0, Value.int 195 0, Value.str (Str.ofString "/claim/cut.py") 599] }
noncomputable def hd.o_310 : Params → Obj := fun _ => ob261.1
noncomputable def hd.o_311 : Params → Obj := fun P => { cls := Value.type "tuple", data := Data.seq #[] }
noncomputable def hd.o_312 : Params → Obj := fun P => { cls := Value.none, data := Data.fields #[] }
noncomputable def hd.o_313 : Params → Obj := fun P => { cls := Value.type "tuple", data := Data.seq #[Value.str (Str.ofString "tub") 606, Value.str (Str.ofString "many") 607] }
noncomputable def hd.o_314 : Params → Obj := fun P => { cls := Value.type "tuple", data := Data.seq #[] }
noncomputable def hd.o_315 : Params → Obj := fun _ => protoOf ob268.1
noncomputable def hd.o_316 : Params → Obj := fun P => { cls := Value.type "code", data := Data.fields #[Value.str (Str.ofString "_law_sifted") 603, Value.str (Str.ofString "_law_sifted") 604, Value.str (Str.ofString "/claim/cut.py") 605, Value.int 209 0, Value.int 2 0, Value.int 0 0, Value.int 0 0, Value.int 3 0, Value.ref 262, Value.bool true, Value.int 181 0, Value.ref 263, Value.none, Value.ref 264, Value.ref 265, Value.ref 266, Value.int 608 0, Value.int 209 0, Value.str (Str.ofString "/claim/cut.py") 609] }
noncomputable def hd.o_317 : Params → Obj := fun _ => ob268.1
noncomputable def hd.o_318 : Params → Obj := fun P => { cls := Value.type "tuple", data := Data.seq #[] }
noncomputable def hd.o_319 : Params → Obj := fun P => { cls := Value.none, data := Data.fields #[] }
noncomputable def hd.o_320 : Params → Obj := fun P => { cls := Value.type "tuple", data := Data.seq #[Value.str (Str.ofString "number") 614, Value.str (Str.ofString "w") 615, Value.str (Str.ofString "found") 616] }
noncomputable def hd.o_321 : Params → Obj := fun P => { cls := Value.type "tuple", data := Data.seq #[] }
noncomputable def hd.o_322 : Params → Obj := fun _ => protoOf ob275.1
noncomputable def hd.o_323 : Params → Obj := fun P => { cls := Value.type "code", data := Data.fields #[Value.str (Str.ofString "_law_limbs") 611, Value.str (Str.ofString "_law_limbs") 612, Value.str (Str.ofString "/claim/cut.py") 613, Value.int 214 0, Value.int 2 0, Value.int 0 0, Value.int 0 0, Value.int 3 0, Value.ref 269, Value.bool true, Value.int 181 0, Value.ref 270, Value.none, Value.ref 271, Value.ref 272, Value.ref 273, Value.int 617 0, Value.int 214 0, Value.str (Str.ofString "/claim/cut.py") 618] }
noncomputable def hd.o_324 : Params → Obj := fun _ => ob275.1
noncomputable def hd.o_325 : Params → Obj := fun P => { cls := Value.type "tuple", data := Data.seq #[] }
noncomputable def hd.o_326 : Params → Obj := fun P => { cls := Value.none, data := Data.fields #[] }
noncomputable def hd.o_327 : Params → Obj := fun P => { cls := Value.type "tuple", data := Data.seq #[Value.str (Str.ofString "number") 623, Value.str (Str.ofString "w") 624] }
noncomputable def hd.o_328 : Params → Obj := fun P => { cls := Value.type "tuple", data := Data.seq #[] }
noncomputable def hd.o_329 : Params → Obj := fun _ => protoOf ob282.1
noncomputable def hd.o_330 : Params → Obj := fun P => { cls := Value.type "code", data := Data.fields #[Value.str (Str.ofString "_law_signed") 620, Value.str (Str.ofString "_law_signed") 621, Value.str (Str.ofString "/claim/cut.py") 622, Value.int 220 0, Value.int 2 0, Value.int 0 0, Value.int 0 0, Value.int 3 0, Value.ref 276, Value.bool true, Value.int 181 0, Value.ref 277, Value.none, Value.ref 278, Value.ref 279, Value.ref 280, Value.int 625 0, Value.int 220 0, Value.str (Str.ofString "/claim/cut.py") 626] }
noncomputable def hd.o_331 : Params → Obj := fun _ => ob282.1
noncomputable def hd.o_332 : Params → Obj := fun P => { cls := Value.type "tuple", data := Data.seq #[] }
noncomputable def hd.o_333 : Params → Obj := fun P => { cls := Value.none, data := Data.fields #[] }
noncomputable def hd.o_334 : Params → Obj := fun P => { cls := Value.type "tuple", data := Data.seq #[Value.str (Str.ofString "x") 631, Value.str (Str.ofString "w") 632, Value.str (Str.ofString "found") 633, Value.str (Str.ofString "limb") 634] }
noncomputable def hd.o_335 : Params → Obj := fun P => { cls := Value.type "tuple", data := Data.seq #[] }
noncomputable def hd.o_336 : Params → Obj := fun _ => protoOf ob289.1
noncomputable def hd.o_337 : Params → Obj := fun P => { cls := Value.type "code", data := Data.fields #[Value.str (Str.ofString "_law_plain") 628, Value.str (Str.ofString "_law_plain") 629, Value.str (Str.ofString "/claim/cut.py") 630, Value.int 222 0, Value.int 2 0, Value.int 0 0, Value.int 0 0, Value.int 3 0, Value.ref 283, Value.bool true, Value.int 181 0, Value.ref 284, Value.none, Value.ref 285, Value.ref 286, Value.ref 287, Value.int 635 0, Value.int 222 0, Value.str (Str.ofString "/claim/cut.py") 636] }
noncomputable def hd.o_338 : Params → Obj := fun _ => ob289.1
noncomputable def hd.o_339 : Params → Obj := fun P => { cls := Value.type "tuple", data := Data.seq #[] }
noncomputable def hd.o_340 : Params → Obj := fun P => { cls := Value.none, data := Data.fields #[] }
noncomputable def hd.o_341 : Params → Obj := fun P => { cls := Value.type "tuple", data := Data.seq #[Value.str (Str.ofString "parts") 641, Value.str (Str.ofString "top") 642, Value.str (Str.ofString "bottom") 643, Value.str (Str.ofString "part") 644] }
noncomputable def hd.o_342 : Params → Obj := fun P => { cls := Value.type "tuple", data := Data.seq #[] }
noncomputable def hd.o_343 : Params → Obj := fun _ => protoOf ob296.1
noncomputable def hd.o_344 : Params → Obj := fun P => { cls := Value.type "code", data := Data.fields #[Value.str (Str.ofString "_law_folded") 638, Value.str (Str.ofString "_law_folded") 639, Value.str (Str.ofString "/claim/cut.py") 640, Value.int 227 0, Value.int 1 0, Value.int 0 0, Value.int 0 0, Value.int 3 0, Value.ref 290, Value.bool true, Value.int 181 0, Value.ref 291, Value.none, Value.ref 292, Value.ref 293, Value.ref 294, Value.int 645 0, Value.int 227 0, Value.str (Str.ofString "/claim/cut.py") 646] }
noncomputable def hd.o_345 : Params → Obj := fun _ => ob296.1
noncomputable def hd.o_346 : Params → Obj := fun P => { cls := Value.type "tuple", data := Data.seq #[] }
noncomputable def hd.o_347 : Params → Obj := fun P => { cls := Value.none, data := Data.fields #[] }
noncomputable def hd.o_348 : Params → Obj := fun P => { cls := Value.type "tuple", data := Data.seq #[Value.str (Str.ofString "box") 651, Value.str (Str.ofString "told") 652, Value.str (Str.ofString "turn") 653, Value.str (Str.ofString "a") 654, Value.str (Str.ofString "b") 655, Value.str (Str.ofString "c") 656, Value.str (Str.ofString "d") 657] }
noncomputable def hd.o_349 : Params → Obj := fun P => { cls := Value.type "tuple", data := Data.seq #[] }
noncomputable def hd.o_350 : Params → Obj := fun _ => protoOf ob303.1
noncomputable def hd.o_351 : Params → Obj := fun P => { cls := Value.type "code", data := Data.fields #[Value.str (Str.ofString "_law_given") 648, Value.str (Str.ofString "_law_given") 649, Value.str (Str.ofString "/claim/cut.py") 650, Value.int 232 0, Value.int 2 0, Value.int 0 0, Value.int 0 0, Value.int 3 0, Value.ref 297, Value.bool true, Value.int 181 0, Value.ref 298, Value.none, Value.ref 299, Value.ref 300, Value.ref 301, Value.int 658 0, Value.int 232 0, Value.str (Str.ofString "/claim/cut.py") 659] }
noncomputable def hd.o_352 : Params → Obj := fun _ => ob303.1
noncomputable def hd.o_353 : Params → Obj := fun P => { cls := Value.type "tuple", data := Data.seq #[] }
noncomputable def hd.o_354 : Params → Obj := fun P => { cls := Value.none, data := Data.fields #[] }
noncomputable def hd.o_355 : Params → Obj := fun _ => protoOf ob308.1
noncomputable def hd.o_356 : Params → Obj := fun P => { cls := Value.type "code", data := Data.fields #[Value.str (Str.ofString "_law_led") 661, Value.str (Str.ofString "_law_led") 662, Value.str (Str.ofString "/claim/cut.py") 663, Value.int 239 0, Value.int 3 0, Value.int 0 0, Value.int 0 0, Value.int 3 0, Value.ref 304, Value.bool true, Value.int 181 0, Value.ref 305, Value.none, Value.none, Value.none, Value.ref 306, Value.int 664 0, Value.int 239 0, Value.str (Str.ofString "/claim/cut.py") 665] }
noncomputable def hd.o_357 : Params → Obj := fun _ => ob308.1
noncomputable def hd.o_358 : Params → Obj := fun P => { cls := Value.type "tuple", data := Data.seq #[] }
noncomputable def hd.o_359 : Params → Obj := fun P => { cls := Value.none, data := Data.fields #[] }
noncomputable def hd.o_360 : Params → Obj := fun _ => protoOf ob313.1
noncomputable def hd.o_361 : Params → Obj := fun P => { cls := Value.type "code", data := Data.fields #[Value.str (Str.ofString "law") 667, Value.str (Str.ofString "law") 668, Value.str (Str.ofString "/claim/cut.py") 669, Value.int 244 0, Value.int 1 0, Value.int 0 0, Value.int 0 0, Value.int 3 0, Value.ref 309, Value.bool true, Value.int 181 0, Value.ref 310, Value.none, Value.none, Value.none, Value.ref 311, Value.int 670 0, Value.int 244 0, Value.str (Str.ofString "/claim/cut.py") 671] }
noncomputable def hd.o_362 : Params → Obj := fun _ => ob313.1
noncomputable def hd.env_41 : Env := { scope := lawP.main.scope, locals := mainNs, globals := mainNs, cells := [], code := Value.ref 13, frame := some 14 }
noncomputable def hd.tree_47 : Params → BT := fun P => BT.node (boot_o_0 P) (BT.node (boot_o_1 P) (BT.node (boot_o_3 P) (BT.node (boot_o_7 P) BT.nil BT.nil) (BT.node (hd.o_43 P) BT.nil BT.nil)) (BT.node (boot_o_5 P) (BT.node (boot_o_9 P) BT.nil BT.nil) (BT.node (hd.o_45 P) BT.nil BT.nil))) (BT.node (boot_o_2 P) (BT.node (boot_o_4 P) (BT.node (boot_o_8 P) BT.nil BT.nil) (BT.node (hd.o_44 P) BT.nil BT.nil)) (BT.node (boot_o_6 P) (BT.node (boot_o_10 P) BT.nil BT.nil) (BT.node (hd.o_46 P) BT.nil BT.nil)))
noncomputable def hd.tree_64 : Params → BT := fun P => BT.node (boot_o_0 P) (BT.node (boot_o_1 P) (BT.node (hd.o_50 P) (BT.node (boot_o_7 P) (BT.node (hd.o_52 P) BT.nil BT.nil) (BT.node (hd.o_60 P) BT.nil BT.nil)) (BT.node (hd.o_43 P) (BT.node (hd.o_56 P) BT.nil BT.nil) (BT.node (hd.o_64 P) BT.nil BT.nil))) (BT.node (boot_o_5 P) (BT.node (boot_o_9 P) (BT.node (hd.o_54 P) BT.nil BT.nil) (BT.node (hd.o_62 P) BT.nil BT.nil)) (BT.node (hd.o_45 P) (BT.node (hd.o_58 P) BT.nil BT.nil) BT.nil))) (BT.node (hd.o_49 P) (BT.node (boot_o_4 P) (BT.node (boot_o_8 P) (BT.node (hd.o_53 P) BT.nil BT.nil) (BT.node (hd.o_61 P) BT.nil BT.nil)) (BT.node (hd.o_51 P) (BT.node (hd.o_57 P) BT.nil BT.nil) BT.nil)) (BT.node (boot_o_6 P) (BT.node (boot_o_10 P) (BT.node (hd.o_55 P) BT.nil BT.nil) (BT.node (hd.o_63 P) BT.nil BT.nil)) (BT.node (hd.o_46 P) (BT.node (hd.o_59 P) BT.nil BT.nil) BT.nil)))
noncomputable def hd.tree_79 : Params → BT := fun P => BT.node (boot_o_0 P) (BT.node (boot_o_1 P) (BT.node (hd.o_65 P) (BT.node (boot_o_7 P) (BT.node (hd.o_52 P) (BT.node (hd.o_71 P) BT.nil BT.nil) BT.nil) (BT.node (hd.o_60 P) (BT.node (hd.o_79 P) BT.nil BT.nil) BT.nil)) (BT.node (hd.o_43 P) (BT.node (hd.o_56 P) (BT.node (hd.o_75 P) BT.nil BT.nil) BT.nil) (BT.node (hd.o_64 P) BT.nil BT.nil))) (BT.node (boot_o_5 P) (BT.node (boot_o_9 P) (BT.node (hd.o_54 P) (BT.node (hd.o_73 P) BT.nil BT.nil) BT.nil) (BT.node (hd.o_62 P) BT.nil BT.nil)) (BT.node (hd.o_45 P) (BT.node (hd.o_58 P) (BT.node (hd.o_77 P) BT.nil BT.nil) BT.nil) (BT.node (hd.o_69 P) BT.nil BT.nil)))) (BT.node (hd.o_49 P) (BT.node (boot_o_4 P) (BT.node (boot_o_8 P) (BT.node (hd.o_53 P) (BT.node (hd.o_72 P) BT.nil BT.nil) BT.nil) (BT.node (hd.o_67 P) BT.nil BT.nil)) (BT.node (hd.o_66 P) (BT.node (hd.o_57 P) (BT.node (hd.o_76 P) BT.nil BT.nil) BT.nil) (BT.node (hd.o_68 P) BT.nil BT.nil))) (BT.node (boot_o_6 P) (BT.node (boot_o_10 P) (BT.node (hd.o_55 P) (BT.node (hd.o_74 P) BT.nil BT.nil) BT.nil) (BT.node (hd.o_63 P) BT.nil BT.nil)) (BT.node (hd.o_46 P) (BT.node (hd.o_59 P) (BT.node (hd.o_78 P) BT.nil BT.nil) BT.nil) (BT.node (hd.o_70 P) BT.nil BT.nil))))
noncomputable def hd.tree_129 : Params → BT := fun P => BT.node (boot_o_0 P) (BT.node (boot_o_1 P) (BT.node (hd.o_80 P) (BT.node (boot_o_7 P) (BT.node (hd.o_52 P) (BT.node (hd.o_71 P) (BT.node (hd.o_106 P) BT.nil BT.nil) BT.nil) (BT.node (hd.o_90 P) (BT.node (hd.o_122 P) BT.nil BT.nil) BT.nil)) (BT.node (hd.o_60 P) (BT.node (hd.o_79 P) (BT.node (hd.o_114 P) BT.nil BT.nil) BT.nil) (BT.node (hd.o_98 P) BT.nil BT.nil))) (BT.node (hd.o_43 P) (BT.node (hd.o_56 P) (BT.node (hd.o_75 P) (BT.node (hd.o_110 P) BT.nil BT.nil) BT.nil) (BT.node (hd.o_94 P) (BT.node (hd.o_126 P) BT.nil BT.nil) BT.nil)) (BT.node (hd.o_64 P) (BT.node (hd.o_86 P) (BT.node (hd.o_118 P) BT.nil BT.nil) BT.nil) (BT.node (hd.o_102 P) BT.nil BT.nil)))) (BT.node (boot_o_5 P) (BT.node (boot_o_9 P) (BT.node (hd.o_54 P) (BT.node (hd.o_73 P) (BT.node (hd.o_108 P) BT.nil BT.nil) BT.nil) (BT.node (hd.o_92 P) (BT.node (hd.o_124 P) BT.nil BT.nil) BT.nil)) (BT.node (hd.o_62 P) (BT.node (hd.o_84 P) (BT.node (hd.o_116 P) BT.nil BT.nil) BT.nil) (BT.node (hd.o_100 P) BT.nil BT.nil))) (BT.node (hd.o_45 P) (BT.node (hd.o_58 P) (BT.node (hd.o_77 P) (BT.node (hd.o_112 P) BT.nil BT.nil) BT.nil) (BT.node (hd.o_96 P) (BT.node (hd.o_128 P) BT.nil BT.nil) BT.nil)) (BT.node (hd.o_69 P) (BT.node (hd.o_88 P) (BT.node (hd.o_120 P) BT.nil BT.nil) BT.nil) (BT.node (hd.o_104 P) BT.nil BT.nil))))) (BT.node (hd.o_49 P) (BT.node (boot_o_4 P) (BT.node (boot_o_8 P) (BT.node (hd.o_53 P) (BT.node (hd.o_72 P) (BT.node (hd.o_107 P) BT.nil BT.nil) BT.nil) (BT.node (hd.o_91 P) (BT.node (hd.o_123 P) BT.nil BT.nil) BT.nil)) (BT.node (hd.o_82 P) (BT.node (hd.o_83 P) (BT.node (hd.o_115 P) BT.nil BT.nil) BT.nil) (BT.node (hd.o_99 P) BT.nil BT.nil))) (BT.node (hd.o_81 P) (BT.node (hd.o_57 P) (BT.node (hd.o_76 P) (BT.node (hd.o_111 P) BT.nil BT.nil) BT.nil) (BT.node (hd.o_95 P) (BT.node (hd.o_127 P) BT.nil BT.nil) BT.nil)) (BT.node (hd.o_68 P) (BT.node (hd.o_87 P) (BT.node (hd.o_119 P) BT.nil BT.nil) BT.nil) (BT.node (hd.o_103 P) BT.nil BT.nil)))) (BT.node (boot_o_6 P) (BT.node (boot_o_10 P) (BT.node (hd.o_55 P) (BT.node (hd.o_74 P) (BT.node (hd.o_109 P) BT.nil BT.nil) BT.nil) (BT.node (hd.o_93 P) (BT.node (hd.o_125 P) BT.nil BT.nil) BT.nil)) (BT.node (hd.o_63 P) (BT.node (hd.o_85 P) (BT.node (hd.o_117 P) BT.nil BT.nil) BT.nil) (BT.node (hd.o_101 P) BT.nil BT.nil))) (BT.node (hd.o_46 P) (BT.node (hd.o_59 P) (BT.node (hd.o_78 P) (BT.node (hd.o_113 P) BT.nil BT.nil) BT.nil) (BT.node (hd.o_97 P) (BT.node (hd.o_129 P) BT.nil BT.nil) BT.nil)) (BT.node (hd.o_70 P) (BT.node (hd.o_89 P) (BT.node (hd.o_121 P) BT.nil BT.nil) BT.nil) (BT.node (hd.o_105 P) BT.nil BT.nil)))))
noncomputable def hd.tree_208 : Params → BT := fun P => BT.node (boot_o_0 P) (BT.node (boot_o_1 P) (BT.node (hd.o_130 P) (BT.node (boot_o_7 P) (BT.node (hd.o_52 P) (BT.node (hd.o_71 P) (BT.node (hd.o_106 P) (BT.node (hd.o_172 P) BT.nil BT.nil) BT.nil) (BT.node (hd.o_140 P) (BT.node (hd.o_204 P) BT.nil BT.nil) BT.nil)) (BT.node (hd.o_90 P) (BT.node (hd.o_122 P) (BT.node (hd.o_188 P) BT.nil BT.nil) BT.nil) (BT.node (hd.o_156 P) BT.nil BT.nil))) (BT.node (hd.o_60 P) (BT.node (hd.o_79 P) (BT.node (hd.o_114 P) (BT.node (hd.o_180 P) BT.nil BT.nil) BT.nil) (BT.node (hd.o_148 P) BT.nil BT.nil)) (BT.node (hd.o_98 P) (BT.node (hd.o_132 P) (BT.node (hd.o_196 P) BT.nil BT.nil) BT.nil) (BT.node (hd.o_164 P) BT.nil BT.nil)))) (BT.node (hd.o_43 P) (BT.node (hd.o_56 P) (BT.node (hd.o_75 P) (BT.node (hd.o_110 P) (BT.node (hd.o_176 P) BT.nil BT.nil) BT.nil) (BT.node (hd.o_144 P) (BT.node (hd.o_208 P) BT.nil BT.nil) BT.nil)) (BT.node (hd.o_94 P) (BT.node (hd.o_126 P) (BT.node (hd.o_192 P) BT.nil BT.nil) BT.nil) (BT.node (hd.o_160 P) BT.nil BT.nil))) (BT.node (hd.o_64 P) (BT.node (hd.o_86 P) (BT.node (hd.o_118 P) (BT.node (hd.o_184 P) BT.nil BT.nil) BT.nil) (BT.node (hd.o_152 P) BT.nil BT.nil)) (BT.node (hd.o_102 P) (BT.node (hd.o_136 P) (BT.node (hd.o_200 P) BT.nil BT.nil) BT.nil) (BT.node (hd.o_168 P) BT.nil BT.nil))))) (BT.node (boot_o_5 P) (BT.node (boot_o_9 P) (BT.node (hd.o_54 P) (BT.node (hd.o_73 P) (BT.node (hd.o_108 P) (BT.node (hd.o_174 P) BT.nil BT.nil) BT.nil) (BT.node (hd.o_142 P) (BT.node (hd.o_206 P) BT.nil BT.nil) BT.nil)) (BT.node (hd.o_92 P) (BT.node (hd.o_124 P) (BT.node (hd.o_190 P) BT.nil BT.nil) BT.nil) (BT.node (hd.o_158 P) BT.nil BT.nil))) (BT.node (hd.o_62 P) (BT.node (hd.o_84 P) (BT.node (hd.o_116 P) (BT.node (hd.o_182 P) BT.nil BT.nil) BT.nil) (BT.node (hd.o_150 P) BT.nil BT.nil)) (BT.node (hd.o_100 P) (BT.node (hd.o_134 P) (BT.node (hd.o_198 P) BT.nil BT.nil) BT.nil) (BT.node (hd.o_166 P) BT.nil BT.nil)))) (BT.node (hd.o_45 P) (BT.node (hd.o_58 P) (BT.node (hd.o_77 P) (BT.node (hd.o_112 P) (BT.node (hd.o_178 P) BT.nil BT.nil) BT.nil) (BT.node (hd.o_146 P) BT.nil BT.nil)) (BT.node (hd.o_96 P) (BT.node (hd.o_128 P) (BT.node (hd.o_194 P) BT.nil BT.nil) BT.nil) (BT.node (hd.o_162 P) BT.nil BT.nil))) (BT.node (hd.o_69 P) (BT.node (hd.o_88 P) (BT.node (hd.o_120 P) (BT.node (hd.o_186 P) BT.nil BT.nil) BT.nil) (BT.node (hd.o_154 P) BT.nil BT.nil)) (BT.node (hd.o_104 P) (BT.node (hd.o_138 P) (BT.node (hd.o_202 P) BT.nil BT.nil) BT.nil) (BT.node (hd.o_170 P) BT.nil BT.nil)))))) (BT.node (hd.o_49 P) (BT.node (boot_o_4 P) (BT.node (boot_o_8 P) (BT.node (hd.o_53 P) (BT.node (hd.o_72 P) (BT.node (hd.o_107 P) (BT.node (hd.o_173 P) BT.nil BT.nil) BT.nil) (BT.node (hd.o_141 P) (BT.node (hd.o_205 P) BT.nil BT.nil) BT.nil)) (BT.node (hd.o_91 P) (BT.node (hd.o_123 P) (BT.node (hd.o_189 P) BT.nil BT.nil) BT.nil) (BT.node (hd.o_157 P) BT.nil BT.nil))) (BT.node (hd.o_82 P) (BT.node (hd.o_83 P) (BT.node (hd.o_115 P) (BT.node (hd.o_181 P) BT.nil BT.nil) BT.nil) (BT.node (hd.o_149 P) BT.nil BT.nil)) (BT.node (hd.o_99 P) (BT.node (hd.o_133 P) (BT.node (hd.o_197 P) BT.nil BT.nil) BT.nil) (BT.node (hd.o_165 P) BT.nil BT.nil)))) (BT.node (hd.o_131 P) (BT.node (hd.o_57 P) (BT.node (hd.o_76 P) (BT.node (hd.o_111 P) (BT.node (hd.o_177 P) BT.nil BT.nil) BT.nil) (BT.node (hd.o_145 P) BT.nil BT.nil)) (BT.node (hd.o_95 P) (BT.node (hd.o_127 P) (BT.node (hd.o_193 P) BT.nil BT.nil) BT.nil) (BT.node (hd.o_161 P) BT.nil BT.nil))) (BT.node (hd.o_68 P) (BT.node (hd.o_87 P) (BT.node (hd.o_119 P) (BT.node (hd.o_185 P) BT.nil BT.nil) BT.nil) (BT.node (hd.o_153 P) BT.nil BT.nil)) (BT.node (hd.o_103 P) (BT.node (hd.o_137 P) (BT.node (hd.o_201 P) BT.nil BT.nil) BT.nil) (BT.node (hd.o_169 P) BT.nil BT.nil))))) (BT.node (boot_o_6 P) (BT.node (boot_o_10 P) (BT.node (hd.o_55 P) (BT.node (hd.o_74 P) (BT.node (hd.o_109 P) (BT.node (hd.o_175 P) BT.nil BT.nil) BT.nil) (BT.node (hd.o_143 P) (BT.node (hd.o_207 P) BT.nil BT.nil) BT.nil)) (BT.node (hd.o_93 P) (BT.node (hd.o_125 P) (BT.node (hd.o_191 P) BT.nil BT.nil) BT.nil) (BT.node (hd.o_159 P) BT.nil BT.nil))) (BT.node (hd.o_63 P) (BT.node (hd.o_85 P) (BT.node (hd.o_117 P) (BT.node (hd.o_183 P) BT.nil BT.nil) BT.nil) (BT.node (hd.o_151 P) BT.nil BT.nil)) (BT.node (hd.o_101 P) (BT.node (hd.o_135 P) (BT.node (hd.o_199 P) BT.nil BT.nil) BT.nil) (BT.node (hd.o_167 P) BT.nil BT.nil)))) (BT.node (hd.o_46 P) (BT.node (hd.o_59 P) (BT.node (hd.o_78 P) (BT.node (hd.o_113 P) (BT.node (hd.o_179 P) BT.nil BT.nil) BT.nil) (BT.node (hd.o_147 P) BT.nil BT.nil)) (BT.node (hd.o_97 P) (BT.node (hd.o_129 P) (BT.node (hd.o_195 P) BT.nil BT.nil) BT.nil) (BT.node (hd.o_163 P) BT.nil BT.nil))) (BT.node (hd.o_70 P) (BT.node (hd.o_89 P) (BT.node (hd.o_121 P) (BT.node (hd.o_187 P) BT.nil BT.nil) BT.nil) (BT.node (hd.o_155 P) BT.nil BT.nil)) (BT.node (hd.o_105 P) (BT.node (hd.o_139 P) (BT.node (hd.o_203 P) BT.nil BT.nil) BT.nil) (BT.node (hd.o_171 P) BT.nil BT.nil))))))
noncomputable def hd.tree_287 : Params → BT := fun P => BT.node (boot_o_0 P) (BT.node (boot_o_1 P) (BT.node (hd.o_209 P) (BT.node (boot_o_7 P) (BT.node (hd.o_52 P) (BT.node (hd.o_71 P) (BT.node (hd.o_106 P) (BT.node (hd.o_172 P) BT.nil BT.nil) (BT.node (hd.o_238 P) BT.nil BT.nil)) (BT.node (hd.o_140 P) (BT.node (hd.o_204 P) BT.nil BT.nil) (BT.node (hd.o_270 P) BT.nil BT.nil))) (BT.node (hd.o_90 P) (BT.node (hd.o_122 P) (BT.node (hd.o_188 P) BT.nil BT.nil) (BT.node (hd.o_254 P) BT.nil BT.nil)) (BT.node (hd.o_156 P) (BT.node (hd.o_222 P) BT.nil BT.nil) (BT.node (hd.o_286 P) BT.nil BT.nil)))) (BT.node (hd.o_60 P) (BT.node (hd.o_79 P) (BT.node (hd.o_114 P) (BT.node (hd.o_180 P) BT.nil BT.nil) (BT.node (hd.o_246 P) BT.nil BT.nil)) (BT.node (hd.o_148 P) (BT.node (hd.o_214 P) BT.nil BT.nil) (BT.node (hd.o_278 P) BT.nil BT.nil))) (BT.node (hd.o_98 P) (BT.node (hd.o_132 P) (BT.node (hd.o_196 P) BT.nil BT.nil) (BT.node (hd.o_262 P) BT.nil BT.nil)) (BT.node (hd.o_164 P) (BT.node (hd.o_230 P) BT.nil BT.nil) BT.nil)))) (BT.node (hd.o_43 P) (BT.node (hd.o_56 P) (BT.node (hd.o_75 P) (BT.node (hd.o_110 P) (BT.node (hd.o_176 P) BT.nil BT.nil) (BT.node (hd.o_242 P) BT.nil BT.nil)) (BT.node (hd.o_144 P) (BT.node (hd.o_208 P) BT.nil BT.nil) (BT.node (hd.o_274 P) BT.nil BT.nil))) (BT.node (hd.o_94 P) (BT.node (hd.o_126 P) (BT.node (hd.o_192 P) BT.nil BT.nil) (BT.node (hd.o_258 P) BT.nil BT.nil)) (BT.node (hd.o_160 P) (BT.node (hd.o_226 P) BT.nil BT.nil) BT.nil))) (BT.node (hd.o_64 P) (BT.node (hd.o_86 P) (BT.node (hd.o_118 P) (BT.node (hd.o_184 P) BT.nil BT.nil) (BT.node (hd.o_250 P) BT.nil BT.nil)) (BT.node (hd.o_152 P) (BT.node (hd.o_218 P) BT.nil BT.nil) (BT.node (hd.o_282 P) BT.nil BT.nil))) (BT.node (hd.o_102 P) (BT.node (hd.o_136 P) (BT.node (hd.o_200 P) BT.nil BT.nil) (BT.node (hd.o_266 P) BT.nil BT.nil)) (BT.node (hd.o_168 P) (BT.node (hd.o_234 P) BT.nil BT.nil) BT.nil))))) (BT.node (boot_o_5 P) (BT.node (boot_o_9 P) (BT.node (hd.o_54 P) (BT.node (hd.o_73 P) (BT.node (hd.o_108 P) (BT.node (hd.o_174 P) BT.nil BT.nil) (BT.node (hd.o_240 P) BT.nil BT.nil)) (BT.node (hd.o_142 P) (BT.node (hd.o_206 P) BT.nil BT.nil) (BT.node (hd.o_272 P) BT.nil BT.nil))) (BT.node (hd.o_92 P) (BT.node (hd.o_124 P) (BT.node (hd.o_190 P) BT.nil BT.nil) (BT.node (hd.o_256 P) BT.nil BT.nil)) (BT.node (hd.o_158 P) (BT.node (hd.o_224 P) BT.nil BT.nil) BT.nil))) (BT.node (hd.o_62 P) (BT.node (hd.o_84 P) (BT.node (hd.o_116 P) (BT.node (hd.o_182 P) BT.nil BT.nil) (BT.node (hd.o_248 P) BT.nil BT.nil)) (BT.node (hd.o_150 P) (BT.node (hd.o_216 P) BT.nil BT.nil) (BT.node (hd.o_280 P) BT.nil BT.nil))) (BT.node (hd.o_100 P) (BT.node (hd.o_134 P) (BT.node (hd.o_198 P) BT.nil BT.nil) (BT.node (hd.o_264 P) BT.nil BT.nil)) (BT.node (hd.o_166 P) (BT.node (hd.o_232 P) BT.nil BT.nil) BT.nil)))) (BT.node (hd.o_45 P) (BT.node (hd.o_58 P) (BT.node (hd.o_77 P) (BT.node (hd.o_112 P) (BT.node (hd.o_178 P) BT.nil BT.nil) (BT.node (hd.o_244 P) BT.nil BT.nil)) (BT.node (hd.o_146 P) (BT.node (hd.o_212 P) BT.nil BT.nil) (BT.node (hd.o_276 P) BT.nil BT.nil))) (BT.node (hd.o_96 P) (BT.node (hd.o_128 P) (BT.node (hd.o_194 P) BT.nil BT.nil) (BT.node (hd.o_260 P) BT.nil BT.nil)) (BT.node (hd.o_162 P) (BT.node (hd.o_228 P) BT.nil BT.nil) BT.nil))) (BT.node (hd.o_69 P) (BT.node (hd.o_88 P) (BT.node (hd.o_120 P) (BT.node (hd.o_186 P) BT.nil BT.nil) (BT.node (hd.o_252 P) BT.nil BT.nil)) (BT.node (hd.o_154 P) (BT.node (hd.o_220 P) BT.nil BT.nil) (BT.node (hd.o_284 P) BT.nil BT.nil))) (BT.node (hd.o_104 P) (BT.node (hd.o_138 P) (BT.node (hd.o_202 P) BT.nil BT.nil) (BT.node (hd.o_268 P) BT.nil BT.nil)) (BT.node (hd.o_170 P) (BT.node (hd.o_236 P) BT.nil BT.nil) BT.nil)))))) (BT.node (hd.o_49 P) (BT.node (boot_o_4 P) (BT.node (boot_o_8 P) (BT.node (hd.o_53 P) (BT.node (hd.o_72 P) (BT.node (hd.o_107 P) (BT.node (hd.o_173 P) BT.nil BT.nil) (BT.node (hd.o_239 P) BT.nil BT.nil)) (BT.node (hd.o_141 P) (BT.node (hd.o_205 P) BT.nil BT.nil) (BT.node (hd.o_271 P) BT.nil BT.nil))) (BT.node (hd.o_91 P) (BT.node (hd.o_123 P) (BT.node (hd.o_189 P) BT.nil BT.nil) (BT.node (hd.o_255 P) BT.nil BT.nil)) (BT.node (hd.o_157 P) (BT.node (hd.o_223 P) BT.nil BT.nil) (BT.node (hd.o_287 P) BT.nil BT.nil)))) (BT.node (hd.o_82 P) (BT.node (hd.o_83 P) (BT.node (hd.o_115 P) (BT.node (hd.o_181 P) BT.nil BT.nil) (BT.node (hd.o_247 P) BT.nil BT.nil)) (BT.node (hd.o_149 P) (BT.node (hd.o_215 P) BT.nil BT.nil) (BT.node (hd.o_279 P) BT.nil BT.nil))) (BT.node (hd.o_99 P) (BT.node (hd.o_133 P) (BT.node (hd.o_197 P) BT.nil BT.nil) (BT.node (hd.o_263 P) BT.nil BT.nil)) (BT.node (hd.o_165 P) (BT.node (hd.o_231 P) BT.nil BT.nil) BT.nil)))) (BT.node (hd.o_210 P) (BT.node (hd.o_57 P) (BT.node (hd.o_76 P) (BT.node (hd.o_111 P) (BT.node (hd.o_177 P) BT.nil BT.nil) (BT.node (hd.o_243 P) BT.nil BT.nil)) (BT.node (hd.o_145 P) (BT.node (hd.o_211 P) BT.nil BT.nil) (BT.node (hd.o_275 P) BT.nil BT.nil))) (BT.node (hd.o_95 P) (BT.node (hd.o_127 P) (BT.node (hd.o_193 P) BT.nil BT.nil) (BT.node (hd.o_259 P) BT.nil BT.nil)) (BT.node (hd.o_161 P) (BT.node (hd.o_227 P) BT.nil BT.nil) BT.nil))) (BT.node (hd.o_68 P) (BT.node (hd.o_87 P) (BT.node (hd.o_119 P) (BT.node (hd.o_185 P) BT.nil BT.nil) (BT.node (hd.o_251 P) BT.nil BT.nil)) (BT.node (hd.o_153 P) (BT.node (hd.o_219 P) BT.nil BT.nil) (BT.node (hd.o_283 P) BT.nil BT.nil))) (BT.node (hd.o_103 P) (BT.node (hd.o_137 P) (BT.node (hd.o_201 P) BT.nil BT.nil) (BT.node (hd.o_267 P) BT.nil BT.nil)) (BT.node (hd.o_169 P) (BT.node (hd.o_235 P) BT.nil BT.nil) BT.nil))))) (BT.node (boot_o_6 P) (BT.node (boot_o_10 P) (BT.node (hd.o_55 P) (BT.node (hd.o_74 P) (BT.node (hd.o_109 P) (BT.node (hd.o_175 P) BT.nil BT.nil) (BT.node (hd.o_241 P) BT.nil BT.nil)) (BT.node (hd.o_143 P) (BT.node (hd.o_207 P) BT.nil BT.nil) (BT.node (hd.o_273 P) BT.nil BT.nil))) (BT.node (hd.o_93 P) (BT.node (hd.o_125 P) (BT.node (hd.o_191 P) BT.nil BT.nil) (BT.node (hd.o_257 P) BT.nil BT.nil)) (BT.node (hd.o_159 P) (BT.node (hd.o_225 P) BT.nil BT.nil) BT.nil))) (BT.node (hd.o_63 P) (BT.node (hd.o_85 P) (BT.node (hd.o_117 P) (BT.node (hd.o_183 P) BT.nil BT.nil) (BT.node (hd.o_249 P) BT.nil BT.nil)) (BT.node (hd.o_151 P) (BT.node (hd.o_217 P) BT.nil BT.nil) (BT.node (hd.o_281 P) BT.nil BT.nil))) (BT.node (hd.o_101 P) (BT.node (hd.o_135 P) (BT.node (hd.o_199 P) BT.nil BT.nil) (BT.node (hd.o_265 P) BT.nil BT.nil)) (BT.node (hd.o_167 P) (BT.node (hd.o_233 P) BT.nil BT.nil) BT.nil)))) (BT.node (hd.o_46 P) (BT.node (hd.o_59 P) (BT.node (hd.o_78 P) (BT.node (hd.o_113 P) (BT.node (hd.o_179 P) BT.nil BT.nil) (BT.node (hd.o_245 P) BT.nil BT.nil)) (BT.node (hd.o_147 P) (BT.node (hd.o_213 P) BT.nil BT.nil) (BT.node (hd.o_277 P) BT.nil BT.nil))) (BT.node (hd.o_97 P) (BT.node (hd.o_129 P) (BT.node (hd.o_195 P) BT.nil BT.nil) (BT.node (hd.o_261 P) BT.nil BT.nil)) (BT.node (hd.o_163 P) (BT.node (hd.o_229 P) BT.nil BT.nil) BT.nil))) (BT.node (hd.o_70 P) (BT.node (hd.o_89 P) (BT.node (hd.o_121 P) (BT.node (hd.o_187 P) BT.nil BT.nil) (BT.node (hd.o_253 P) BT.nil BT.nil)) (BT.node (hd.o_155 P) (BT.node (hd.o_221 P) BT.nil BT.nil) (BT.node (hd.o_285 P) BT.nil BT.nil))) (BT.node (hd.o_105 P) (BT.node (hd.o_139 P) (BT.node (hd.o_203 P) BT.nil BT.nil) (BT.node (hd.o_269 P) BT.nil BT.nil)) (BT.node (hd.o_171 P) (BT.node (hd.o_237 P) BT.nil BT.nil) BT.nil))))))
noncomputable def hd.tree_362 : Params → BT := fun P => BT.node (boot_o_0 P) (BT.node (boot_o_1 P) (BT.node (hd.o_288 P) (BT.node (boot_o_7 P) (BT.node (hd.o_52 P) (BT.node (hd.o_71 P) (BT.node (hd.o_106 P) (BT.node (hd.o_172 P) (BT.node (hd.o_304 P) BT.nil BT.nil) BT.nil) (BT.node (hd.o_238 P) BT.nil BT.nil)) (BT.node (hd.o_140 P) (BT.node (hd.o_204 P) (BT.node (hd.o_336 P) BT.nil BT.nil) BT.nil) (BT.node (hd.o_270 P) BT.nil BT.nil))) (BT.node (hd.o_90 P) (BT.node (hd.o_122 P) (BT.node (hd.o_188 P) (BT.node (hd.o_320 P) BT.nil BT.nil) BT.nil) (BT.node (hd.o_254 P) BT.nil BT.nil)) (BT.node (hd.o_156 P) (BT.node (hd.o_222 P) (BT.node (hd.o_352 P) BT.nil BT.nil) BT.nil) (BT.node (hd.o_286 P) BT.nil BT.nil)))) (BT.node (hd.o_60 P) (BT.node (hd.o_79 P) (BT.node (hd.o_114 P) (BT.node (hd.o_180 P) (BT.node (hd.o_312 P) BT.nil BT.nil) BT.nil) (BT.node (hd.o_246 P) BT.nil BT.nil)) (BT.node (hd.o_148 P) (BT.node (hd.o_214 P) (BT.node (hd.o_344 P) BT.nil BT.nil) BT.nil) (BT.node (hd.o_278 P) BT.nil BT.nil))) (BT.node (hd.o_98 P) (BT.node (hd.o_132 P) (BT.node (hd.o_196 P) (BT.node (hd.o_328 P) BT.nil BT.nil) BT.nil) (BT.node (hd.o_262 P) BT.nil BT.nil)) (BT.node (hd.o_164 P) (BT.node (hd.o_230 P) (BT.node (hd.o_360 P) BT.nil BT.nil) BT.nil) (BT.node (hd.o_296 P) BT.nil BT.nil))))) (BT.node (hd.o_43 P) (BT.node (hd.o_56 P) (BT.node (hd.o_75 P) (BT.node (hd.o_110 P) (BT.node (hd.o_176 P) (BT.node (hd.o_308 P) BT.nil BT.nil) BT.nil) (BT.node (hd.o_242 P) BT.nil BT.nil)) (BT.node (hd.o_144 P) (BT.node (hd.o_208 P) (BT.node (hd.o_340 P) BT.nil BT.nil) BT.nil) (BT.node (hd.o_274 P) BT.nil BT.nil))) (BT.node (hd.o_94 P) (BT.node (hd.o_126 P) (BT.node (hd.o_192 P) (BT.node (hd.o_324 P) BT.nil BT.nil) BT.nil) (BT.node (hd.o_258 P) BT.nil BT.nil)) (BT.node (hd.o_160 P) (BT.node (hd.o_226 P) (BT.node (hd.o_356 P) BT.nil BT.nil) BT.nil) (BT.node (hd.o_292 P) BT.nil BT.nil)))) (BT.node (hd.o_64 P) (BT.node (hd.o_86 P) (BT.node (hd.o_118 P) (BT.node (hd.o_184 P) (BT.node (hd.o_316 P) BT.nil BT.nil) BT.nil) (BT.node (hd.o_250 P) BT.nil BT.nil)) (BT.node (hd.o_152 P) (BT.node (hd.o_218 P) (BT.node (hd.o_348 P) BT.nil BT.nil) BT.nil) (BT.node (hd.o_282 P) BT.nil BT.nil))) (BT.node (hd.o_102 P) (BT.node (hd.o_136 P) (BT.node (hd.o_200 P) (BT.node (hd.o_332 P) BT.nil BT.nil) BT.nil) (BT.node (hd.o_266 P) BT.nil BT.nil)) (BT.node (hd.o_168 P) (BT.node (hd.o_234 P) BT.nil BT.nil) (BT.node (hd.o_300 P) BT.nil BT.nil)))))) (BT.node (boot_o_5 P) (BT.node (boot_o_9 P) (BT.node (hd.o_54 P) (BT.node (hd.o_73 P) (BT.node (hd.o_108 P) (BT.node (hd.o_174 P) (BT.node (hd.o_306 P) BT.nil BT.nil) BT.nil) (BT.node (hd.o_240 P) BT.nil BT.nil)) (BT.node (hd.o_142 P) (BT.node (hd.o_206 P) (BT.node (hd.o_338 P) BT.nil BT.nil) BT.nil) (BT.node (hd.o_272 P) BT.nil BT.nil))) (BT.node (hd.o_92 P) (BT.node (hd.o_124 P) (BT.node (hd.o_190 P) (BT.node (hd.o_322 P) BT.nil BT.nil) BT.nil) (BT.node (hd.o_256 P) BT.nil BT.nil)) (BT.node (hd.o_158 P) (BT.node (hd.o_224 P) (BT.node (hd.o_354 P) BT.nil BT.nil) BT.nil) (BT.node (hd.o_290 P) BT.nil BT.nil)))) (BT.node (hd.o_62 P) (BT.node (hd.o_84 P) (BT.node (hd.o_116 P) (BT.node (hd.o_182 P) (BT.node (hd.o_314 P) BT.nil BT.nil) BT.nil) (BT.node (hd.o_248 P) BT.nil BT.nil)) (BT.node (hd.o_150 P) (BT.node (hd.o_216 P) (BT.node (hd.o_346 P) BT.nil BT.nil) BT.nil) (BT.node (hd.o_280 P) BT.nil BT.nil))) (BT.node (hd.o_100 P) (BT.node (hd.o_134 P) (BT.node (hd.o_198 P) (BT.node (hd.o_330 P) BT.nil BT.nil) BT.nil) (BT.node (hd.o_264 P) BT.nil BT.nil)) (BT.node (hd.o_166 P) (BT.node (hd.o_232 P) (BT.node (hd.o_362 P) BT.nil BT.nil) BT.nil) (BT.node (hd.o_298 P) BT.nil BT.nil))))) (BT.node (hd.o_45 P) (BT.node (hd.o_58 P) (BT.node (hd.o_77 P) (BT.node (hd.o_112 P) (BT.node (hd.o_178 P) (BT.node (hd.o_310 P) BT.nil BT.nil) BT.nil) (BT.node (hd.o_244 P) BT.nil BT.nil)) (BT.node (hd.o_146 P) (BT.node (hd.o_212 P) (BT.node (hd.o_342 P) BT.nil BT.nil) BT.nil) (BT.node (hd.o_276 P) BT.nil BT.nil))) (BT.node (hd.o_96 P) (BT.node (hd.o_128 P) (BT.node (hd.o_194 P) (BT.node (hd.o_326 P) BT.nil BT.nil) BT.nil) (BT.node (hd.o_260 P) BT.nil BT.nil)) (BT.node (hd.o_162 P) (BT.node (hd.o_228 P) (BT.node (hd.o_358 P) BT.nil BT.nil) BT.nil) (BT.node (hd.o_294 P) BT.nil BT.nil)))) (BT.node (hd.o_69 P) (BT.node (hd.o_88 P) (BT.node (hd.o_120 P) (BT.node (hd.o_186 P) (BT.node (hd.o_318 P) BT.nil BT.nil) BT.nil) (BT.node (hd.o_252 P) BT.nil BT.nil)) (BT.node (hd.o_154 P) (BT.node (hd.o_220 P) (BT.node (hd.o_350 P) BT.nil BT.nil) BT.nil) (BT.node (hd.o_284 P) BT.nil BT.nil))) (BT.node (hd.o_104 P) (BT.node (hd.o_138 P) (BT.node (hd.o_202 P) (BT.node (hd.o_334 P) BT.nil BT.nil) BT.nil) (BT.node (hd.o_268 P) BT.nil BT.nil)) (BT.node (hd.o_170 P) (BT.node (hd.o_236 P) BT.nil BT.nil) (BT.node (hd.o_302 P) BT.nil BT.nil))))))) (BT.node (hd.o_49 P) (BT.node (boot_o_4 P) (BT.node (boot_o_8 P) (BT.node (hd.o_53 P) (BT.node (hd.o_72 P) (BT.node (hd.o_107 P) (BT.node (hd.o_173 P) (BT.node (hd.o_305 P) BT.nil BT.nil) BT.nil) (BT.node (hd.o_239 P) BT.nil BT.nil)) (BT.node (hd.o_141 P) (BT.node (hd.o_205 P) (BT.node (hd.o_337 P) BT.nil BT.nil) BT.nil) (BT.node (hd.o_271 P) BT.nil BT.nil))) (BT.node (hd.o_91 P) (BT.node (hd.o_123 P) (BT.node (hd.o_189 P) (BT.node (hd.o_321 P) BT.nil BT.nil) BT.nil) (BT.node (hd.o_255 P) BT.nil BT.nil)) (BT.node (hd.o_157 P) (BT.node (hd.o_223 P) (BT.node (hd.o_353 P) BT.nil BT.nil) BT.nil) (BT.node (hd.o_287 P) BT.nil BT.nil)))) (BT.node (hd.o_82 P) (BT.node (hd.o_83 P) (BT.node (hd.o_115 P) (BT.node (hd.o_181 P) (BT.node (hd.o_313 P) BT.nil BT.nil) BT.nil) (BT.node (hd.o_247 P) BT.nil BT.nil)) (BT.node (hd.o_149 P) (BT.node (hd.o_215 P) (BT.node (hd.o_345 P) BT.nil BT.nil) BT.nil) (BT.node (hd.o_279 P) BT.nil BT.nil))) (BT.node (hd.o_99 P) (BT.node (hd.o_133 P) (BT.node (hd.o_197 P) (BT.node (hd.o_329 P) BT.nil BT.nil) BT.nil) (BT.node (hd.o_263 P) BT.nil BT.nil)) (BT.node (hd.o_165 P) (BT.node (hd.o_231 P) (BT.node (hd.o_361 P) BT.nil BT.nil) BT.nil) (BT.node (hd.o_297 P) BT.nil BT.nil))))) (BT.node (hd.o_289 P) (BT.node (hd.o_57 P) (BT.node (hd.o_76 P) (BT.node (hd.o_111 P) (BT.node (hd.o_177 P) (BT.node (hd.o_309 P) BT.nil BT.nil) BT.nil) (BT.node (hd.o_243 P) BT.nil BT.nil)) (BT.node (hd.o_145 P) (BT.node (hd.o_211 P) (BT.node (hd.o_341 P) BT.nil BT.nil) BT.nil) (BT.node (hd.o_275 P) BT.nil BT.nil))) (BT.node (hd.o_95 P) (BT.node (hd.o_127 P) (BT.node (hd.o_193 P) (BT.node (hd.o_325 P) BT.nil BT.nil) BT.nil) (BT.node (hd.o_259 P) BT.nil BT.nil)) (BT.node (hd.o_161 P) (BT.node (hd.o_227 P) (BT.node (hd.o_357 P) BT.nil BT.nil) BT.nil) (BT.node (hd.o_293 P) BT.nil BT.nil)))) (BT.node (hd.o_68 P) (BT.node (hd.o_87 P) (BT.node (hd.o_119 P) (BT.node (hd.o_185 P) (BT.node (hd.o_317 P) BT.nil BT.nil) BT.nil) (BT.node (hd.o_251 P) BT.nil BT.nil)) (BT.node (hd.o_153 P) (BT.node (hd.o_219 P) (BT.node (hd.o_349 P) BT.nil BT.nil) BT.nil) (BT.node (hd.o_283 P) BT.nil BT.nil))) (BT.node (hd.o_103 P) (BT.node (hd.o_137 P) (BT.node (hd.o_201 P) (BT.node (hd.o_333 P) BT.nil BT.nil) BT.nil) (BT.node (hd.o_267 P) BT.nil BT.nil)) (BT.node (hd.o_169 P) (BT.node (hd.o_235 P) BT.nil BT.nil) (BT.node (hd.o_301 P) BT.nil BT.nil)))))) (BT.node (boot_o_6 P) (BT.node (boot_o_10 P) (BT.node (hd.o_55 P) (BT.node (hd.o_74 P) (BT.node (hd.o_109 P) (BT.node (hd.o_175 P) (BT.node (hd.o_307 P) BT.nil BT.nil) BT.nil) (BT.node (hd.o_241 P) BT.nil BT.nil)) (BT.node (hd.o_143 P) (BT.node (hd.o_207 P) (BT.node (hd.o_339 P) BT.nil BT.nil) BT.nil) (BT.node (hd.o_273 P) BT.nil BT.nil))) (BT.node (hd.o_93 P) (BT.node (hd.o_125 P) (BT.node (hd.o_191 P) (BT.node (hd.o_323 P) BT.nil BT.nil) BT.nil) (BT.node (hd.o_257 P) BT.nil BT.nil)) (BT.node (hd.o_159 P) (BT.node (hd.o_225 P) (BT.node (hd.o_355 P) BT.nil BT.nil) BT.nil) (BT.node (hd.o_291 P) BT.nil BT.nil)))) (BT.node (hd.o_63 P) (BT.node (hd.o_85 P) (BT.node (hd.o_117 P) (BT.node (hd.o_183 P) (BT.node (hd.o_315 P) BT.nil BT.nil) BT.nil) (BT.node (hd.o_249 P) BT.nil BT.nil)) (BT.node (hd.o_151 P) (BT.node (hd.o_217 P) (BT.node (hd.o_347 P) BT.nil BT.nil) BT.nil) (BT.node (hd.o_281 P) BT.nil BT.nil))) (BT.node (hd.o_101 P) (BT.node (hd.o_135 P) (BT.node (hd.o_199 P) (BT.node (hd.o_331 P) BT.nil BT.nil) BT.nil) (BT.node (hd.o_265 P) BT.nil BT.nil)) (BT.node (hd.o_167 P) (BT.node (hd.o_233 P) BT.nil BT.nil) (BT.node (hd.o_299 P) BT.nil BT.nil))))) (BT.node (hd.o_46 P) (BT.node (hd.o_59 P) (BT.node (hd.o_78 P) (BT.node (hd.o_113 P) (BT.node (hd.o_179 P) (BT.node (hd.o_311 P) BT.nil BT.nil) BT.nil) (BT.node (hd.o_245 P) BT.nil BT.nil)) (BT.node (hd.o_147 P) (BT.node (hd.o_213 P) (BT.node (hd.o_343 P) BT.nil BT.nil) BT.nil) (BT.node (hd.o_277 P) BT.nil BT.nil))) (BT.node (hd.o_97 P) (BT.node (hd.o_129 P) (BT.node (hd.o_195 P) (BT.node (hd.o_327 P) BT.nil BT.nil) BT.nil) (BT.node (hd.o_261 P) BT.nil BT.nil)) (BT.node (hd.o_163 P) (BT.node (hd.o_229 P) (BT.node (hd.o_359 P) BT.nil BT.nil) BT.nil) (BT.node (hd.o_295 P) BT.nil BT.nil)))) (BT.node (hd.o_70 P) (BT.node (hd.o_89 P) (BT.node (hd.o_121 P) (BT.node (hd.o_187 P) (BT.node (hd.o_319 P) BT.nil BT.nil) BT.nil) (BT.node (hd.o_253 P) BT.nil BT.nil)) (BT.node (hd.o_155 P) (BT.node (hd.o_221 P) (BT.node (hd.o_351 P) BT.nil BT.nil) BT.nil) (BT.node (hd.o_285 P) BT.nil BT.nil))) (BT.node (hd.o_105 P) (BT.node (hd.o_139 P) (BT.node (hd.o_203 P) (BT.node (hd.o_335 P) BT.nil BT.nil) BT.nil) (BT.node (hd.o_269 P) BT.nil BT.nil)) (BT.node (hd.o_171 P) (BT.node (hd.o_237 P) BT.nil BT.nil) (BT.node (hd.o_303 P) BT.nil BT.nil)))))))
noncomputable def hd.heap_46 : Params → Heap := fun P => { objs := { toList := [boot_o_0 P, boot_o_1 P, boot_o_2 P, boot_o_3 P, boot_o_4 P, boot_o_5 P, boot_o_6 P, boot_o_7 P, boot_o_8 P, boot_o_9 P, boot_o_10 P, hd.o_43 P, hd.o_44 P, hd.o_45 P, hd.o_46 P] } }
noncomputable def hd.heap_363 : Params → Heap := fun P => { objs := { toList := [boot_o_0 P, boot_o_1 P, hd.o_49 P, hd.o_288 P, boot_o_4 P, boot_o_5 P, boot_o_6 P, boot_o_7 P, boot_o_8 P, boot_o_9 P, boot_o_10 P, hd.o_43 P, hd.o_289 P, hd.o_45 P, hd.o_46 P, hd.o_52 P, hd.o_53 P, hd.o_54 P, hd.o_55 P, hd.o_56 P, hd.o_57 P, hd.o_58 P, hd.o_59 P, hd.o_60 P, hd.o_82 P, hd.o_62 P, hd.o_63 P, hd.o_64 P, hd.o_68 P, hd.o_69 P, hd.o_70 P, hd.o_71 P, hd.o_72 P, hd.o_73 P, hd.o_74 P, hd.o_75 P, hd.o_76 P, hd.o_77 P, hd.o_78 P, hd.o_79 P, hd.o_83 P, hd.o_84 P, hd.o_85 P, hd.o_86 P, hd.o_87 P, hd.o_88 P, hd.o_89 P, hd.o_90 P, hd.o_91 P, hd.o_92 P, hd.o_93 P, hd.o_94 P, hd.o_95 P, hd.o_96 P, hd.o_97 P, hd.o_98 P, hd.o_99 P, hd.o_100 P, hd.o_101 P, hd.o_102 P, hd.o_103 P, hd.o_104 P, hd.o_105 P, hd.o_106 P, hd.o_107 P, hd.o_108 P, hd.o_109 P, hd.o_110 P, hd.o_111 P, hd.o_112 P, hd.o_113 P, hd.o_114 P, hd.o_115 P, hd.o_116 P, hd.o_117 P, hd.o_118 P, hd.o_119 P, hd.o_120 P, hd.o_121 P, hd.o_122 P, hd.o_123 P, hd.o_124 P, hd.o_125 P, hd.o_126 P, hd.o_127 P, hd.o_128 P, hd.o_129 P, hd.o_132 P, hd.o_133 P, hd.o_134 P, hd.o_135 P, hd.o_136 P, hd.o_137 P, hd.o_138 P, hd.o_139 P, hd.o_140 P, hd.o_141 P, hd.o_142 P, hd.o_143 P, hd.o_144 P, hd.o_145 P, hd.o_146 P, hd.o_147 P, hd.o_148 P, hd.o_149 P, hd.o_150 P, hd.o_151 P, hd.o_152 P, hd.o_153 P, hd.o_154 P, hd.o_155 P, hd.o_156 P, hd.o_157 P, hd.o_158 P, hd.o_159 P, hd.o_160 P, hd.o_161 P, hd.o_162 P, hd.o_163 P, hd.o_164 P, hd.o_165 P, hd.o_166 P, hd.o_167 P, hd.o_168 P, hd.o_169 P, hd.o_170 P, hd.o_171 P, hd.o_172 P, hd.o_173 P, hd.o_174 P, hd.o_175 P, hd.o_176 P, hd.o_177 P, hd.o_178 P, hd.o_179 P, hd.o_180 P, hd.o_181 P, hd.o_182 P, hd.o_183 P, hd.o_184 P, hd.o_185 P, hd.o_186 P, hd.o_187 P, hd.o_188 P, hd.o_189 P, hd.o_190 P, hd.o_191 P, hd.o_192 P, hd.o_193 P, hd.o_194 P, hd.o_195 P, hd.o_196 P, hd.o_197 P, hd.o_198 P, hd.o_199 P, hd.o_200 P, hd.o_201 P, hd.o_202 P, hd.o_203 P, hd.o_204 P, hd.o_205 P, hd.o_206 P, hd.o_207 P, hd.o_208 P, hd.o_211 P, hd.o_212 P, hd.o_213 P, hd.o_214 P, hd.o_215 P, hd.o_216 P, hd.o_217 P, hd.o_218 P, hd.o_219 P, hd.o_220 P, hd.o_221 P, hd.o_222 P, hd.o_223 P, hd.o_224 P, hd.o_225 P, hd.o_226 P, hd.o_227 P, hd.o_228 P, hd.o_229 P, hd.o_230 P, hd.o_231 P, hd.o_232 P, hd.o_233 P, hd.o_234 P, hd.o_235 P, hd.o_236 P, hd.o_237 P, hd.o_238 P, hd.o_239 P, hd.o_240 P, hd.o_241 P, hd.o_242 P, hd.o_243 P, hd.o_244 P, hd.o_245 P, hd.o_246 P, hd.o_247 P, hd.o_248 P, hd.o_249 P, hd.o_250 P, hd.o_251 P, hd.o_252 P, hd.o_253 P, hd.o_254 P, hd.o_255 P, hd.o_256 P, hd.o_257 P, hd.o_258 P, hd.o_259 P, hd.o_260 P, hd.o_261 P, hd.o_262 P, hd.o_263 P, hd.o_264 P, hd.o_265 P, hd.o_266 P, hd.o_267 P, hd.o_268 P, hd.o_269 P, hd.o_270 P, hd.o_271 P, hd.o_272 P, hd.o_273 P, hd.o_274 P, hd.o_275 P, hd.o_276 P, hd.o_277 P, hd.o_278 P, hd.o_279 P, hd.o_280 P, hd.o_281 P, hd.o_282 P, hd.o_283 P, hd.o_284 P, hd.o_285 P, hd.o_286 P, hd.o_287 P, hd.o_290 P, hd.o_291 P, hd.o_292 P, hd.o_293 P, hd.o_294 P, hd.o_295 P, hd.o_296 P, hd.o_297 P, hd.o_298 P, hd.o_299 P, hd.o_300 P, hd.o_301 P, hd.o_302 P, hd.o_303 P, hd.o_304 P, hd.o_305 P, hd.o_306 P, hd.o_307 P, hd.o_308 P, hd.o_309 P, hd.o_310 P, hd.o_311 P, hd.o_312 P, hd.o_313 P, hd.o_314 P, hd.o_315 P, hd.o_316 P, hd.o_317 P, hd.o_318 P, hd.o_319 P, hd.o_320 P, hd.o_321 P, hd.o_322 P, hd.o_323 P, hd.o_324 P, hd.o_325 P, hd.o_326 P, hd.o_327 P, hd.o_328 P, hd.o_329 P, hd.o_330 P, hd.o_331 P, hd.o_332 P, hd.o_333 P, hd.o_334 P, hd.o_335 P, hd.o_336 P, hd.o_337 P, hd.o_338 P, hd.o_339 P, hd.o_340 P, hd.o_341 P, hd.o_342 P, hd.o_343 P, hd.o_344 P, hd.o_345 P, hd.o_346 P, hd.o_347 P, hd.o_348 P, hd.o_349 P, hd.o_350 P, hd.o_351 P, hd.o_352 P, hd.o_353 P, hd.o_354 P, hd.o_355 P, hd.o_356 P, hd.o_357 P, hd.o_358 P, hd.o_359 P, hd.o_360 P, hd.o_361 P, hd.o_362 P] } }
noncomputable abbrev lawS (w : World) (os : OsState) : Shared := { heap := hd.heap_363 w.params, gens := Array.mk [], drawn := {}, toks := 673, os := os }
theorem hp47 : ∀ (w : World), (fun os => topGo treeTable lawP w 11 (some (Value.ref 6)) 12 { heap := boot_heap w.params, drawn := boot_drawn, toks := boot_toks, os := os } (topStub lawP)) = fun os => some ({ heap := hd.heap_46 w.params, toks := 187, os := os }, { cur := denote treeTable (Code.body (behindTheImports lawP) hd.env_41), code := Code.body (behindTheImports lawP) hd.env_41, pos := { line := 0, col := 0, endLine := 0, endCol := 0 }, stack := [topFrame { line := 0, col := 0, endLine := 0, endCol := 0 }] }) := fun w => by kernel_rfl
theorem hp49 : ∀ (w : World), (fun os => segRun treeTable lawP w 11 (some (Value.ref 6)) 1 1 { heap := hd.heap_46 w.params, toks := 187, os := os } (blockOf (behindTheImports lawP) hd.env_41 (Code.body (behindTheImports lawP) hd.env_41) { line := 0, col := 0, endLine := 0, endCol := 0 } [topFrame { line := 0, col := 0, endLine := 0, endCol := 0 }])) = fun os => some (Flow.next, (SharedT.abs { tree := hd.tree_47 w.params, n := 15, life := { }, gens := (Array.mk []), drawn := { }, toks := 187, os := os }), Code.body (behindTheImports lawP) hd.env_41, { line := 0, col := 0, endLine := 0, endCol := 0 }) := fun w => by kernel_rfl
theorem hp65 : ∀ (w : World), (fun os => segRunT treeTable lawP w 11 (some (Value.ref 6)) 1 206 { tree := hd.tree_47 w.params, n := 15, life := { }, gens := (Array.mk []), drawn := { }, toks := 187, os := os } (piecesOf hd.sts_49 hd.env_41 (Code.body (behindTheImports lawP) hd.env_41) { line := 0, col := 0, endLine := 0, endCol := 0 } [topFrame { line := 0, col := 0, endLine := 0, endCol := 0 }])) = fun os => some (Flow.next, { tree := hd.tree_64 w.params, n := 28, life := { }, gens := (Array.mk []), drawn := { }, toks := 209, os := os }, Code.body (behindTheImports lawP) hd.env_41, { line := 2, col := 0, endLine := 3, endCol := 8 }) := fun w => by kernel_rfl
theorem hp80 : ∀ (w : World), (fun os => segRunT treeTable lawP w 11 (some (Value.ref 6)) 1 214 { tree := hd.tree_64 w.params, n := 28, life := { }, gens := (Array.mk []), drawn := { }, toks := 209, os := os } (piecesOf hd.sts_65 hd.env_41 (Code.body (behindTheImports lawP) hd.env_41) { line := 2, col := 0, endLine := 3, endCol := 8 } [topFrame { line := 0, col := 0, endLine := 0, endCol := 0 }])) = fun os => some (Flow.next, { tree := hd.tree_79 w.params, n := 40, life := { }, gens := (Array.mk []), drawn := { }, toks := 225, os := os }, Code.body (behindTheImports lawP) hd.env_41, { line := 4, col := 0, endLine := 5, endCol := 8 }) := fun w => by kernel_rfl
theorem hp130 : ∀ (w : World), (fun os => segRunT treeTable lawP w 11 (some (Value.ref 6)) 1 380 { tree := hd.tree_79 w.params, n := 40, life := { }, gens := (Array.mk []), drawn := { }, toks := 225, os := os } (piecesOf hd.sts_80 hd.env_41 (Code.body (behindTheImports lawP) hd.env_41) { line := 4, col := 0, endLine := 5, endCol := 8 } [topFrame { line := 0, col := 0, endLine := 0, endCol := 0 }])) = fun os => some (Flow.next, { tree := hd.tree_129 w.params, n := 87, life := { }, gens := (Array.mk []), drawn := { }, toks := 297, os := os }, Code.body (behindTheImports lawP) hd.env_41, { line := 44, col := 0, endLine := 52, endCol := 16 }) := fun w => by kernel_rfl
theorem hp209 : ∀ (w : World), (fun os => segRunT treeTable lawP w 11 (some (Value.ref 6)) 1 382 { tree := hd.tree_129 w.params, n := 87, life := { }, gens := (Array.mk []), drawn := { }, toks := 297, os := os } (piecesOf hd.sts_130 hd.env_41 (Code.body (behindTheImports lawP) hd.env_41) { line := 44, col := 0, endLine := 52, endCol := 16 } [topFrame { line := 0, col := 0, endLine := 0, endCol := 0 }])) = fun os => some (Flow.next, { tree := hd.tree_208 w.params, n := 164, life := { }, gens := (Array.mk []), drawn := { }, toks := 422, os := os }, Code.body (behindTheImports lawP) hd.env_41, { line := 109, col := 0, endLine := 110, endCol := 40 }) := fun w => by kernel_rfl
theorem hp288 : ∀ (w : World), (fun os => segRunT treeTable lawP w 11 (some (Value.ref 6)) 1 389 { tree := hd.tree_208 w.params, n := 164, life := { }, gens := (Array.mk []), drawn := { }, toks := 422, os := os } (piecesOf hd.sts_209 hd.env_41 (Code.body (behindTheImports lawP) hd.env_41) { line := 109, col := 0, endLine := 110, endCol := 40 } [topFrame { line := 0, col := 0, endLine := 0, endCol := 0 }])) = fun os => some (Flow.next, { tree := hd.tree_287 w.params, n := 241, life := { }, gens := (Array.mk []), drawn := { }, toks := 561, os := os }, Code.body (behindTheImports lawP) hd.env_41, { line := 169, col := 0, endLine := 177, endCol := 31 }) := fun w => by kernel_rfl
theorem hp363 : ∀ (w : World), (fun os => segRunT treeTable lawP w 11 (some (Value.ref 6)) 1 358 { tree := hd.tree_287 w.params, n := 241, life := { }, gens := (Array.mk []), drawn := { }, toks := 561, os := os } (piecesOf hd.sts_288 hd.env_41 (Code.body (behindTheImports lawP) hd.env_41) { line := 169, col := 0, endLine := 177, endCol := 31 } [topFrame { line := 0, col := 0, endLine := 0, endCol := 0 }])) = fun os => some (Flow.next, { tree := hd.tree_362 w.params, n := 314, life := { }, gens := (Array.mk []), drawn := { }, toks := 673, os := os }, Code.body (behindTheImports lawP) hd.env_41, { line := 244, col := 0, endLine := 268, endCol := 22 }) := fun w => by kernel_rfl
theorem hp365 : ∀ (w : World), (fun os => topRun treeTable lawP w 11 (some (Value.ref 6)) 2 (SharedT.abs { tree := hd.tree_362 w.params, n := 314, life := { }, gens := (Array.mk []), drawn := { }, toks := 673, os := os }) { cur := doneF Flow.next, code := Code.body (behindTheImports lawP) hd.env_41, pos := { line := 244, col := 0, endLine := 268, endCol := 22 }, stack := [topFrame { line := 0, col := 0, endLine := 0, endCol := 0 }] }) = fun os => some (lawS w os) := fun w => by kernel_rfl
theorem hp368 : ∀ (w : World), ((boot_heap w.params).isNs mainGlobals && (Array.mk [] : Array GenState).size == 0, (boot_heap w.params).objs.size, (boot_heap w.params).nsMap mainGlobals (Str.ofString "__annotations__")) = (true, 11, some (Value.ref 6)) := fun w => by kernel_rfl
theorem hp370 : ∀ (w : World), (fun os => staticsOk (importedModules lawP.main.body) (boot_heap w.params) (hd.heap_363 w.params) && namesBound lawP (hd.heap_363 w.params) && gensDone (lawS w os) && laidKept (boot_heap w.params) (hd.heap_363 w.params)) = fun os => true := fun w => by kernel_rfl
theorem hp_sts : behindTheImports lawP = hd.sts_49 ++ (hd.sts_65 ++ (hd.sts_80 ++ (hd.sts_130 ++ (hd.sts_209 ++ (hd.sts_288 ++ []))))) := by kernel_rfl
theorem hp_run (w : World) (os : OsState) : topRun treeTable lawP w 11 (some (Value.ref 6)) (Nat.add 12 (Nat.add 1 (Nat.add 206 (Nat.add 214 (Nat.add 380 (Nat.add 382 (Nat.add 389 (Nat.add 358 2)))))))) { heap := boot_heap w.params, gens := Array.mk [], drawn := boot_drawn, toks := boot_toks, os := os } (topStub lawP) = some (lawS w os) :=
  go_top (congrFun (hp47 w) os) (piece_block (congrFun (hp49 w) os) ((congrArg (fun l => topRun treeTable lawP w 11 (some (Value.ref 6)) _ _ (restOf l _ _ _ _) = _) hp_sts).mpr
    (piece_app (segRun_of (congrFun (hp65 w) os)) (piece_app (segRun_of (congrFun (hp80 w) os)) (piece_app (segRun_of (congrFun (hp130 w) os)) (piece_app (segRun_of (congrFun (hp209 w) os))
      (piece_app (segRun_of (congrFun (hp288 w) os)) (piece_app (segRun_of (congrFun (hp363 w) os)) (congrFun (hp365 w) os)))))))))
theorem hp_seen (w : World) (os : OsState) : openSeen hd.view_39 [] (importedModules lawP.main.body) (fun s => xlAt hd.view_39 [] s && recOk [] s) true (lawS w os) = openGood hd.view_39 [] := by kernel_rfl
theorem hp_obs (w : World) (os : OsState) : Hook.obs hk (lawS w os) = Hook.val hk w := by kernel_rfl
theorem law_left : LeftO lawP hd.view_39 [] (fun s => xlAt hd.view_39 [] s && recOk [] s) (Hook.obs hk) (Hook.val hk) 3972 :=
  LeftO.of_pieces (H₀ := boot_heap) (H₁ := hd.heap_363) (gs₀ := Array.mk []) (gs₁ := Array.mk []) (d₀ := boot_drawn) (d₁ := {}) (k₀ := boot_toks) (k₁ := 673) (m₀ := 11) (ann := some (Value.ref 6))
    (M := Nat.add 12 (Nat.add 1 (Nat.add 206 (Nat.add 214 (Nat.add 380 (Nat.add 382 (Nat.add 389 (Nat.add 358 2))))))))
    (boot_open (by rfl) (by rfl) (fun _ => by rfl)) hp368 hp_run (by rfl) (fun w => funext fun os => Prod.ext (congrFun (hp370 w) os) (Prod.ext (hp_seen w os) (hp_obs w os)))

end Mine
end
section
open PySem PySem.W PyProof.Rows PySem.Calls PySem.Spec
namespace Mine

/-- values without their tokens -/
inductive PV where
  | other | none
  | bool (b : Bool)
  | int (i : Int)
  | ref (a : Addr)

noncomputable def pv : Value → PV
  | .none => .none
  | .bool b => .bool b
  | .int i _ => .int i
  | .ref a => .ref a
  | _ => .other

theorem pv_int {v : Value} {i : Int} (h : pv v = .int i) : ∃ t, v = .int i t := by
  cases v <;> simp only [pv] at h <;> first | (cases h; exact ⟨_, rfl⟩) | cases h
theorem pv_bool {v : Value} {b : Bool} (h : pv v = .bool b) : v = .bool b := by
  cases v <;> simp only [pv] at h <;> first | (cases h; rfl) | cases h
theorem pv_ref {v : Value} {a : Addr} (h : pv v = .ref a) : v = .ref a := by
  cases v <;> simp only [pv] at h <;> first | (cases h; rfl) | cases h

/-- objects of the call -/
inductive PO where
  | list (xs : List PV)
  | ro (xs : List PV)
  | tup (xs : List PV)
  | cell (v : PV)
  | ecell

noncomputable def listObj (vs : List Value) (n : Nat) : Obj := { cls := .type "list", data := .seq vs.toArray n }
noncomputable def tupObj (vs : List Value) (n : Nat) : Obj := { cls := .type "tuple", data := .seq vs.toArray n }

noncomputable def oIs (o : Obj) : PO → Prop
  | .list xs => ∃ vs n, o = listObj vs n ∧ vs.map pv = xs
  | .ro xs => ∃ vs n, o = listObj vs n ∧ vs.map pv = xs
  | .tup xs => ∃ vs n, o = tupObj vs n ∧ vs.map pv = xs
  | .cell v => ∃ u, o.data = .cell (some u) ∧ pv u = v
  | .ecell => o.data = .cell none

noncomputable abbrev Loc := List (Str × PV)
noncomputable abbrev Hp := Addr → Option PO

noncomputable def Le (H H' : Hp) : Prop := ∀ a p, H a = some p → H' a = some p
theorem Le.refl (H : Hp) : Le H H := fun _ _ h => h
theorem Le.trans {H H' H'' : Hp} (x : Le H H') (y : Le H' H'') : Le H H'' := fun a p h => y a p (x a p h)
noncomputable def upd (H : Hp) (a : Addr) (p : PO) : Hp := fun b => if b = a then some p else H b
theorem upd_self {H : Hp} {a : Addr} {p : PO} : upd H a p a = some p := if_pos rfl
theorem upd_ne {H : Hp} {a b : Addr} {p : PO} (h : b ≠ a) : upd H a p b = H b := if_neg h
theorem Le.upd {H : Hp} {a : Addr} {p : PO} (h : H a = none) : Le H (upd H a p) := fun b q e => by
  have : b ≠ a := fun q => by rw [q, h] at e; cases e
  rw [upd_ne this]; exact e
/-- a list to be read -/
noncomputable def IsL (H : Hp) (a : Addr) (xs : List PV) : Prop := H a = some (.list xs) ∨ H a = some (.ro xs)
theorem IsL.le {H H' : Hp} {a : Addr} {xs : List PV} (x : IsL H a xs) (l : Le H H') : IsL H' a xs := x.imp (l a _) (l a _)

structure Glo where
  prog : Program
  w : World
  K : Frag
  p : Program
  loose : List Str
  mean : ExcName → Option Value
  mg : Str → Option Value
  mb : Str → Option Value

structure Cx where
  dp : Nat
  un : Nat
  gd : Option (List Code)
  cn : Str
  cs : Scope
  L : Addr
  a : Addr
  ccd : Value
  cl : List (Str × Addr)
  outer : List Env
  A₀ : Around
  base : Heap
  h₀ : Heap

noncomputable abbrev Cx.env (c : Cx) : Env := envX c.cn c.cs c.L c.a c.ccd c.cl
noncomputable abbrev Cx.A (c : Cx) : Around := { handled := none, depth := c.dp, frames := some (c.env :: c.outer), guards := c.gd, units := c.un }

structure Cx.Ok (G : Glo) (c : Cx) (r : Nat) : Prop where
  B : Below c.A₀ c.base c.outer c.h₀
  X : G.K.In c.h₀
  T : Top G.p G.loose G.mean G.mg G.mb c.h₀
  k : c.cs.kind = .function
  dp : c.dp + r < recursionLimit
  un : c.un + 8 * r + 8 < cLine

noncomputable def LIs (m : Str → Option Value) (ℓ : Loc) : Prop := ∀ x p, ℓ.lookup x = some p → ∃ v, m x = some v ∧ pv v = p
noncomputable def HIs (base : Heap) (news : List (Addr × Obj)) (H : Hp) : Prop := ∀ a p, H a = some p → ∃ o, oIs o p ∧ ((a, o) ∈ news ∨ (base.get? a = some o ∧ ∃ xs, p = .ro xs))

structure St (c : Cx) (ℓ : Loc) (H : Hp) (fr : List (Addr × Obj)) (s : Shared) (m : Str → Option Value) (news : List (Addr × Obj)) : Prop where
  F : Fr c.h₀ c.L s.heap m
  N : News c.h₀ c.L s.heap news
  l : LIs m ℓ
  h : HIs c.base news H
  bs : c.base.StaysIn c.h₀
  fs : ∀ q ∈ fr, q ∈ news
  ap : ∀ q ∈ fr, H q.1 = none ∨ ∃ xs, H q.1 = some (.ro xs)

noncomputable def Out (c : Cx) (ℓ : Loc) (H : Hp) (fr : List (Addr × Obj)) (s s' : Shared) : Prop :=
  (∃ h tk, s' = { s with heap := h, toks := tk }) ∧ ∃ m news, St c ℓ H fr s' m news

theorem Out.refl {c : Cx} {ℓ : Loc} {H : Hp} {fr : List (Addr × Obj)} {s : Shared} {m news} (S : St c ℓ H fr s m news) : Out c ℓ H fr s s := ⟨⟨_, _, rfl⟩, _, _, S⟩
theorem Out.trans {c c' : Cx} {ℓ ℓ' : Loc} {H H' : Hp} {fr fr' : List (Addr × Obj)} {s s' s'' : Shared} (x : Out c ℓ H fr s s') (y : Out c' ℓ' H' fr' s' s'') : Out c' ℓ' H' fr' s s'' := by
  obtain ⟨⟨h, tk, rfl⟩, _⟩ := x
  obtain ⟨⟨h', tk', rfl⟩, z⟩ := y
  exact ⟨⟨_, _, rfl⟩, z⟩
theorem St.toks {c : Cx} {ℓ : Loc} {H : Hp} {fr : List (Addr × Obj)} {s : Shared} {m news} (S : St c ℓ H fr s m news) (tk : Nat) : St c ℓ H fr { s with toks := tk } m news := ⟨S.F, S.N, S.l, S.h, S.bs, S.fs, S.ap⟩

/-- a tree that leaves the frame's names alone -/
noncomputable def Tx {α : Type} (G : Glo) (c : Cx) (ℓ : Loc) (H : Hp) (t : Sem α) (Q : α → Hp → Prop) : Prop :=
  ∀ fr s m news, St c ℓ H fr s m news → wpAny (model G.prog G.w) c.A t (fun a s' => ∃ H', Out c ℓ H' fr s s' ∧ Q a H') (fun _ _ => False) s

section
variable {α β : Type} {G : Glo} {c : Cx} {ℓ : Loc} {H : Hp}
theorem Tx.mono {t : Sem α} {Q Q' : α → Hp → Prop} (h : Tx G c ℓ H t Q) (q : ∀ a H', Q a H' → Q' a H') : Tx G c ℓ H t Q' := fun fr s m news S =>
  wpAny_mono (h fr s m news S) (fun a s' ⟨H', o, x⟩ => ⟨H', o, q a H' x⟩) fun _ _ x => x
/-- from the library's rules: the continuation read back -/
theorem Tx.seq {fr s m news} {t : Sem α} {Q : α → Hp → Prop} (S : St c ℓ H fr s m news) (h : Tx G c ℓ H t Q) {R : α → Shared → Prop}
    (k : ∀ a s' H' m' news', (∃ h tk, s' = { s with heap := h, toks := tk }) → St c ℓ H' fr s' m' news' → Q a H' → R a s') : wpAny (model G.prog G.w) c.A t R (fun _ _ => False) s :=
  wpAny_mono (h fr s m news S) (fun a s' ⟨H', ⟨e, m', news', S'⟩, x⟩ => k a s' H' m' news' e S' x) fun _ _ x => x
end

/-- an expression -/
noncomputable def TE (G : Glo) (c : Cx) (ℓ : Loc) (H : Hp) (e : Expr) (Q : PV → Hp → Prop) : Prop := Tx G c ℓ H (eval e c.env) fun v => Q (pv v)

section
variable {G : Glo} {c : Cx} {ℓ : Loc} {H : Hp} {Q : PV → Hp → Prop} {r : Nat}
theorem TE.mono {e : Expr} {Q' : PV → Hp → Prop} (h : TE G c ℓ H e Q) (q : ∀ a H', Q a H' → Q' a H') : TE G c ℓ H e Q' := Tx.mono h fun _ _ => q _ _

theorem te_name {x : Str} {pos : Pos} {v : PV} (hv : ℓ.lookup x = some v) (h : Q v H) (ok : c.Ok G r) (hx : c.env.kindOf x = some .local := by rfl) (hd : (x == ("__debug__" : Str)) = false := by decide) :
    TE G c ℓ H (.Name x pos) Q := fun fr s m news S => by
  obtain ⟨u, hu, e⟩ := S.l _ _ hv
  exact nameX_L S.F hu ⟨H, .refl S, by subst e; exact h⟩ ok.k hx hd
theorem te_global {x : Str} {pos : Pos} {v : Value} (e : nsIn G.K mainGlobals x = some (some v)) (h : Q (pv v) H) (ok : c.Ok G r) (hx : c.env.kindOf x = some .globalImplicit := by rfl) (hd : (x == ("__debug__" : Str)) = false := by decide) :
    TE G c ℓ H (.Name x pos) Q := fun fr s m news S => nameX_K S.F ok.X (topRead_of ok.T) e ⟨H, .refl S, h⟩ ok.k hx hd
theorem te_int {i : Int} {k : Nat} {pos : Pos} (h : Q (.int i) H) : TE G c ℓ H (.Constant (.int i) k pos) Q := fun fr s m news S =>
  wpAny_Constant_int ⟨H, ⟨⟨_, _, rfl⟩, _, _, S.toks _⟩, h⟩
theorem te_bool {b : Bool} {k : Nat} {pos : Pos} (h : Q (.bool b) H) : TE G c ℓ H (.Constant (.bool b) k pos) Q := fun fr s m news S =>
  Constant_bool ⟨H, .refl S, h⟩

/-- what a step on values gives -/
noncomputable def Vx (G : Glo) (c : Cx) (ℓ : Loc) (H : Hp) (t : Sem Value) (Q : PV → Hp → Prop) : Prop := Tx G c ℓ H t fun v => Q (pv v)
theorem te_binop {l r : Expr} {op : Operator} {pos : Pos} (h : TE G c ℓ H l fun a H₁ => TE G c ℓ H₁ r fun b H₂ => ∀ u v, pv u = a → pv v = b → Vx G c ℓ H₂ (binaryOp op u v) Q) : TE G c ℓ H (.BinOp l op r pos) Q := fun fr s m news S => by
  refine wpAny_BinOp (Tx.seq S h fun u s₁ H₁ m₁ n₁ e₁ S₁ h₁ => Tx.seq S₁ h₁ fun v s₂ H₂ m₂ n₂ e₂ S₂ h₂ => Tx.seq S₂ (h₂ u v rfl rfl) fun x s₃ H₃ m₃ n₃ e₃ S₃ h₃ => ?_)
  obtain ⟨_, _, rfl⟩ := e₁; obtain ⟨_, _, rfl⟩ := e₂; obtain ⟨_, _, rfl⟩ := e₃
  exact ⟨H₃, ⟨⟨_, _, rfl⟩, _, _, S₃⟩, h₃⟩
end

section
variable {G : Glo} {c : Cx} {ℓ : Loc} {H : Hp} {fr : List (Addr × Obj)} {s : Shared} {m : Str → Option Value} {news : List (Addr × Obj)}
theorem St.at {a : Addr} {p : PO} (S : St c ℓ H fr s m news) (h : H a = some p) : ∃ o, oIs o p ∧ s.heap.get? a = some o := by
  obtain ⟨o, x, hm | ⟨hb, _⟩⟩ := S.h _ _ h
  · exact ⟨o, x, S.N.get hm⟩
  · exact ⟨o, x, S.F.keep _ _ (S.bs _ _ hb)⟩
theorem St.mem {a : Addr} {p : PO} (S : St c ℓ H fr s m news) (h : H a = some p) (hp : ∀ xs, p ≠ .ro xs) : ∃ o, oIs o p ∧ (a, o) ∈ news := by
  obtain ⟨o, x, hm | ⟨hb, xs, e⟩⟩ := S.h _ _ h
  · exact ⟨o, x, hm⟩
  · exact absurd e (hp xs)
theorem St.list {a : Addr} {xs : List PV} (S : St c ℓ H fr s m news) (h : IsL H a xs) : ∃ vs n, s.heap.get? a = some (listObj vs n) ∧ vs.map pv = xs := by
  rcases h with h | h <;> obtain ⟨o, ⟨vs, n, rfl, e⟩, hg⟩ := S.at h <;> exact ⟨vs, n, hg, e⟩
theorem isList_of {h : Heap} {a : Addr} {vs : List Value} {n : Nat} (e : h.get? a = some (listObj vs n)) : h.IsList a vs.toArray := ⟨_, e, rfl, n, rfl⟩
theorem St.tup {a : Addr} {xs : List PV} (S : St c ℓ H fr s m news) (h : H a = some (.tup xs)) : ∃ vs n, s.heap.get? a = some (tupObj vs n) ∧ vs.map pv = xs := by
  obtain ⟨o, ⟨vs, n, rfl, e⟩, hg⟩ := S.at h; exact ⟨vs, n, hg, e⟩
theorem isTup_of {h : Heap} {a : Addr} {vs : List Value} {n : Nat} (e : h.get? a = some (tupObj vs n)) : IsTup h a vs.toArray := ⟨_, e, rfl, n, rfl⟩
theorem St.none_of_size (S : St c ℓ H fr s m news) {a : Addr} (ha : s.heap.objs.size ≤ a) : H a = none := by
  cases e : H a with
  | none => rfl
  | some p =>
    obtain ⟨o, _, hg⟩ := S.at e
    exact absurd (Heap.lt_size hg) (Nat.not_lt.mpr ha)
theorem St.alloc {a : Addr} {o : Obj} {p : PO} {h' : Heap} {tk : Nat} (S : St c ℓ H fr s m news) (ha : s.heap.objs.size ≤ a) (F' : Fr c.h₀ c.L h' m) (N' : News c.h₀ c.L h' ((a, o) :: news)) (hp : oIs o p) :
    St c ℓ (upd H a p) fr { s with heap := h', toks := tk } m ((a, o) :: news) := by
  refine ⟨F', N', S.l, fun b q e => ?_, S.bs, fun q hq => .tail _ (S.fs q hq), fun q hq => ?_⟩
  · by_cases hb : b = a
    · subst hb; rw [upd_self] at e; cases e; exact ⟨o, hp, .inl (.head _)⟩
    · rw [upd_ne hb] at e
      obtain ⟨o', x, hm⟩ := S.h _ _ e
      exact ⟨o', x, hm.imp (.tail _) id⟩
  · have : q.1 ≠ a := fun e => by
      have := Heap.lt_size (S.N.get (S.fs q hq)); rw [e] at this; exact Nat.lt_irrefl _ (Nat.lt_of_lt_of_le this ha)
    rw [upd_ne this]; exact S.ap q hq
/-- the heap kept, and grown -/
theorem St.grown {h' : Heap} {tk : Nat} (S : St c ℓ H fr s m news) (F' : Fr c.h₀ c.L h' m) (N' : News c.h₀ c.L h' news) : St c ℓ H fr { s with heap := h', toks := tk } m news := ⟨F', N', S.l, S.h, S.bs, S.fs, S.ap⟩
/-- a list of the call's turned -/
theorem St.put {a : Addr} {xs : List PV} {o' : Obj} {p : PO} {h' : Heap} {tk : Nat} (S : St c ℓ H fr s m news) (h : H a = some (.list xs)) (hs : Heap.SameBut a s.heap h') (ho : h'.get? a = some o') (hp : oIs o' p) :
    ∃ news', St c ℓ (upd H a p) fr { s with heap := h', toks := tk } m news' := by
  obtain ⟨o, x, hm⟩ := S.mem h (fun _ e => by cases e)
  refine ⟨news.map fun q => if q.1 = a then (a, o') else q, S.F.update S.N hm hs, S.N.update hm hs ho, S.l, fun b q eb => ?_, S.bs, fun q hq => ?_, fun q hq => ?_⟩
  · by_cases hb : b = a
    · subst hb; rw [upd_self] at eb; cases eb
      exact ⟨o', hp, .inl (List.mem_map.mpr ⟨_, hm, by simp⟩)⟩
    · rw [upd_ne hb] at eb
      obtain ⟨o, x, hm'⟩ := S.h _ _ eb
      exact ⟨o, x, hm'.imp (fun hm' => List.mem_map.mpr ⟨_, hm', by simp [hb]⟩) id⟩
  · have : q.1 ≠ a := fun e => by
      rcases S.ap q hq with z | ⟨ys, z⟩ <;> (rw [e, h] at z; cases z)
    exact List.mem_map.mpr ⟨q, S.fs q hq, by simp [this]⟩
  · have : q.1 ≠ a := fun e => by
      rcases S.ap q hq with z | ⟨ys, z⟩ <;> (rw [e, h] at z; cases z)
    rw [upd_ne this]; exact S.ap q hq
end

theorem get_of_map {vs : List Value} {xs : List PV} {i : Nat} {x : PV} (e : vs.map pv = xs) (h : xs[i]? = some x) : ∃ v, vs[i]? = some v ∧ pv v = x := by
  subst e
  rw [List.getElem?_map] at h
  cases hv : vs[i]? with
  | none => rw [hv] at h; cases h
  | some v => rw [hv] at h; cases h; exact ⟨v, rfl, rfl⟩
theorem len_of_map {vs : List Value} {xs : List PV} (e : vs.map pv = xs) : vs.length = xs.length := by subst e; simp

section
variable {G : Glo} {c : Cx} {ℓ : Loc} {H : Hp} {Q : PV → Hp → Prop} {r : Nat} {pos : Pos}

theorem te_add {l r : Expr} (h : TE G c ℓ H l fun a H₁ => TE G c ℓ H₁ r fun b H₂ => ∃ x y, a = .int x ∧ b = .int y ∧ Q (.int (x + y)) H₂) : TE G c ℓ H (.BinOp l .Add r pos) Q :=
  te_binop (h.mono fun a H₁ h₁ => h₁.mono fun b H₂ h₂ u v eu ev => by
    obtain ⟨x, y, rfl, rfl, q⟩ := h₂; obtain ⟨t, rfl⟩ := pv_int eu; obtain ⟨t', rfl⟩ := pv_int ev
    exact fun fr s m n S => add_int ⟨_, ⟨⟨_, _, rfl⟩, _, _, S.toks _⟩, q⟩)
theorem te_sub {l r : Expr} (h : TE G c ℓ H l fun a H₁ => TE G c ℓ H₁ r fun b H₂ => ∃ x y, a = .int x ∧ b = .int y ∧ Q (.int (x - y)) H₂) : TE G c ℓ H (.BinOp l .Sub r pos) Q :=
  te_binop (h.mono fun a H₁ h₁ => h₁.mono fun b H₂ h₂ u v eu ev => by
    obtain ⟨x, y, rfl, rfl, q⟩ := h₂; obtain ⟨t, rfl⟩ := pv_int eu; obtain ⟨t', rfl⟩ := pv_int ev
    exact fun fr s m n S => sub_int ⟨_, ⟨⟨_, _, rfl⟩, _, _, S.toks _⟩, q⟩)
theorem te_mul {l r : Expr} (h : TE G c ℓ H l fun a H₁ => TE G c ℓ H₁ r fun b H₂ => ∃ x y, a = .int x ∧ b = .int y ∧ IntMulOk x y ∧ Q (.int (x * y)) H₂) : TE G c ℓ H (.BinOp l .Mult r pos) Q :=
  te_binop (h.mono fun a H₁ h₁ => h₁.mono fun b H₂ h₂ u v eu ev => by
    obtain ⟨x, y, rfl, rfl, ok, q⟩ := h₂; obtain ⟨t, rfl⟩ := pv_int eu; obtain ⟨t', rfl⟩ := pv_int ev
    exact fun fr s m n S => mul_int ⟨_, ⟨⟨_, _, rfl⟩, _, _, S.toks _⟩, q⟩ ok)
theorem te_fdiv {l r : Expr} (h : TE G c ℓ H l fun a H₁ => TE G c ℓ H₁ r fun b H₂ => ∃ x y, a = .int x ∧ b = .int y ∧ y ≠ 0 ∧ y.natAbs.log2 < 9000 ∧ Q (.int (x.fdiv y)) H₂) : TE G c ℓ H (.BinOp l .FloorDiv r pos) Q :=
  te_binop (h.mono fun a H₁ h₁ => h₁.mono fun b H₂ h₂ u v eu ev => by
    obtain ⟨x, y, rfl, rfl, ok, lg, q⟩ := h₂; obtain ⟨t, rfl⟩ := pv_int eu; obtain ⟨t', rfl⟩ := pv_int ev
    exact fun fr s m n S => floordiv_int ok ⟨_, ⟨⟨_, _, rfl⟩, _, _, S.toks _⟩, q⟩ (.inl (PyProof.noPylong_of_log2 lg)))
theorem te_mod {l r : Expr} (h : TE G c ℓ H l fun a H₁ => TE G c ℓ H₁ r fun b H₂ => ∃ x y, a = .int x ∧ b = .int y ∧ y ≠ 0 ∧ Q (.int (x.fmod y)) H₂) : TE G c ℓ H (.BinOp l .Mod r pos) Q :=
  te_binop (h.mono fun a H₁ h₁ => h₁.mono fun b H₂ h₂ u v eu ev => by
    obtain ⟨x, y, rfl, rfl, ok, q⟩ := h₂; obtain ⟨t, rfl⟩ := pv_int eu; obtain ⟨t', rfl⟩ := pv_int ev
    exact fun fr s m n S => mod_int' ok ⟨_, ⟨⟨_, _, rfl⟩, _, _, S.toks _⟩, q⟩)
theorem te_shl {l r : Expr} (h : TE G c ℓ H l fun a H₁ => TE G c ℓ H₁ r fun b H₂ => ∃ x y, a = .int x ∧ b = .int y ∧ 0 ≤ y ∧ y ≤ 1000000 ∧ x.natAbs < 2 ^ 64 ∧ Q (.int (x * 2 ^ y.toNat)) H₂) : TE G c ℓ H (.BinOp l .LShift r pos) Q :=
  te_binop (h.mono fun a H₁ h₁ => h₁.mono fun b H₂ h₂ u v eu ev => by
    obtain ⟨x, y, rfl, rfl, o1, o2, o3, q⟩ := h₂; obtain ⟨t, rfl⟩ := pv_int eu; obtain ⟨t', rfl⟩ := pv_int ev
    exact fun fr s m n S => lshift_int_small o1 o2 o3 ⟨_, ⟨⟨_, _, rfl⟩, _, _, S.toks _⟩, q⟩)
theorem te_shr {l r : Expr} (h : TE G c ℓ H l fun a H₁ => TE G c ℓ H₁ r fun b H₂ => ∃ x y, a = .int x ∧ b = .int y ∧ 0 ≤ y ∧ Q (.int (x.fdiv (2 ^ y.toNat))) H₂) : TE G c ℓ H (.BinOp l .RShift r pos) Q :=
  te_binop (h.mono fun a H₁ h₁ => h₁.mono fun b H₂ h₂ u v eu ev => by
    obtain ⟨x, y, rfl, rfl, o1, q⟩ := h₂; obtain ⟨t, rfl⟩ := pv_int eu; obtain ⟨t', rfl⟩ := pv_int ev
    exact fun fr s m n S => rshift_int o1 ⟨_, ⟨⟨_, _, rfl⟩, _, _, S.toks _⟩, q⟩)
theorem te_and {l r : Expr} (h : TE G c ℓ H l fun a H₁ => TE G c ℓ H₁ r fun b H₂ => ∃ x y, a = .int x ∧ b = .int y ∧ Q (.int (Builtin.bitAnd x y)) H₂) : TE G c ℓ H (.BinOp l .BitAnd r pos) Q :=
  te_binop (h.mono fun a H₁ h₁ => h₁.mono fun b H₂ h₂ u v eu ev => by
    obtain ⟨x, y, rfl, rfl, q⟩ := h₂; obtain ⟨t, rfl⟩ := pv_int eu; obtain ⟨t', rfl⟩ := pv_int ev
    exact fun fr s m n S => and_int ⟨_, ⟨⟨_, _, rfl⟩, _, _, S.toks _⟩, q⟩)
theorem te_or {l r : Expr} (h : TE G c ℓ H l fun a H₁ => TE G c ℓ H₁ r fun b H₂ => ∃ x y, a = .int x ∧ b = .int y ∧ Q (.int (Builtin.bitOr x y)) H₂) : TE G c ℓ H (.BinOp l .BitOr r pos) Q :=
  te_binop (h.mono fun a H₁ h₁ => h₁.mono fun b H₂ h₂ u v eu ev => by
    obtain ⟨x, y, rfl, rfl, q⟩ := h₂; obtain ⟨t, rfl⟩ := pv_int eu; obtain ⟨t', rfl⟩ := pv_int ev
    exact fun fr s m n S => or_int ⟨_, ⟨⟨_, _, rfl⟩, _, _, S.toks _⟩, q⟩)
theorem te_pow {l r : Expr} (h : TE G c ℓ H l fun a H₁ => TE G c ℓ H₁ r fun b H₂ => ∃ x y, a = .int x ∧ b = .int y ∧ 0 ≤ y ∧ y ≤ 1000000 ∧ x.natAbs < 2 ^ 64 ∧ Q (.int (x ^ y.toNat)) H₂) : TE G c ℓ H (.BinOp l .Pow r pos) Q :=
  te_binop (h.mono fun a H₁ h₁ => h₁.mono fun b H₂ h₂ u v eu ev => by
    obtain ⟨x, y, rfl, rfl, o1, o2, o3, q⟩ := h₂; obtain ⟨t, rfl⟩ := pv_int eu; obtain ⟨t', rfl⟩ := pv_int ev
    exact fun fr s m n S => pow_int_small o1 o2 o3 ⟨_, ⟨⟨_, _, rfl⟩, _, _, S.toks _⟩, q⟩)
theorem te_neg {x : Expr} (h : TE G c ℓ H x fun a H₁ => ∃ i, a = .int i ∧ Q (.int (-i)) H₁) : TE G c ℓ H (.UnaryOp .USub x pos) Q := fun fr s m n S =>
  UnaryOp_ (Tx.seq S h fun u s₁ H₁ m₁ n₁ e₁ S₁ h₁ => by
    obtain ⟨i, ei, q⟩ := h₁; obtain ⟨t, rfl⟩ := pv_int ei; obtain ⟨_, _, rfl⟩ := e₁
    exact neg_int ⟨_, ⟨⟨_, _, rfl⟩, _, _, S₁.toks _⟩, q⟩)
/-- + of lists -/
theorem te_addL {l r : Expr} (h : TE G c ℓ H l fun a H₁ => TE G c ℓ H₁ r fun b H₂ => ∃ x y xs ys, a = .ref x ∧ b = .ref y ∧ IsL H₂ x xs ∧ IsL H₂ y ys ∧ xs.length + ys.length ≤ 1000 ∧ ∀ d, H₂ d = none → Q (.ref d) (upd H₂ d (.list (xs ++ ys)))) : TE G c ℓ H (.BinOp l .Add r pos) Q :=
  te_binop (h.mono fun a H₁ h₁ => h₁.mono fun b H₂ h₂ u v eu ev => by
    obtain ⟨x, y, xs, ys, rfl, rfl, lx, ly, sz, q⟩ := h₂; cases pv_ref eu; cases pv_ref ev
    intro fr s m n S
    obtain ⟨vs, k, hg, rfl⟩ := S.list lx
    obtain ⟨us, k', hg', rfl⟩ := S.list ly
    refine add_lists S.F S.N (isList_of hg) (isList_of hg') (fun h' F' N' => ⟨_, ⟨⟨h', s.toks, rfl⟩, _, _, S.alloc (p := .list (vs.map pv ++ us.map pv)) (Nat.le_refl _) F' N' ⟨vs ++ us, 0, rfl, by simp⟩⟩, q _ (S.none_of_size (Nat.le_refl _))⟩) ?_
    simp only [List.length_map] at sz
    show _ ≤ 2 ^ 24
    (first | lia | omega))
/-- a list times an int -/
theorem te_mulL {l r : Expr} (h : TE G c ℓ H l fun a H₁ => TE G c ℓ H₁ r fun b H₂ => ∃ x k v, a = .ref x ∧ b = .int k ∧ IsL H₂ x [v] ∧ 0 ≤ k ∧ k ≤ 1000 ∧ ∀ d, H₂ d = none → Q (.ref d) (upd H₂ d (.list (List.replicate k.toNat v)))) : TE G c ℓ H (.BinOp l .Mult r pos) Q :=
  te_binop (h.mono fun a H₁ h₁ => h₁.mono fun b H₂ h₂ u v eu ev => by
    obtain ⟨x, k, w, rfl, rfl, lx, k0, k1, q⟩ := h₂; cases pv_ref eu; obtain ⟨t', rfl⟩ := pv_int ev
    intro fr s m n S
    obtain ⟨vs, j, hg, e⟩ := S.list lx
    have hl := len_of_map e
    obtain ⟨v', rfl⟩ : ∃ v', vs = [v'] := by
      match vs, hl with
      | [v'], _ => exact ⟨v', rfl⟩
    simp only [List.map_cons, List.map_nil, List.cons.injEq, and_true] at e
    subst e
    refine mul_list S.F S.N (items := #[v']) (k := j) (by simpa [listObj] using hg) (by (first | lia | omega)) (by (first | lia | omega)) ?_ (fun h' F' N' => ⟨_, ⟨⟨h', s.toks, rfl⟩, _, _, S.alloc (p := .list (List.replicate k.toNat (pv v'))) (Nat.le_refl _) F' N' ⟨List.replicate k.toNat v', 0, ?_, by simp⟩⟩, q _ (S.none_of_size (Nat.le_refl _))⟩)
    · show 1 * k.toNat ≤ 2 ^ 24
      (first | lia | omega)
    · simp only [listObj]
      congr 2
      have : ∀ (n : Nat) (acc : Array Value), List.foldl (fun x1 x2 => x1 ++ x2) acc (List.replicate n #[v']) = acc ++ (List.replicate n v').toArray := by
        intro n
        induction n with
        | zero => intro acc; simp
        | succ n ih => intro acc; rw [List.replicate_succ, List.foldl_cons, ih]; apply Array.toList_inj.mp; simp [List.replicate_succ]
      rw [this]; simp)
end

noncomputable def nats (ns : List Nat) : List PV := ns.map fun (n : Nat) => PV.int ((n : Nat) : Int)
noncomputable def intL (zs : List Int) : List PV := zs.map PV.int
theorem map1 {us : List Value} {a : PV} (e : us.map pv = [a]) : ∃ u, us = [u] ∧ pv u = a := by
  cases us with
  | nil => cases e
  | cons u r => cases r with
    | nil => exact ⟨u, rfl, by simpa using e⟩
    | cons v r => simp at e
theorem mapc {us : List Value} {a : PV} {as : List PV} (e : us.map pv = a :: as) : ∃ u r, us = u :: r ∧ pv u = a ∧ r.map pv = as := by
  cases us with
  | nil => cases e
  | cons u r => exact ⟨u, r, rfl, by simpa using e⟩
theorem map2 {us : List Value} {a b : PV} (e : us.map pv = [a, b]) : ∃ u v, us = [u, v] ∧ pv u = a ∧ pv v = b := by
  obtain ⟨u, r, rfl, e1, e⟩ := mapc e; obtain ⟨v, rfl, e2⟩ := map1 e; exact ⟨u, v, rfl, e1, e2⟩
theorem map3 {us : List Value} {a b d : PV} (e : us.map pv = [a, b, d]) : ∃ u v x, us = [u, v, x] ∧ pv u = a ∧ pv v = b ∧ pv x = d := by
  obtain ⟨u, r, rfl, e1, e⟩ := mapc e; obtain ⟨v, x, rfl, e2⟩ := map2 e; exact ⟨u, v, x, rfl, e1, e2⟩

section
variable {G : Glo} {c : Cx} {ℓ : Loc} {H : Hp} {Q : PV → Hp → Prop} {r : Nat} {pos : Pos}

/-- Name of a builtin -/
theorem nameB {x : Str} {pos : Pos} {v : Value} {fr s m news} {R : Value → Shared → Prop} (ok : c.Ok G r) (S : St c ℓ H fr s m news) (e : nsIn G.K mainGlobals x = some none) (hv : bootBuiltins x = some v) (hn : x ≠ "__name__") (h : R v s)
    (hx : c.env.kindOf x = some .globalImplicit) (hd : (x == ("__debug__" : Str)) = false := by decide) : wpAny (model G.prog G.w) c.A (eval (.Name x pos) c.env) R (fun _ _ => False) s :=
  nameX_B S.F ok.X (topRead_of ok.T) e hv hn h ok.k hx hd

/-- an item of a list -/
theorem te_item {value slice : Expr} (h : TE G c ℓ H value fun o H₁ => TE G c ℓ H₁ slice fun i H₂ => ∃ a k xs v, o = .ref a ∧ i = .int k ∧ IsL H₂ a xs ∧ 0 ≤ k ∧ k < 100000 ∧ xs[k.toNat]? = some v ∧ Q v H₂)
    (hs : ∀ l k u, subscripted slice false (.ref l) (.int k u) = operate [.ref l, .int k u] (getItem (.ref l) (.int k u)) := by intros; rfl) : TE G c ℓ H (.Subscript value slice pos) Q := fun fr s m n S =>
  Subscript_ (Tx.seq S h fun u s₁ H₁ m₁ n₁ e₁ S₁ h₁ => Tx.seq S₁ h₁ fun v s₂ H₂ m₂ n₂ e₂ S₂ h₂ => by
    obtain ⟨_, _, rfl⟩ := e₁; obtain ⟨_, _, rfl⟩ := e₂
    obtain ⟨a, k, xs, x, eo, ei, hl, h0, h1, hx, q⟩ := h₂
    cases pv_ref eo; obtain ⟨t, rfl⟩ := pv_int ei
    obtain ⟨vs, j, hg, e⟩ := S₂.list hl
    obtain ⟨v, hv, rfl⟩ := get_of_map e hx
    exact tail_any (isList_of hg).typeIs slot_list_getitem.lookup (wpAny_getItem_list (isList_of hg) h0 (by (first | lia | omega)) (by simpa using hv) ⟨_, ⟨⟨_, _, rfl⟩, _, _, S₂⟩, q⟩) (hs _ _ _))
theorem te_itemN {value slice : Expr} (h : TE G c ℓ H value fun o H₁ => TE G c ℓ H₁ slice fun i H₂ => ∃ a k ns, o = .ref a ∧ i = .int k ∧ IsL H₂ a (nats ns) ∧ 0 ≤ k ∧ k < 100000 ∧ k.toNat < ns.length ∧ Q (.int (ns.getD k.toNat 0 : Nat)) H₂)
    (hs : ∀ l k u, subscripted slice false (.ref l) (.int k u) = operate [.ref l, .int k u] (getItem (.ref l) (.int k u)) := by intros; rfl) : TE G c ℓ H (.Subscript value slice pos) Q :=
  te_item (h.mono fun o H₁ h₁ => h₁.mono fun i H₂ ⟨a, k, ns, e1, e2, hl, h0, h1, h2, q⟩ => ⟨a, k, _, _, e1, e2, hl, h0, h1, by rw [nats, List.getElem?_map, List.getElem?_eq_getElem h2, Option.map_some]; congr 2; simp [List.getD_eq_getElem?_getD, h2], q⟩) hs
/-- the last item -/
theorem te_itemLast {value slice : Expr} (h : TE G c ℓ H value fun o H₁ => TE G c ℓ H₁ slice fun i H₂ => ∃ a xs v, o = .ref a ∧ i = .int (-1) ∧ IsL H₂ a xs ∧ xs.length ≤ 1000 ∧ xs.getLast? = some v ∧ Q v H₂)
    (hs : ∀ l k u, subscripted slice false (.ref l) (.int k u) = operate [.ref l, .int k u] (getItem (.ref l) (.int k u)) := by intros; rfl) : TE G c ℓ H (.Subscript value slice pos) Q := fun fr s m n S =>
  Subscript_ (Tx.seq S h fun u s₁ H₁ m₁ n₁ e₁ S₁ h₁ => Tx.seq S₁ h₁ fun v s₂ H₂ m₂ n₂ e₂ S₂ h₂ => by
    obtain ⟨_, _, rfl⟩ := e₁; obtain ⟨_, _, rfl⟩ := e₂
    obtain ⟨a, xs, x, eo, ei, hl, h1, hx, q⟩ := h₂
    cases pv_ref eo; obtain ⟨t, rfl⟩ := pv_int ei
    obtain ⟨vs, j, hg, e⟩ := S₂.list hl
    have hlen := len_of_map e
    rw [List.getLast?_eq_getElem?] at hx
    obtain ⟨v, hv, rfl⟩ := get_of_map e hx
    have hpos : 0 < xs.length := by
      cases xs with
      | nil => simp at hx
      | cons => simp
    exact tail_any (isList_of hg).typeIs slot_list_getitem.lookup (wpAny_getItem_list_neg (isList_of hg) (by (first | lia | omega)) (by simp; (first | lia | omega)) (by (first | lia | omega)) (x := v) (by
      have : ((-1 : Int) + ((vs.toArray.size : Nat) : Int)).toNat = xs.length - 1 := by simp; (first | lia | omega)
      rw [this]; simpa using hv) ⟨_, ⟨⟨_, _, rfl⟩, _, _, S₂⟩, q⟩) (hs _ _ _))
/-- an item of a tuple -/
theorem te_itemT {value slice : Expr} (h : TE G c ℓ H value fun o H₁ => TE G c ℓ H₁ slice fun i H₂ => ∃ a k xs v, o = .ref a ∧ i = .int k ∧ H₂ a = some (.tup xs) ∧ 0 ≤ k ∧ k < 100000 ∧ xs[k.toNat]? = some v ∧ Q v H₂)
    (hs : ∀ l k u, subscripted slice false (.ref l) (.int k u) = operate [.ref l, .int k u] (getItem (.ref l) (.int k u)) := by intros; rfl) : TE G c ℓ H (.Subscript value slice pos) Q := fun fr s m n S =>
  Subscript_ (Tx.seq S h fun u s₁ H₁ m₁ n₁ e₁ S₁ h₁ => Tx.seq S₁ h₁ fun v s₂ H₂ m₂ n₂ e₂ S₂ h₂ => by
    obtain ⟨_, _, rfl⟩ := e₁; obtain ⟨_, _, rfl⟩ := e₂
    obtain ⟨a, k, xs, x, eo, ei, hl, h0, h1, hx, q⟩ := h₂
    cases pv_ref eo; obtain ⟨t, rfl⟩ := pv_int ei
    obtain ⟨vs, j, hg, e⟩ := S₂.tup hl
    obtain ⟨v, hv, rfl⟩ := get_of_map e hx
    have hlt : k.toNat < vs.length := by
      rcases Nat.lt_or_ge k.toNat vs.length with h | h
      · exact h
      · rw [List.getElem?_eq_none h] at hv; cases hv
    exact item_tupleT (isTup_of hg) (by (first | lia | omega)) (by (first | lia | omega)) (j := k.toNat) (by
      simp only [seqIndex?]
      split <;> first | (simp; (first | lia | omega)) | (exfalso; (first | lia | omega))
      ) hv ⟨_, ⟨⟨_, _, rfl⟩, _, _, S₂⟩, q⟩ (hs _ _ _))

/-- arguments, items of a display -/
noncomputable def TA (G : Glo) (c : Cx) (ℓ : Loc) (H : Hp) (pos : Pos) (es : List Expr) (Q : List PV → Hp → Prop) : Prop := Tx G c ℓ H (spliced (backTo pos (starEach es c.env))) fun vs => Q (vs.map pv)
theorem ta_nil {Q : List PV → Hp → Prop} (h : Q [] H) : TA G c ℓ H pos [] Q := fun fr s m n S => args_nil ⟨H, .refl S, h⟩
theorem ta_cons {e : Expr} {rest : List Expr} {Q : List PV → Hp → Prop} (h : TE G c ℓ H e fun v H₁ => TA G c ℓ H₁ pos rest fun vs H₂ => Q (v :: vs) H₂) (he : starEach (e :: rest) c.env = (false, eval e c.env) :: starEach rest c.env := by rfl) :
    TA G c ℓ H pos (e :: rest) Q := fun fr s m n S =>
  args_cons (Tx.seq S h fun u s₁ H₁ m₁ n₁ e₁ S₁ h₁ => Tx.seq S₁ h₁ fun v s₂ H₂ m₂ n₂ e₂ S₂ h₂ => by
    obtain ⟨_, _, rfl⟩ := e₁; obtain ⟨_, _, rfl⟩ := e₂
    exact ⟨_, ⟨⟨_, _, rfl⟩, _, _, S₂⟩, h₂⟩) he
theorem te_tuple {es : List Expr} {k : Nat} (h : TA G c ℓ H pos es fun vs H₁ => vs.length ≤ 1000 ∧ ∀ a, H₁ a = none → Q (.ref a) (upd H₁ a (.tup vs))) : TE G c ℓ H (.Tuple es k pos) Q := fun fr s m n S =>
  Tuple_ (Tx.seq S h fun vs s₁ H₁ m₁ n₁ e₁ S₁ h₁ => by
    obtain ⟨_, _, rfl⟩ := e₁
    exact newTuple_N S₁.F S₁.N (fun h' F' N' => ⟨_, ⟨⟨h', _, rfl⟩, _, _, S₁.alloc (p := .tup (vs.map pv)) (Nat.le_refl _) F' N' ⟨vs, 0, rfl, rfl⟩⟩, h₁.2 _ (S₁.none_of_size (Nat.le_refl _))⟩) (by
      have := h₁.1; simp only [List.length_map] at this; show _ ≤ 2 ^ 24; (first | lia | omega)))
theorem te_list {es : List Expr} (h : TA G c ℓ H pos es fun vs H₁ => vs.length ≤ 1000 ∧ ∀ a, H₁ a = none → Q (.ref a) (upd H₁ a (.list vs))) : TE G c ℓ H (.List es pos) Q := fun fr s m n S =>
  List_ (Tx.seq S h fun vs s₁ H₁ m₁ n₁ e₁ S₁ h₁ => by
    obtain ⟨_, _, rfl⟩ := e₁
    exact newList_N S₁.F S₁.N (fun h' F' N' => ⟨_, ⟨⟨h', _, rfl⟩, _, _, S₁.alloc (p := .list (vs.map pv)) (Nat.le_refl _) F' N' ⟨vs, 0, rfl, rfl⟩⟩, h₁.2 _ (S₁.none_of_size (Nat.le_refl _))⟩) (by
      have := h₁.1; simp only [List.length_map] at this; show _ ≤ 2 ^ 24; (first | lia | omega)))

/-- a call of a builtin by its name -/
theorem te_callB {x : Str} {id : String} {np : Pos} {e : Expr} {rest : List Expr} (ok : c.Ok G r) (hb : nsIn G.K mainGlobals x = some none) (hv : bootBuiltins x = some (.builtin id)) (hn : x ≠ "__name__") (hx : c.env.kindOf x = some .globalImplicit) (hd : (x == ("__debug__" : Str)) = false)
    (h : TA G c ℓ H pos (e :: rest) fun vs H₁ => ∀ us, us.map pv = vs → Vx G c ℓ H₁ (call (.builtin id) us) Q) (he : starEach (e :: rest) c.env = (false, eval e c.env) :: starEach rest c.env := by rfl)
    (hplain : (backTo pos (starEach rest c.env)).any (·.1) = false := by rfl) :
    TE G c ℓ H (.Call (.Name x np) (e :: rest) [] pos) Q := fun fr s m n S =>
  Call_ (nameB ok S hb hv hn (by
    exact callWith_builtin1 (Tx.seq S h fun us s₁ H₁ m₁ n₁ e₁ S₁ h₁ => by
      obtain ⟨_, _, rfl⟩ := e₁
      exact Tx.seq S₁ (h₁ us rfl) fun v s₂ H₂ m₂ n₂ e₂ S₂ h₂ => by
        obtain ⟨_, _, rfl⟩ := e₂
        exact ⟨_, ⟨⟨_, _, rfl⟩, _, _, S₂⟩, h₂⟩) he hplain) hx hd)
theorem te_len {np : Pos} {e : Expr} (ok : c.Ok G r) (hb : nsIn G.K mainGlobals "len" = some none) (hx : c.env.kindOf "len" = some .globalImplicit)
    (h : TE G c ℓ H e fun v H₁ => ∃ a xs, v = .ref a ∧ IsL H₁ a xs ∧ xs.length ≤ 1000 ∧ Q (.int xs.length) H₁) (he : starEach [e] c.env = [(false, eval e c.env)] := by rfl) :
    TE G c ℓ H (.Call (.Name "len" np) [e] [] pos) Q :=
  te_callB ok hb (by boot_fast) (by decide) hx (by decide) (ta_cons (h.mono fun v H₁ h₁ => ta_nil fun us eu => by
    obtain ⟨a, xs, rfl, hl, hz, q⟩ := h₁
    obtain ⟨u, rfl, e1⟩ := map1 eu
    cases pv_ref e1
    intro fr s m n S
    obtain ⟨vs, j, hg, e⟩ := S.list hl
    have hlen := len_of_map e
    refine call_len_list (isList_of hg) (by simp; (first | lia | omega)) ?_
    refine ⟨_, ⟨⟨_, _, rfl⟩, _, _, S.toks _⟩, ?_⟩
    simp only [List.size_toArray, hlen, pv]
    exact q) he) he rfl
theorem te_lenN {np : Pos} {e : Expr} (ok : c.Ok G r) (hb : nsIn G.K mainGlobals "len" = some none) (hx : c.env.kindOf "len" = some .globalImplicit)
    (h : TE G c ℓ H e fun v H₁ => ∃ a ns, v = .ref a ∧ IsL H₁ a (nats ns) ∧ ns.length ≤ 1000 ∧ Q (.int (ns.length : Nat)) H₁) (he : starEach [e] c.env = [(false, eval e c.env)] := by rfl) :
    TE G c ℓ H (.Call (.Name "len" np) [e] [] pos) Q :=
  te_len ok hb hx (h.mono fun v H₁ ⟨a, ns, e, hl, hz, q⟩ => ⟨a, _, e, hl, by simpa [nats] using hz, by simpa [nats] using q⟩) he
theorem te_lenZ {np : Pos} {e : Expr} (ok : c.Ok G r) (hb : nsIn G.K mainGlobals "len" = some none) (hx : c.env.kindOf "len" = some .globalImplicit)
    (h : TE G c ℓ H e fun v H₁ => ∃ a ns, v = .ref a ∧ IsL H₁ a (intL ns) ∧ ns.length ≤ 1000 ∧ Q (.int (ns.length : Nat)) H₁) (he : starEach [e] c.env = [(false, eval e c.env)] := by rfl) :
    TE G c ℓ H (.Call (.Name "len" np) [e] [] pos) Q :=
  te_len ok hb hx (h.mono fun v H₁ ⟨a, ns, e, hl, hz, q⟩ => ⟨a, _, e, hl, by simpa [intL] using hz, by simpa [intL] using q⟩) he
end

/-- xs[lo:hi] -/
noncomputable def pickL (xs : List PV) (lo hi : Option Int) : List PV :=
  (xs.drop (sliceBounds lo hi none xs.length).1.toNat).take ((sliceBounds lo hi none xs.length).2.1.toNat - (sliceBounds lo hi none xs.length).1.toNat)
theorem pick_map (vs : List Value) (lo hi : Option Int) : (slicePick vs.toArray lo hi none).toList.map pv = pickL (vs.map pv) lo hi := by
  have hb : sliceBounds lo hi none vs.toArray.size = (((sliceBounds lo hi none vs.length).1.toNat : Int), ((sliceBounds lo hi none vs.length).2.1.toNat : Int), 1) := by
    rw [List.size_toArray]
    simp only [sliceBounds, Option.getD_none, show (1 : Int) > 0 by decide, if_true]
    congr 1
    · cases lo <;> simp <;> (first | lia | omega)
    · congr 1
      cases hi <;> simp <;> (first | lia | omega)
  rw [kmk_pick_nat _ hb]
  simp only [pickL, List.length_map, List.map_take, List.map_drop]
theorem pick_upto (xs : List PV) {y : Int} (h : 0 ≤ y) : pickL xs none (some y) = xs.take y.toNat := by
  have e : sliceBounds none (some y) none xs.length = (0, ((min y.toNat xs.length : Nat) : Int), 1) := by
    simp only [sliceBounds, Option.getD_none, show (1 : Int) > 0 by decide, if_true, if_neg (show ¬ (y < 0) by (first | lia | omega))]
    congr 1
    congr 1
    (first | lia | omega)
  unfold pickL
  rw [e]
  simp only [Int.toNat_natCast, Int.toNat_zero, List.drop_zero, Nat.sub_zero]
  exact kmk_take_min _ _
theorem pick_all (xs : List PV) : pickL xs none none = xs := by
  simp [pickL, sliceBounds]
theorem pick_run (xs : List PV) {x y : Int} (h : 0 ≤ x) (h2 : 0 ≤ y) (h3 : y ≤ xs.length) (h4 : x ≤ y) : pickL xs (some x) (some y) = (xs.drop x.toNat).take (y.toNat - x.toNat) := by
  have e : sliceBounds (some x) (some y) none xs.length = ((x.toNat : Int), (y.toNat : Int), 1) := by
    simp only [sliceBounds, Option.getD_none, show (1 : Int) > 0 by decide, if_true, if_neg (show ¬ (x < 0) by (first | lia | omega)), if_neg (show ¬ (y < 0) by (first | lia | omega))]
    congr 1
    · (first | lia | omega)
    · congr 1
      (first | lia | omega)
  unfold pickL
  rw [e]
  simp only [Int.toNat_natCast]

section
variable {G : Glo} {c : Cx} {ℓ : Loc} {H : Hp} {Q : PV → Hp → Prop} {r : Nat} {pos : Pos}

/-- an end of a slice -/
noncomputable def TP (G : Glo) (c : Cx) (ℓ : Loc) (H : Hp) (x : Option Expr) (Q : Option Int → Hp → Prop) : Prop := Tx G c ℓ H (evalPart x c.env) fun v H' => ∃ k, IsPart v k ∧ Q k H'
theorem tp_none {Q : Option Int → Hp → Prop} (h : Q none H) : TP G c ℓ H none Q := fun fr s m n S => wpAny_pure ⟨H, .refl S, _, .none, h⟩
theorem tp_some {e : Expr} {Q : Option Int → Hp → Prop} (h : TE G c ℓ H e fun v H₁ => ∃ k, v = .int k ∧ Q (some k) H₁) : TP G c ℓ H (some e) Q :=
  Tx.mono h fun v H₁ ⟨k, e, q⟩ => by obtain ⟨t, rfl⟩ := pv_int e; exact ⟨_, .int k t, q⟩

theorem te_slice {value : Expr} {lower upper : Option Expr} {sp : Pos} (h : TE G c ℓ H value fun o H₁ => TP G c ℓ H₁ lower fun lo H₂ => TP G c ℓ H₂ upper fun hi H₃ => ∃ a xs, o = .ref a ∧ IsL H₃ a xs ∧ xs.length ≤ 1000 ∧ ∀ d, H₃ d = none → Q (.ref d) (upd H₃ d (.list (pickL xs lo hi)))) :
    TE G c ℓ H (.Subscript value (.Slice lower upper none sp) pos) Q := fun fr s m n S =>
  Subscript_ (Tx.seq S h fun u s₁ H₁ m₁ n₁ e₁ S₁ h₁ => wpAny_Slice (Tx.seq S₁ h₁ fun vl s₂ H₂ m₂ n₂ e₂ S₂ h₂ => by
    obtain ⟨lo, pl, h₂⟩ := h₂
    refine Tx.seq S₂ h₂ fun vu s₃ H₃ m₃ n₃ e₃ S₃ h₃ => ?_
    obtain ⟨hi, pu, h₃⟩ := h₃
    obtain ⟨_, _, rfl⟩ := e₁; obtain ⟨_, _, rfl⟩ := e₂; obtain ⟨_, _, rfl⟩ := e₃
    obtain ⟨a, xs, eo, hl, hz, q⟩ := h₃
    cases pv_ref eo
    obtain ⟨vs, j, hg, e⟩ := S₃.list hl
    have hlen := len_of_map e
    refine wpAny_pure ?_
    refine tail_any (ops := [.ref _, .ref a]) (T := "list") ⟨_, Heap.get?_push_of_some _ hg, rfl⟩ list_getitem_lookup ?_ rfl
    refine wpAny_getItem_list_slice ((isList_of hg).push _) (Heap.IsSliceOf.new ..) pl pu .none (by simp) ?_ (by
      rw [List.size_toArray, hlen]; show _ ≤ 2 ^ 24; (first | lia | omega))
    have N1 := News.push (S₃.F.push { cls := .type "slice", data := .fields #[vl, vu, .none] }) (S₃.N.grown fun _ _ e => Heap.get?_push_of_some _ e) { cls := .type "list", data := .seq (slicePick vs.toArray lo hi none) }
    refine ⟨_, ⟨⟨_, _, rfl⟩, _, _, S₃.alloc (p := .list (pickL xs lo hi)) ?_ ((S₃.F.push _).push _) N1 ⟨(slicePick vs.toArray lo hi none).toList, 0, ?_, ?_⟩⟩, q _ (S₃.none_of_size ?_)⟩
    · rw [Heap.size_push]; exact Nat.le_succ _
    · simp [listObj]
    · subst e; exact pick_map _ _ _
    · rw [Heap.size_push]; exact Nat.le_succ _))

theorem te_sliceRev {value st : Expr} {sp : Pos} (h : TE G c ℓ H value fun o H₁ => TE G c ℓ H₁ st fun v H₃ => ∃ a xs, o = .ref a ∧ v = .int (-1) ∧ IsL H₃ a xs ∧ xs.length ≤ 1000 ∧ ∀ d, H₃ d = none → Q (.ref d) (upd H₃ d (.list xs.reverse))) :
    TE G c ℓ H (.Subscript value (.Slice none none (some st) sp) pos) Q := fun fr s m n S =>
  Subscript_ (Tx.seq S h fun u s₁ H₁ m₁ n₁ e₁ S₁ h₁ => wpAny_Slice (wpAny_pure (wpAny_pure (Tx.seq S₁ h₁ fun vs' s₃ H₃ m₃ n₃ e₃ S₃ h₃ => by
    obtain ⟨_, _, rfl⟩ := e₁; obtain ⟨_, _, rfl⟩ := e₃
    obtain ⟨a, xs, eo, es, hl, hz, q⟩ := h₃
    cases pv_ref eo; obtain ⟨t, rfl⟩ := pv_int es
    obtain ⟨vs, j, hg, e⟩ := S₃.list hl
    have hlen := len_of_map e
    refine tail_any (ops := [.ref a, .ref _]) (T := "list") ⟨_, Heap.get?_push_of_some _ hg, rfl⟩ list_getitem_lookup ?_ rfl
    refine wpAny_getItem_list_slice ((isList_of hg).push _) (Heap.IsSliceOf.new ..) .none .none (.int (-1) t) (by decide) ?_ (by
      rw [List.size_toArray, hlen]; show _ ≤ 2 ^ 24; (first | lia | omega))
    have N1 := News.push (S₃.F.push { cls := .type "slice", data := .fields #[.none, .none, .int (-1) t] }) (S₃.N.grown fun _ _ e => Heap.get?_push_of_some _ e) { cls := .type "list", data := .seq (slicePick vs.toArray none none (some (-1))) }
    refine ⟨_, ⟨⟨_, _, rfl⟩, _, _, S₃.alloc (p := .list xs.reverse) ?_ ((S₃.F.push _).push _) N1 ⟨vs.reverse, 0, ?_, ?_⟩⟩, q _ (S₃.none_of_size ?_)⟩
    · rw [Heap.size_push]; exact Nat.le_succ _
    · rw [krv_pick]; rfl
    · subst e; simp
    · rw [Heap.size_push]; exact Nat.le_succ _))))

/-- a call of a def -/
noncomputable def FC (G : Glo) (c : Cx) (ℓ : Loc) (H : Hp) (f : Addr) (args : List PV) (Q : PV → Hp → Prop) : Prop := ∀ vs, vs.map pv = args → Vx G c ℓ H (call (.ref f) vs) Q
theorem FC.mono {f : Addr} {args : List PV} {Q' : PV → Hp → Prop} (h : FC G c ℓ H f args Q) (q : ∀ a H', Q a H' → Q' a H') : FC G c ℓ H f args Q' := fun vs e => Tx.mono (h vs e) fun _ _ => q _ _

theorem te_call {x : Str} {np : Pos} {fa : Addr} {e : Expr} {rest : List Expr} (ok : c.Ok G r) (hk : keepIn G.K (.ref fa) = true)
    (h : TE G c ℓ H (.Name x np) fun v H₁ => v = .ref fa ∧ TA G c ℓ H₁ pos (e :: rest) fun vs H₂ => FC G c ℓ H₂ fa vs Q)
    (he : starEach (e :: rest) c.env = (false, eval e c.env) :: starEach rest c.env := by rfl) (hplain : (backTo pos (starEach rest c.env)).any (·.1) = false := by rfl) :
    TE G c ℓ H (.Call (.Name x np) (e :: rest) [] pos) Q := fun fr s m n S =>
  Call_ (Tx.seq S h fun f s₁ H₁ m₁ n₁ e₁ S₁ h₁ => by
    obtain ⟨ef, h₁⟩ := h₁
    cases pv_ref ef
    obtain ⟨_, _, rfl⟩ := e₁
    refine callWith_K ok.X hk (Tx.seq S₁ h₁ fun vs s₂ H₂ m₂ n₂ e₂ S₂ h₂ => ⟨ok.X.keeps S₂.F.keep, Tx.seq S₂ (h₂ vs rfl) fun v s₃ H₃ m₃ n₃ e₃ S₃ h₃ => ?_⟩) he hplain
    obtain ⟨_, _, rfl⟩ := e₂; obtain ⟨_, _, rfl⟩ := e₃
    exact ⟨_, ⟨⟨_, _, rfl⟩, _, _, S₃⟩, h₃⟩)

theorem te_min {np : Pos} {e e' : Expr} (ok : c.Ok G r) (hb : nsIn G.K mainGlobals "min" = some none) (hx : c.env.kindOf "min" = some .globalImplicit)
    (h : TE G c ℓ H e fun a H₁ => TE G c ℓ H₁ e' fun b H₂ => ∃ x y, a = .int x ∧ b = .int y ∧ Q (.int (if y < x then y else x)) H₂)
    (he : starEach [e, e'] c.env = [(false, eval e c.env), (false, eval e' c.env)] := by rfl) (he' : starEach [e'] c.env = [(false, eval e' c.env)] := by rfl) :
    TE G c ℓ H (.Call (.Name "min" np) [e, e'] [] pos) Q :=
  te_callB ok hb (by boot_fast) (by decide) hx (by decide) (ta_cons (h.mono fun v H₁ h₁ => ta_cons (h₁.mono fun v' H₂ h₂ => ta_nil fun us eu => by
    obtain ⟨x, y, rfl, rfl, q⟩ := h₂
    obtain ⟨u, u', rfl, e1, e2⟩ := map2 eu
    obtain ⟨t, rfl⟩ := pv_int e1; obtain ⟨t', rfl⟩ := pv_int e2
    intro fr s m n S
    exact min_two_N rfl S.F S.N fun h' tk F' N' => ⟨_, ⟨⟨_, _, rfl⟩, _, _, S.grown F' N'⟩, q⟩) he') (by rw [he, he'])) (by rw [he, he']) (by rw [he']; rfl)
theorem te_abs {np : Pos} {e : Expr} (ok : c.Ok G r) (hb : nsIn G.K mainGlobals "abs" = some none) (hx : c.env.kindOf "abs" = some .globalImplicit)
    (h : TE G c ℓ H e fun a H₁ => ∃ x, a = .int x ∧ Q (.int (if x < 0 then -x else x)) H₁)
    (he : starEach [e] c.env = [(false, eval e c.env)] := by rfl) :
    TE G c ℓ H (.Call (.Name "abs" np) [e] [] pos) Q :=
  te_callB ok hb (by boot_fast) (by decide) hx (by decide) (ta_cons (h.mono fun v H₁ h₁ => ta_nil fun us eu => by
    obtain ⟨x, rfl, q⟩ := h₁
    obtain ⟨u, rfl, e1⟩ := map1 eu
    obtain ⟨t, rfl⟩ := pv_int e1
    intro fr s m n S
    exact call_abs_int fun u tk => ⟨_, ⟨⟨_, _, rfl⟩, _, _, S.toks _⟩, q⟩) he) he rfl
/-- a.bit_length() -/
theorem te_bits {e : Expr} {ap : Pos} (h : TE G c ℓ H e fun a H₁ => ∃ x, a = .int x ∧ Q (.int (Builtin.Int.intBits x)) H₁)
    (he : ∀ (env : Env), eval (.Call (.Attribute e (Str.ofString "bit_length") ap) [] [] pos) env = (do
      let ov ← eval e env
      standAt ap.atName
      let (f, first) ← holding [ov] (getMethod ov (Str.ofString "bit_length") (pure false))
      callWith pos f first (backTo pos (starEach [] env)) []) := by intro _; rfl) :
    TE G c ℓ H (.Call (.Attribute e (Str.ofString "bit_length") ap) [] [] pos) Q := fun fr s m n S =>
  MethodCall_ (Tx.seq S h fun u s₁ H₁ m₁ n₁ e₁ S₁ h₁ => by
    obtain ⟨x, eu, q⟩ := h₁
    obtain ⟨t, rfl⟩ := pv_int eu
    obtain ⟨_, _, rfl⟩ := e₁
    exact getMethod_int_bit_length (callWith_method0 (call_int_bit_length ⟨_, ⟨⟨_, _, rfl⟩, _, _, S₁.toks _⟩, q⟩))) (he _)

/-- the truth of a test -/
noncomputable def TT (G : Glo) (c : Cx) (ℓ : Loc) (H : Hp) (e : Expr) (Q : Bool → Hp → Prop) : Prop := Tx G c ℓ H (isTrue e c.env (eval e c.env)) Q
theorem TT.mono {e : Expr} {Q Q' : Bool → Hp → Prop} (h : TT G c ℓ H e Q) (q : ∀ a H', Q a H' → Q' a H') : TT G c ℓ H e Q' := Tx.mono h q

noncomputable def cmpI (op : CmpOp) (x y : Int) : Bool := match op with
  | .Eq => x == y
  | .NotEq => x != y
  | .Lt => decide (x < y)
  | .LtE => decide (x ≤ y)
  | .Gt => decide (y < x)
  | .GtE => decide (y ≤ x)
  | _ => false
noncomputable def ordOp (op : CmpOp) : Bool := match op with
  | .Eq | .NotEq | .Lt | .LtE | .Gt | .GtE => true
  | _ => false
set_option maxHeartbeats 2000000 in
theorem cmp_int {op : CmpOp} (ho : ordOp op = true) {x y : Int} {t u : Tok} {prog : Program} {w : World} {A : Around} {E : Value → Shared → Prop} {s : Shared} {R : Value → Shared → Prop} (h : R (.bool (cmpI op x y)) s) :
    wpAny (model prog w) A (compareOp op (.int x t) (.int y u)) R E s := by
  cases op with
  | Eq => exact eq_int h
  | NotEq => exact ne_int h
  | Lt => exact lt_int h
  | LtE => exact le_int h
  | Gt => exact gt_int h
  | GtE => exact ge_int h
  | _ => cases ho
theorem tt_cmp {l rr : Expr} {op : CmpOp} {Q : Bool → Hp → Prop} (ho : ordOp op = true) (h : TE G c ℓ H l fun a H₁ => TE G c ℓ H₁ rr fun b H₂ => ∃ x y, a = .int x ∧ b = .int y ∧ Q (cmpI op x y) H₂)
    (hm : behindInMarks op rr = false := by rfl) : TT G c ℓ H (.Compare l [op] [rr] pos) Q := fun fr s m n S =>
  wpAny_isTrue_Compare1 (Tx.seq S h fun u s₁ H₁ m₁ n₁ e₁ S₁ h₁ => Tx.seq S₁ h₁ fun v s₂ H₂ m₂ n₂ e₂ S₂ h₂ => by
    obtain ⟨_, _, rfl⟩ := e₁; obtain ⟨_, _, rfl⟩ := e₂
    obtain ⟨x, y, e1, e2, q⟩ := h₂
    obtain ⟨t, rfl⟩ := pv_int e1; obtain ⟨t', rfl⟩ := pv_int e2
    exact cmp_int ho (wpAny_truthy_bool ⟨_, ⟨⟨_, _, rfl⟩, _, _, S₂⟩, q⟩)) hm
theorem te_cmp {l rr : Expr} {op : CmpOp} (ho : ordOp op = true) (h : TE G c ℓ H l fun a H₁ => TE G c ℓ H₁ rr fun b H₂ => ∃ x y, a = .int x ∧ b = .int y ∧ Q (.bool (cmpI op x y)) H₂)
    (hm : behindInMarks op rr = false := by rfl) : TE G c ℓ H (.Compare l [op] [rr] pos) Q := fun fr s m n S =>
  wpAny_Compare1 (Tx.seq S h fun u s₁ H₁ m₁ n₁ e₁ S₁ h₁ => Tx.seq S₁ h₁ fun v s₂ H₂ m₂ n₂ e₂ S₂ h₂ => by
    obtain ⟨_, _, rfl⟩ := e₁; obtain ⟨_, _, rfl⟩ := e₂
    obtain ⟨x, y, e1, e2, q⟩ := h₂
    obtain ⟨t, rfl⟩ := pv_int e1; obtain ⟨t', rfl⟩ := pv_int e2
    exact cmp_int ho ⟨_, ⟨⟨_, _, rfl⟩, _, _, S₂⟩, q⟩) hm
theorem tt_eqB {l rr : Expr} {Q : Bool → Hp → Prop} (h : TE G c ℓ H l fun a H₁ => TE G c ℓ H₁ rr fun b H₂ => ∃ x y, a = .bool x ∧ b = .bool y ∧ Q (x == y) H₂)
    (hm : behindInMarks .Eq rr = false := by rfl) : TT G c ℓ H (.Compare l [.Eq] [rr] pos) Q := fun fr s m n S =>
  wpAny_isTrue_Compare1 (Tx.seq S h fun u s₁ H₁ m₁ n₁ e₁ S₁ h₁ => Tx.seq S₁ h₁ fun v s₂ H₂ m₂ n₂ e₂ S₂ h₂ => by
    obtain ⟨_, _, rfl⟩ := e₁; obtain ⟨_, _, rfl⟩ := e₂
    obtain ⟨x, y, e1, e2, q⟩ := h₂
    cases pv_bool e1; cases pv_bool e2
    exact eq_bool (wpAny_truthy_bool ⟨_, ⟨⟨_, _, rfl⟩, _, _, S₂⟩, q⟩)) hm
theorem tt_neB {l rr : Expr} {Q : Bool → Hp → Prop} (h : TE G c ℓ H l fun a H₁ => TE G c ℓ H₁ rr fun b H₂ => ∃ x y, a = .bool x ∧ b = .bool y ∧ Q (x != y) H₂)
    (hm : behindInMarks .NotEq rr = false := by rfl) : TT G c ℓ H (.Compare l [.NotEq] [rr] pos) Q := fun fr s m n S =>
  wpAny_isTrue_Compare1 (Tx.seq S h fun u s₁ H₁ m₁ n₁ e₁ S₁ h₁ => Tx.seq S₁ h₁ fun v s₂ H₂ m₂ n₂ e₂ S₂ h₂ => by
    obtain ⟨_, _, rfl⟩ := e₁; obtain ⟨_, _, rfl⟩ := e₂
    obtain ⟨x, y, e1, e2, q⟩ := h₂
    cases pv_bool e1; cases pv_bool e2
    exact ne_bool (wpAny_truthy_bool ⟨_, ⟨⟨_, _, rfl⟩, _, _, S₂⟩, q⟩)) hm
theorem te_neB {l rr : Expr} (h : TE G c ℓ H l fun a H₁ => TE G c ℓ H₁ rr fun b H₂ => ∃ x y, a = .bool x ∧ b = .bool y ∧ Q (.bool (x != y)) H₂)
    (hm : behindInMarks .NotEq rr = false := by rfl) : TE G c ℓ H (.Compare l [.NotEq] [rr] pos) Q := fun fr s m n S =>
  wpAny_Compare1 (Tx.seq S h fun u s₁ H₁ m₁ n₁ e₁ S₁ h₁ => Tx.seq S₁ h₁ fun v s₂ H₂ m₂ n₂ e₂ S₂ h₂ => by
    obtain ⟨_, _, rfl⟩ := e₁; obtain ⟨_, _, rfl⟩ := e₂
    obtain ⟨x, y, e1, e2, q⟩ := h₂
    cases pv_bool e1; cases pv_bool e2
    exact ne_bool ⟨_, ⟨⟨_, _, rfl⟩, _, _, S₂⟩, q⟩) hm
/-- and, or of two tests -/
theorem tt_and {x y : Expr} {Q : Bool → Hp → Prop} (h : TT G c ℓ H x fun b H₁ => if b then TT G c ℓ H₁ y Q else Q false H₁) : TT G c ℓ H (.BoolOp .And [x, y] pos) Q := fun fr s m n S =>
  isTrue_and (Tx.seq S h fun b s₁ H₁ m₁ n₁ e₁ S₁ h₁ => by
    obtain ⟨_, _, rfl⟩ := e₁
    cases b with
    | false => exact ⟨_, ⟨⟨_, _, rfl⟩, _, _, S₁⟩, h₁⟩
    | true => exact isTrue_and (Tx.seq S₁ h₁ fun b' s₂ H₂ m₂ n₂ e₂ S₂ h₂ => by
        obtain ⟨_, _, rfl⟩ := e₂
        cases b' with
        | false => exact ⟨_, ⟨⟨_, _, rfl⟩, _, _, S₂⟩, h₂⟩
        | true => exact isTrue_and_nil ⟨_, ⟨⟨_, _, rfl⟩, _, _, S₂⟩, h₂⟩))
theorem tt_or {x y : Expr} {Q : Bool → Hp → Prop} (h : TT G c ℓ H x fun b H₁ => if b then Q true H₁ else TT G c ℓ H₁ y Q) : TT G c ℓ H (.BoolOp .Or [x, y] pos) Q := fun fr s m n S =>
  isTrue_or (Tx.seq S h fun b s₁ H₁ m₁ n₁ e₁ S₁ h₁ => by
    obtain ⟨_, _, rfl⟩ := e₁
    cases b with
    | true => exact ⟨_, ⟨⟨_, _, rfl⟩, _, _, S₁⟩, h₁⟩
    | false => exact isTrue_or (Tx.seq S₁ h₁ fun b' s₂ H₂ m₂ n₂ e₂ S₂ h₂ => by
        obtain ⟨_, _, rfl⟩ := e₂
        cases b' with
        | true => exact ⟨_, ⟨⟨_, _, rfl⟩, _, _, S₂⟩, h₂⟩
        | false => exact isTrue_or_nil ⟨_, ⟨⟨_, _, rfl⟩, _, _, S₂⟩, h₂⟩))
/-- a bool -/
theorem tt_bool {e : Expr} {Q : Bool → Hp → Prop} (h : TE G c ℓ H e fun v H₁ => ∃ b, v = .bool b ∧ Q b H₁) (he : ∀ env whole, isTrue e env whole = (do let v ← whole; standAt e.pos; holding [v] (truthy v)) := by intros; rfl) : TT G c ℓ H e Q := fun fr s m n S =>
  isTrue_plain (Tx.seq S h fun v s₁ H₁ m₁ n₁ e₁ S₁ h₁ => by
    obtain ⟨_, _, rfl⟩ := e₁
    obtain ⟨b, ev, q⟩ := h₁
    cases pv_bool ev
    exact wpAny_truthy_bool ⟨_, ⟨⟨_, _, rfl⟩, _, _, S₁⟩, q⟩) (he _ _)
theorem te_ifexp {t a b : Expr} (h : TT G c ℓ H t fun v H₁ => if v then TE G c ℓ H₁ a Q else TE G c ℓ H₁ b Q) : TE G c ℓ H (.IfExp t a b pos) Q := fun fr s m n S =>
  IfExp_ (Tx.seq S h fun v s₁ H₁ m₁ n₁ e₁ S₁ h₁ => by
    obtain ⟨_, _, rfl⟩ := e₁
    cases v with
    | true => exact Tx.seq S₁ h₁ fun v s₂ H₂ m₂ n₂ e₂ S₂ h₂ => by obtain ⟨_, _, rfl⟩ := e₂; exact ⟨_, ⟨⟨_, _, rfl⟩, _, _, S₂⟩, h₂⟩
    | false => exact Tx.seq S₁ h₁ fun v s₂ H₂ m₂ n₂ e₂ S₂ h₂ => by obtain ⟨_, _, rfl⟩ := e₂; exact ⟨_, ⟨⟨_, _, rfl⟩, _, _, S₂⟩, h₂⟩)
/-- the value of «x and y», both bools -/
theorem te_andB {x y : Expr} (h : TE G c ℓ H x fun v H₁ => ∃ b, v = .bool b ∧ if b then TE G c ℓ H₁ y Q else Q (.bool false) H₁) : TE G c ℓ H (.BoolOp .And [x, y] pos) Q := fun fr s m n S =>
  BoolOp_and (Tx.seq S h fun v s₁ H₁ m₁ n₁ e₁ S₁ h₁ => by
    obtain ⟨_, _, rfl⟩ := e₁
    obtain ⟨b, ev, q⟩ := h₁
    cases pv_bool ev
    refine wpAny_truthy_bool ?_
    cases b with
    | true => exact BoolOp_one (Tx.seq S₁ q fun v s₂ H₂ m₂ n₂ e₂ S₂ h₂ => by obtain ⟨_, _, rfl⟩ := e₂; exact ⟨_, ⟨⟨_, _, rfl⟩, _, _, S₂⟩, h₂⟩)
    | false => exact ⟨_, ⟨⟨_, _, rfl⟩, _, _, S₁⟩, q⟩)
end

inductive PF where
  | next | brk | cont
  | ret (v : PV)
noncomputable def pf : Flow → PF
  | .next => .next
  | .brk => .brk
  | .cont => .cont
  | .ret v => .ret (pv v)

/-- statements -/
noncomputable def TS (G : Glo) (c : Cx) (ℓ : Loc) (H : Hp) (ss : List Stmt) (Q : PF → Loc → Hp → Prop) : Prop :=
  ∀ fr s m news, St c ℓ H fr s m news → wpAny (model G.prog G.w) c.A (execs ss c.env) (fun f s' => ∃ ℓ' H', Out c ℓ' H' fr s s' ∧ Q (pf f) ℓ' H') (fun _ _ => False) s
noncomputable def T1 (G : Glo) (c : Cx) (ℓ : Loc) (H : Hp) (st : Stmt) (Q : PF → Loc → Hp → Prop) : Prop :=
  ∀ fr s m news, St c ℓ H fr s m news → wpAny (model G.prog G.w) c.A (exec st c.env) (fun f s' => ∃ ℓ' H', Out c ℓ' H' fr s s' ∧ Q (pf f) ℓ' H') (fun _ _ => False) s
/-- the tree that stores -/
noncomputable def TU (G : Glo) (c : Cx) (ℓ : Loc) (H : Hp) (t : Sem Unit) (Q : Loc → Hp → Prop) : Prop :=
  ∀ fr s m news, St c ℓ H fr s m news → wpAny (model G.prog G.w) c.A t (fun _ s' => ∃ ℓ' H', Out c ℓ' H' fr s s' ∧ Q ℓ' H') (fun _ _ => False) s

noncomputable def Then (G : Glo) (c : Cx) (rest : List Stmt) (Q : PF → Loc → Hp → Prop) : PF → Loc → Hp → Prop
  | .next, ℓ, H => TS G c ℓ H rest Q
  | f, ℓ, H => Q f ℓ H

section
variable {G : Glo} {c : Cx} {ℓ : Loc} {H : Hp} {Q : PF → Loc → Hp → Prop} {r : Nat} {pos : Pos} {rest : List Stmt}
theorem ts_nil (h : Q .next ℓ H) : TS G c ℓ H [] Q := fun fr s m n S => wpAny_execs_nil ⟨ℓ, H, .refl S, h⟩
theorem ts_cons {st : Stmt} (h : T1 G c ℓ H st (Then G c rest Q)) : TS G c ℓ H (st :: rest) Q := fun fr s m n S =>
  wpAny_execs_cons (wpAny_mono (h fr s m n S) (fun f s' ⟨ℓ', H', o, x⟩ => by
    cases f with
    | next =>
      obtain ⟨⟨_, _, rfl⟩, m', n', S'⟩ := id o
      exact wpAny_mono (x fr _ m' n' S') (fun f s'' ⟨ℓ'', H'', o', y⟩ => ⟨ℓ'', H'', o.trans o', y⟩) fun _ _ x => x
    | brk => exact ⟨ℓ', H', o, x⟩
    | cont => exact ⟨ℓ', H', o, x⟩
    | ret v => exact ⟨ℓ', H', o, x⟩) fun _ _ x => x)
theorem ts_then {ℓ' : Loc} {H' : Hp} (h : TS G c ℓ' H' rest Q) : Then G c rest Q .next ℓ' H' := h
theorem St.weaken {ℓ ℓ' : Loc} {H : Hp} {fr s m news} (S : St c ℓ H fr s m news) (h : ∀ x p, ℓ'.lookup x = some p → ℓ.lookup x = some p) : St c ℓ' H fr s m news := ⟨S.F, S.N, fun x p e => S.l x p (h x p e), S.h, S.bs, S.fs, S.ap⟩
theorem St.lessH {ℓ : Loc} {H H' : Hp} {fr s m news} (S : St c ℓ H fr s m news) (h : Le H' H) : St c ℓ H' fr s m news := ⟨S.F, S.N, S.l, fun a p e => S.h a p (h a p e), S.bs, S.fs, fun q hq => by
  rcases S.ap q hq with z | ⟨xs, z⟩
  · cases e : H' q.1 with
    | none => exact .inl rfl
    | some p => have := h _ _ e; rw [z] at this; cases this
  · cases e : H' q.1 with
    | none => exact .inl rfl
    | some p => have := h _ _ e; rw [z] at this; cases this; exact .inr ⟨xs, rfl⟩⟩
noncomputable def SubL : List (Str × PV) → Loc → Prop
  | [], _ => True
  | p :: r, ℓ => ℓ.lookup p.1 = some p.2 ∧ SubL r ℓ
theorem SubL.to : ∀ {a b : Loc}, SubL a b → ∀ x p, a.lookup x = some p → b.lookup x = some p
  | [], _, _, x, p, e => by cases e
  | (y, v) :: r, b, ⟨h, hr⟩, x, p, e => by
    rw [List.lookup_cons] at e
    cases hx : x == y with
    | true => rw [hx] at e; cases e; rw [beq_iff_eq.mp hx]; exact h
    | false => rw [hx] at e; exact hr.to x p e
theorem ts_weaken {ss : List Stmt} {ℓ' : Loc} (h : TS G c ℓ' H ss Q) (hs : SubL ℓ' ℓ) : TS G c ℓ H ss Q := fun fr s m n S => h fr s m n (S.weaken hs.to)
theorem ts_weakenC {ss : List Stmt} {ℓ' : Loc} {x : Str} {v : PV} (h : TS G c ((x, v) :: ℓ') H ss Q) (hs : SubL ℓ' ℓ) : TS G c ((x, v) :: ℓ) H ss Q := fun fr s m n S => h fr s m n (S.weaken fun y p e => by
  rw [List.lookup_cons] at e ⊢
  cases hx : y == x with
  | true => rw [hx] at e; exact e
  | false => rw [hx] at e; exact hs.to y p e)
theorem ts_return {e : Expr} (h : TE G c ℓ H e fun v H₁ => Q (.ret v) ℓ H₁) : TS G c ℓ H (.Return (some e) pos :: rest) Q := ts_cons fun fr s m n S =>
  wpAny_Return_some (Tx.seq S h fun u s₁ H₁ m₁ n₁ e₁ S₁ h₁ => by
    obtain ⟨_, _, rfl⟩ := e₁
    exact ⟨_, _, ⟨⟨_, _, rfl⟩, _, _, S₁⟩, h₁⟩)
theorem ts_return0 (h : Q (.ret .none) ℓ H) : TS G c ℓ H (.Return none pos :: rest) Q := ts_cons fun fr s m n S => wpAny_Return_none ⟨_, _, .refl S, h⟩
theorem ts_break (h : Q .brk ℓ H) : TS G c ℓ H (.Break pos :: rest) Q := ts_cons fun fr s m n S => wpAny_Break ⟨_, _, .refl S, h⟩
theorem ts_if {t : Expr} {a b : List Stmt} (h : TT G c ℓ H t fun v H₁ => if v then TS G c ℓ H₁ a (Then G c rest Q) else TS G c ℓ H₁ b (Then G c rest Q)) : TS G c ℓ H (.If t a b pos :: rest) Q := ts_cons fun fr s m n S =>
  wpAny_If (Tx.seq S h fun v s₁ H₁ m₁ n₁ e₁ S₁ h₁ => by
    obtain ⟨_, _, rfl⟩ := e₁
    cases v with
    | true => exact wpAny_mono (h₁ fr _ m₁ n₁ S₁) (fun f s' ⟨ℓ', H', o, x⟩ => ⟨ℓ', H', Out.trans ⟨⟨_, _, rfl⟩, _, _, S₁⟩ o, x⟩) fun _ _ x => x
    | false => exact wpAny_mono (h₁ fr _ m₁ n₁ S₁) (fun f s' ⟨ℓ', H', o, x⟩ => ⟨ℓ', H', Out.trans ⟨⟨_, _, rfl⟩, _, _, S₁⟩ o, x⟩) fun _ _ x => x)

/-- a name stored -/
theorem St.store {x : Str} {v : Value} {fr s m news} {h' : Heap} {tk : Nat} (S : St c ℓ H fr s m news) (F' : Fr c.h₀ c.L h' fun y => if y = x then some v else m y) (N' : News c.h₀ c.L h' news) :
    St c ((x, pv v) :: ℓ) H fr { s with heap := h', toks := tk } (fun y => if y = x then some v else m y) news := ⟨F', N', fun y p e => by
  rw [List.lookup_cons] at e
  by_cases hy : y = x
  · subst hy; simp at e; subst e; exact ⟨v, by simp, rfl⟩
  · have : (y == x) = false := beq_eq_false_iff_ne.mpr hy
    rw [this] at e
    obtain ⟨u, hu, eu⟩ := S.l y p e
    exact ⟨u, by simp [hy, hu], eu⟩, S.h, S.bs, S.fs, S.ap⟩
theorem tu_store {x : Str} {v : Value} {Q : Loc → Hp → Prop} (ok : c.Ok G r) (hx : c.env.kindOf x = some .local) (h : Q ((x, pv v) :: ℓ) H) : TU G c ℓ H (storeName c.env x v) Q := fun fr s m n S =>
  storeX_L S.F S.N (fun h' F' N' => ⟨_, _, ⟨⟨_, _, rfl⟩, _, _, S.store F' N'⟩, h⟩) ok.k hx
theorem ts_assign {x : Str} {np : Pos} {e : Expr} (ok : c.Ok G r) (h : TE G c ℓ H e fun v H₁ => TS G c ((x, v) :: ℓ) H₁ rest Q) (hx : c.env.kindOf x = some .local := by rfl)
    (hs : swapsWith e (some (.Name x np)) pos.line c.env = pure false := by rfl) : TS G c ℓ H (.Assign [.Name x np] e pos :: rest) Q := ts_cons fun fr s m n S =>
  wpAny_Assign_Name (Tx.seq S h fun u s₁ H₁ m₁ n₁ e₁ S₁ h₁ => by
    obtain ⟨_, _, rfl⟩ := e₁
    exact storeX_L S₁.F S₁.N (fun h' F' N' => ⟨_, _, ⟨⟨_, _, rfl⟩, _, _, S₁.store F' N'⟩, h₁⟩) ok.k hx) hs
/-- x op= e -/
theorem ts_aug {x : Str} {np : Pos} {op : Operator} {e : Expr} {v₀ : PV} (ok : c.Ok G r) (h0 : ℓ.lookup x = some v₀) (h : TE G c ℓ H e fun v H₁ => ∀ u w, pv u = v₀ → pv w = v → Vx G c ℓ H₁ (inplaceOp op u w) fun z H₂ => TS G c ((x, z) :: ℓ) H₂ rest Q) (hx : c.env.kindOf x = some .local := by rfl) :
    TS G c ℓ H (.AugAssign (.Name x np) op e pos :: rest) Q := ts_cons fun fr s m n S => by
  obtain ⟨u₀, hu, eu⟩ := S.l _ _ h0
  refine wpAny_AugAssign_Name (wpAny_loadName_local ok.k hx S.F.ns hu (Tx.seq S h fun w s₁ H₁ m₁ n₁ e₁ S₁ h₁ => Tx.seq S₁ (h₁ u₀ w eu rfl) fun z s₂ H₂ m₂ n₂ e₂ S₂ h₂ => ?_))
  obtain ⟨_, _, rfl⟩ := e₁; obtain ⟨_, _, rfl⟩ := e₂
  exact storeX_L S₂.F S₂.N (fun h' F' N' => ⟨_, _, ⟨⟨_, _, rfl⟩, _, _, S₂.store F' N'⟩, h₂⟩) ok.k hx
theorem ts_iadd {x : Str} {np : Pos} {e : Expr} {i : Int} (ok : c.Ok G r) (h0 : ℓ.lookup x = some (.int i)) (h : TE G c ℓ H e fun v H₁ => ∃ j, v = .int j ∧ TS G c ((x, .int (i + j)) :: ℓ) H₁ rest Q) (hx : c.env.kindOf x = some .local := by rfl) :
    TS G c ℓ H (.AugAssign (.Name x np) .Add e pos :: rest) Q := ts_aug ok h0 (h.mono fun v H₁ ⟨j, e, q⟩ u w eu ew => by
  subst e; obtain ⟨t, rfl⟩ := pv_int eu; obtain ⟨t', rfl⟩ := pv_int ew
  exact fun fr s m n S => iadd_int ⟨_, ⟨⟨_, _, rfl⟩, _, _, S.toks _⟩, q⟩) hx
theorem ts_isub {x : Str} {np : Pos} {e : Expr} {i : Int} (ok : c.Ok G r) (h0 : ℓ.lookup x = some (.int i)) (h : TE G c ℓ H e fun v H₁ => ∃ j, v = .int j ∧ TS G c ((x, .int (i - j)) :: ℓ) H₁ rest Q) (hx : c.env.kindOf x = some .local := by rfl) :
    TS G c ℓ H (.AugAssign (.Name x np) .Sub e pos :: rest) Q := ts_aug ok h0 (h.mono fun v H₁ ⟨j, e, q⟩ u w eu ew => by
  subst e; obtain ⟨t, rfl⟩ := pv_int eu; obtain ⟨t', rfl⟩ := pv_int ew
  exact fun fr s m n S => isub_int ⟨_, ⟨⟨_, _, rfl⟩, _, _, S.toks _⟩, q⟩) hx
theorem ts_ishr {x : Str} {np : Pos} {e : Expr} {i : Int} (ok : c.Ok G r) (h0 : ℓ.lookup x = some (.int i)) (h : TE G c ℓ H e fun v H₁ => ∃ j, v = .int j ∧ 0 ≤ j ∧ TS G c ((x, .int (i.fdiv (2 ^ j.toNat))) :: ℓ) H₁ rest Q) (hx : c.env.kindOf x = some .local := by rfl) :
    TS G c ℓ H (.AugAssign (.Name x np) .RShift e pos :: rest) Q := ts_aug ok h0 (h.mono fun v H₁ ⟨j, e, j0, q⟩ u w eu ew => by
  subst e; obtain ⟨t, rfl⟩ := pv_int eu; obtain ⟨t', rfl⟩ := pv_int ew
  exact fun fr s m n S => irshift_int j0 ⟨_, ⟨⟨_, _, rfl⟩, _, _, S.toks _⟩, q⟩) hx
theorem ts_ior {x : Str} {np : Pos} {e : Expr} {i : Int} (ok : c.Ok G r) (h0 : ℓ.lookup x = some (.int i)) (h : TE G c ℓ H e fun v H₁ => ∃ j, v = .int j ∧ TS G c ((x, .int (Builtin.bitOr i j)) :: ℓ) H₁ rest Q) (hx : c.env.kindOf x = some .local := by rfl) :
    TS G c ℓ H (.AugAssign (.Name x np) .BitOr e pos :: rest) Q := ts_aug ok h0 (h.mono fun v H₁ ⟨j, e, q⟩ u w eu ew => by
  subst e; obtain ⟨t, rfl⟩ := pv_int eu; obtain ⟨t', rfl⟩ := pv_int ew
  exact fun fr s m n S => ior_int ⟨_, ⟨⟨_, _, rfl⟩, _, _, S.toks _⟩, q⟩) hx
theorem ts_imod {x : Str} {np : Pos} {e : Expr} {i : Int} (ok : c.Ok G r) (h0 : ℓ.lookup x = some (.int i)) (h : TE G c ℓ H e fun v H₁ => ∃ j, v = .int j ∧ j ≠ 0 ∧ TS G c ((x, .int (i.fmod j)) :: ℓ) H₁ rest Q) (hx : c.env.kindOf x = some .local := by rfl) :
    TS G c ℓ H (.AugAssign (.Name x np) .Mod e pos :: rest) Q := ts_aug ok h0 (h.mono fun v H₁ ⟨j, e, j0, q⟩ u w eu ew => by
  subst e; obtain ⟨t, rfl⟩ := pv_int eu; obtain ⟨t', rfl⟩ := pv_int ew
  exact fun fr s m n S => imod_int j0 ⟨_, ⟨⟨_, _, rfl⟩, _, _, S.toks _⟩, q⟩) hx
end

theorem set_obj (vs : List Value) (n k : Nat) (u : Value) : Obj.mapSeq (·.setIfInBounds k u) (listObj vs n) = listObj (vs.set k u) n := by
  simp [listObj, Obj.mapSeq]
theorem set_get {h : Heap} {l : Addr} {vs : List Value} {n k : Nat} {u : Value} (hg : h.get? l = some (listObj vs n)) : (h.update l (Obj.mapSeq (·.setIfInBounds k u))).get? l = some (listObj (vs.set k u) n) := by
  rw [Heap.get?_update_self _ hg (by rw [set_obj]; rfl), set_obj]

section
variable {G : Glo} {c : Cx} {ℓ : Loc} {H : Hp} {Q : PF → Loc → Hp → Prop} {r : Nat} {pos : Pos} {rest : List Stmt}

theorem TU.seq {fr s m news} {t : Sem Unit} {Q : Loc → Hp → Prop} (S : St c ℓ H fr s m news) (h : TU G c ℓ H t Q) {R : Unit → Shared → Prop}
    (k : ∀ s' ℓ' H' m' news', (∃ h tk, s' = { s with heap := h, toks := tk }) → St c ℓ' H' fr s' m' news' → Q ℓ' H' → R () s') : wpAny (model G.prog G.w) c.A t R (fun _ _ => False) s :=
  wpAny_mono (h fr s m news S) (fun a s' ⟨ℓ', H', ⟨e, m', news', S'⟩, x⟩ => k s' ℓ' H' m' news' e S' x) fun _ _ x => x
theorem Out.of {ℓ' : Loc} {H' : Hp} {fr s s' m' news'} (e : ∃ h tk, s' = { s with heap := h, toks := tk }) (S' : St c ℓ' H' fr s' m' news') : Out c ℓ' H' fr s s' := ⟨e, _, _, S'⟩
theorem same_trans {s s' s'' : Shared} (e : ∃ h tk, s' = { s with heap := h, toks := tk }) (e' : ∃ h tk, s'' = { s' with heap := h, toks := tk }) : ∃ h tk, s'' = { s with heap := h, toks := tk } := by
  obtain ⟨_, _, rfl⟩ := e; obtain ⟨_, _, rfl⟩ := e'; exact ⟨_, _, rfl⟩

/-- targets, in their order -/
noncomputable def TO (G : Glo) (c : Cx) (ℓ : Loc) (H : Hp) (ts : List (Value → Sem Unit)) (xs : List PV) (Q : Loc → Hp → Prop) : Prop := ∀ us, us.map pv = xs → TU G c ℓ H (assignInOrder ts us) Q
theorem to_nil {Q : Loc → Hp → Prop} (h : Q ℓ H) : TO G c ℓ H [] [] Q := fun us eu fr s m n S => by
  cases us with
  | nil => exact assignInOrder_nil ⟨_, _, .refl S, h⟩
  | cons u r => cases eu
theorem to_cons {t : Value → Sem Unit} {ts : List (Value → Sem Unit)} {x : PV} {xs : List PV} {Q : Loc → Hp → Prop} (h : ∀ u, pv u = x → TU G c ℓ H (t u) fun ℓ' H' => TO G c ℓ' H' ts xs Q) : TO G c ℓ H (t :: ts) (x :: xs) Q := fun us eu fr s m n S => by
  obtain ⟨u, r, rfl, e1, e2⟩ := mapc eu
  exact assignInOrder_cons (TU.seq S (h u e1) fun s' ℓ' H' m' n' e S' h' => TU.seq S' (h' r e2) fun s'' ℓ'' H'' m'' n'' e' S'' q => ⟨_, _, .of (same_trans e e') S'', q⟩)
theorem to_bind {x : Str} {ns : List (Value → Sem Unit)} {v : PV} {xs : List PV} {Q : Loc → Hp → Prop} (ok : c.Ok G r) (hx : c.env.kindOf x = some .local) (h : TO G c ((x, v) :: ℓ) H ns xs Q) : TO G c ℓ H ((fun u => bindName c.env x u) :: ns) (v :: xs) Q :=
  to_cons fun u eu fr s m n S => bindName_ (by
    refine tu_store ok hx ?_ fr s m n S
    rw [eu]; exact h)
theorem to_name {x : Str} {p : Pos} {ns : List (Value → Sem Unit)} {v : PV} {xs : List PV} {Q : Loc → Hp → Prop} (ok : c.Ok G r) (hx : c.env.kindOf x = some .local) (h : TO G c ((x, v) :: ℓ) H ns xs Q) : TO G c ℓ H (assign (.Name x p) c.env :: ns) (v :: xs) Q :=
  to_cons fun u eu fr s m n S => assign_Name (by
    refine tu_store ok hx ?_ fr s m n S
    rw [eu]; exact h)

/-- an item of a list stored -/
theorem tu_item {o i : Expr} {u : Value} {Q : Loc → Hp → Prop} {sp : Pos} (h : TE G c ℓ H o fun a H₁ => TE G c ℓ H₁ i fun b H₂ => ∃ l k xs, a = .ref l ∧ b = .int k ∧ H₂ l = some (.list xs) ∧ 0 ≤ k ∧ k < 100000 ∧ k.toNat < xs.length ∧ Q ℓ (upd H₂ l (.list (xs.set k.toNat (pv u))))) :
    TU G c ℓ H (assign (.Subscript o i sp) c.env u) Q := fun fr s m n S => by
  refine kas_sub (Tx.seq S h fun ov s₁ H₁ m₁ n₁ e₁ S₁ h₁ => Tx.seq S₁ h₁ fun iv s₂ H₂ m₂ n₂ e₂ S₂ h₂ => ?_)
  obtain ⟨l, k, xs, eo, ei, hl, k0, k1, k2, q⟩ := h₂
  cases pv_ref eo; obtain ⟨t, rfl⟩ := pv_int ei
  obtain ⟨_, _, rfl⟩ := e₁; obtain ⟨_, _, rfl⟩ := e₂
  obtain ⟨vs, j, hg, e⟩ := S₂.list (.inl hl)
  have hlen := len_of_map e
  refine ki_setAt (n := j) hg k0 (by (first | lia | omega)) (by simp; (first | lia | omega)) ?_
  obtain ⟨n', S'⟩ := S₂.put (p := .list (xs.set k.toNat (pv u))) (o' := listObj (vs.set k.toNat u) j) (tk := _) hl (Heap.SameBut.update ..) (set_get hg) ⟨_, _, rfl, by rw [List.map_set, e]⟩
  exact ⟨_, _, ⟨⟨_, _, rfl⟩, _, _, S'⟩, q⟩
theorem to_item {o i : Expr} {ns : List (Value → Sem Unit)} {v : PV} {xs : List PV} {Q : Loc → Hp → Prop} {sp : Pos}
    (h : TE G c ℓ H o fun a H₁ => TE G c ℓ H₁ i fun b H₂ => ∃ l k ys, a = .ref l ∧ b = .int k ∧ H₂ l = some (.list ys) ∧ 0 ≤ k ∧ k < 100000 ∧ k.toNat < ys.length ∧ TO G c ℓ (upd H₂ l (.list (ys.set k.toNat v))) ns xs Q) :
    TO G c ℓ H (assign (.Subscript o i sp) c.env :: ns) (v :: xs) Q := to_cons fun u eu => tu_item (h.mono fun a H₁ h₁ => h₁.mono fun b H₂ ⟨l, k, ys, a1, a2, a3, a4, a5, a6, q⟩ => ⟨l, k, ys, a1, a2, a3, a4, a5, a6, by rw [eu]; exact q⟩)
/-- x[i] = e -/
theorem ts_setItem {o i e : Expr} {sp : Pos} (h : TE G c ℓ H e fun v H₀ => TE G c ℓ H₀ o fun a H₁ => TE G c ℓ H₁ i fun b H₂ => ∃ l k xs, a = .ref l ∧ b = .int k ∧ H₂ l = some (.list xs) ∧ 0 ≤ k ∧ k < 100000 ∧ k.toNat < xs.length ∧ TS G c ℓ (upd H₂ l (.list (xs.set k.toNat v))) rest Q)
    (hs : swapsWith e (some (.Subscript o i sp)) pos.line c.env = pure false := by rfl) : TS G c ℓ H (.Assign [.Subscript o i sp] e pos :: rest) Q := ts_cons fun fr s m n S =>
  wpAny_Assign_Subscript (Tx.seq S h fun u s₀ H₀ m₀ n₀ e₀ S₀ h₀ => Tx.seq S₀ h₀ fun ov s₁ H₁ m₁ n₁ e₁ S₁ h₁ => Tx.seq S₁ h₁ fun iv s₂ H₂ m₂ n₂ e₂ S₂ h₂ => by
    obtain ⟨l, k, xs, eo, ei, hl, k0, k1, k2, q⟩ := h₂
    cases pv_ref eo; obtain ⟨t, rfl⟩ := pv_int ei
    obtain ⟨_, _, rfl⟩ := e₀; obtain ⟨_, _, rfl⟩ := e₁; obtain ⟨_, _, rfl⟩ := e₂
    obtain ⟨vs, j, hg, e⟩ := S₂.list (.inl hl)
    have hlen := len_of_map e
    refine ki_setAt (n := j) hg k0 (by (first | lia | omega)) (by simp; (first | lia | omega)) ?_
    obtain ⟨n', S'⟩ := S₂.put (p := .list (xs.set k.toNat (pv u))) (o' := listObj (vs.set k.toNat u) j) (tk := _) hl (Heap.SameBut.update ..) (set_get hg) ⟨_, _, rfl, by rw [List.map_set, e]⟩
    exact ⟨_, _, ⟨⟨_, _, rfl⟩, _, _, S'⟩, q⟩) hs

/-- several names at once, the value no display of 2 or 3 -/
theorem ts_unpack {elts : List Expr} {k : Nat} {tp : Pos} {e : Expr}
    (h : TE G c ℓ H e fun v H₁ => ∃ t xs, v = .ref t ∧ (H₁ t = some (.tup xs) ∨ IsL H₁ t xs) ∧ (assignEach elts c.env).length = xs.length ∧ TO G c ℓ H₁ ((assignEach elts c.env).map (·.2)) xs fun ℓ' H' => TS G c ℓ' H' rest Q)
    (hstar : (assignEach elts c.env).findIdx? (·.1) = none := by rfl)
    (hs : swapsWithSole [.Tuple elts k tp] e pos.line c.env = pure false := by rfl) (hw : swappedStores [.Tuple elts k tp] e c.env = pure none := by rfl) :
    TS G c ℓ H (.Assign [.Tuple elts k tp] e pos :: rest) Q := ts_cons fun fr s m n S =>
  Assign_Tuple (Tx.seq S h fun u s₁ H₁ m₁ n₁ e₁ S₁ h₁ => by
    obtain ⟨t, xs, eu, ht, hl, h₁⟩ := h₁
    cases pv_ref eu
    rcases ht with ht | ht
    · obtain ⟨vs, j, hg, e⟩ := S₁.tup ht
      have hlen := len_of_map e
      refine unpackN_ S₁.F S₁.N (isTup_of hg) rfl (by simp; (first | lia | omega)) hstar fun h' F' N' => ?_
      exact TU.seq (S₁.grown (tk := _) F' N') (h₁ vs e) fun s' ℓ' H' m' n' e' S' q => ⟨_, _, .of (same_trans e₁ (by obtain ⟨_, _, rfl⟩ := e'; exact ⟨_, _, rfl⟩)) S', q⟩
    · obtain ⟨vs, j, hg, e⟩ := S₁.list ht
      have hlen := len_of_map e
      refine kun_list S₁.F S₁.N (isList_of hg) rfl (by simp; (first | lia | omega)) hstar fun h' F' N' => ?_
      exact TU.seq (S₁.grown (tk := _) F' N') (h₁ vs e) fun s' ℓ' H' m' n' e' S' q => ⟨_, _, .of (same_trans e₁ (by obtain ⟨_, _, rfl⟩ := e'; exact ⟨_, _, rfl⟩)) S', q⟩) hs hw
/-- two or three names, a display of as many -/
theorem ts_swap {elts : List Expr} {k : Nat} {tp : Pos} {e : Expr} (names : List Str)
    (h : TE G c ℓ H e fun v H₁ => ∃ t xs, v = .ref t ∧ H₁ t = some (.tup xs) ∧ names.length = xs.length ∧ TO G c ℓ H₁ (names.reverse.map fun n => bindName c.env n) xs.reverse fun ℓ' H' => TS G c ℓ' H' rest Q)
    (hs : swapsWithSole [.Tuple elts k tp] e pos.line c.env = pure false := by rfl) (hw : swappedStores [.Tuple elts k tp] e c.env = pure (some names) := by rfl) :
    TS G c ℓ H (.Assign [.Tuple elts k tp] e pos :: rest) Q := ts_cons fun fr s m n S =>
  Assign_Tuple_swapped (Tx.seq S h fun u s₁ H₁ m₁ n₁ e₁ S₁ h₁ => by
    obtain ⟨t, xs, eu, ht, hl, h₁⟩ := h₁
    cases pv_ref eu
    obtain ⟨vs, j, hg, e⟩ := S₁.tup ht
    have hlen := len_of_map e
    refine unpackItemsN_ S₁.F S₁.N (isTup_of hg) rfl (by simp; (first | lia | omega)) fun h' F' N' => ?_
    exact TU.seq (S₁.grown (tk := _) F' N') (h₁ vs.reverse (by rw [List.map_reverse, e])) fun s' ℓ' H' m' n' e' S' q => ⟨_, _, .of (same_trans e₁ (by obtain ⟨_, _, rfl⟩ := e'; exact ⟨_, _, rfl⟩)) S', q⟩) hs hw

/-- an expression for its effect -/
theorem ts_expr {e : Expr} (h : TE G c ℓ H e fun _ H₁ => TS G c ℓ H₁ rest Q) (hi : interactive c.env = false := by rfl) (hs : swapsWith e none pos.line c.env = pure false := by rfl) : TS G c ℓ H (.Expr e pos :: rest) Q := ts_cons fun fr s m n S =>
  wpAny_Expr_any (Tx.seq S h fun u s₁ H₁ m₁ n₁ e₁ S₁ h₁ => ⟨_, _, .of e₁ S₁, h₁⟩) hi hs
/-- x.append(e) -/
theorem te_append {x : Str} {np ap : Pos} {e : Expr} {pl : Sem Bool} {Q : PV → Hp → Prop} (h : TE G c ℓ H (.Name x np) fun o H₁ => ∃ l, o = .ref l ∧ (∃ xs', H₁ l = some (.list xs')) ∧ TE G c ℓ H₁ e fun v H₂ => ∃ xs, H₂ l = some (.list xs) ∧ xs.length ≤ 1000 ∧ Q .none (upd H₂ l (.list (xs ++ [v]))))
    (he : starEach [e] c.env = [(false, eval e c.env)] := by rfl)
    (hev : eval (.Call (.Attribute (.Name x np) (Str.ofString "append") ap) [e] [] pos) c.env = (do
      let ov ← eval (.Name x np) c.env
      standAt ap.atName
      let (f, first) ← holding [ov] (getMethod ov (Str.ofString "append") pl)
      callWith pos f first (backTo pos (starEach [e] c.env)) []) := by rfl) :
    TE G c ℓ H (.Call (.Attribute (.Name x np) (Str.ofString "append") ap) [e] [] pos) Q := fun fr s m n S =>
  MethodCall_ (Tx.seq S h fun ov s₁ H₁ m₁ n₁ e₁ S₁ h₁ => by
    obtain ⟨l, eo, ⟨xs', hl⟩, h₁⟩ := h₁
    cases pv_ref eo
    obtain ⟨vs, j, hg, e⟩ := S₁.list (.inl hl)
    refine getMethod_list_append hg rfl rfl ?_
    refine callWith_method1 (rest := []) ?_ he rfl
    rw [he]
    refine spliced_cons (Tx.seq S₁ h₁ fun v s₂ H₂ m₂ n₂ e₂ S₂ h₂ => spliced_nil ?_)
    obtain ⟨xs, hl', hz, q⟩ := h₂
    obtain ⟨vs, j, hg, e⟩ := S₂.list (.inl hl')
    have hlen := len_of_map e
    refine append_at (its := vs.toArray) (n := j) hg (fun h' hs' ho' => ?_) (by rw [List.size_toArray, hlen]; show _ ≤ 2 ^ 24; (first | lia | omega))
    obtain ⟨n', S'⟩ := S₂.put (p := .list (xs ++ [pv v])) (o' := listObj (vs ++ [v]) (j + 1)) (tk := s₂.toks) hl' hs' (by rw [ho']; simp [listObj]) ⟨_, _, rfl, by rw [List.map_append, e]; rfl⟩
    exact ⟨_, .of (same_trans (same_trans e₁ e₂) ⟨h', s₂.toks, rfl⟩) S', q⟩) hev
end

noncomputable def retOf : PF → PV
  | .ret v => v
  | _ => .none
@[reducible] noncomputable def mkC (c : Cx) (qual : Str) (scope : Scope) (f : Addr) (cdv : Value) (cl : List (Str × Addr)) (L : Addr) (g : Heap) : Cx :=
  { dp := c.dp + 1, un := c.un + 3, gd := c.gd, cn := qual, cs := scope, L := L, a := f, ccd := cdv, cl := cl, outer := c.env :: c.outer, A₀ := c.A, base := c.base, h₀ := g }

theorem lookup_zip_map : ∀ (ns : List (Str × Value)) (x : Str) (p : PV), (ns.map fun q => (q.1, pv q.2)).lookup x = some p → ∃ v, ns.lookup x = some v ∧ pv v = p
  | [], x, p, e => by cases e
  | (y, v) :: r, x, p, e => by
    rw [List.map_cons, List.lookup_cons] at e
    rw [List.lookup_cons]
    cases h : x == y with
    | true => rw [h] at e; cases e; exact ⟨v, rfl, rfl⟩
    | false => rw [h] at e; exact lookup_zip_map r x p e
theorem zip_map_pv : ∀ (ns : List Str) (vs : List Value), ns.zip (vs.map pv) = (ns.zip vs).map fun q => (q.1, pv q.2)
  | [], _ => rfl
  | _ :: _, [] => rfl
  | n :: ns, v :: vs => by simp only [List.map_cons, List.zip_cons_cons, zip_map_pv ns vs]

section
variable {G : Glo} {c : Cx} {ℓ : Loc} {H : Hp} {r : Nat}
theorem fc_def {f : Addr} {args : List PV} {Q : PV → Hp → Prop} {name qual : Str} {params : Arguments} {body : List Stmt} {scope : Scope} {dV kV doc pm cdv ct oc : Value} {an od : Option Addr} {osl : Array (Option Value)} (names : List Str) (ℓ₀ : Loc)
    (ok : c.Ok G (r + 1)) (ho : G.K.lookup f = some ⟨oc, od, .func (fnOf name qual params body scope dV kV doc pm an cdv ct), osl⟩) (hcd : codeIn G.K cdv qual = true)
    (hn : args.length = names.length) (hℓ : (names.zip args).reverse = ℓ₀) (hbind : ∀ s vs, vs.length = names.length → BindsTo s (fnOf name qual params body scope dV kV doc pm an cdv ct) ⟨vs, []⟩ (names.zip vs))
    (hloc : (names.all fun y => decide (scope.names.lookup y = some .local)) = true)
    (hcell : ∀ x ∈ scope.names, x.2 ≠ .cell)
    (h : ∀ L g, (mkC c qual scope f cdv [] L g).Ok G r → TS G (mkC c qual scope f cdv [] L g) ℓ₀ H body fun fl _ H' => Q (retOf fl) H')
    (hco : scope.isCoroutine = false := by rfl) (hgen : scope.isGenerator = false := by rfl) (hk : scope.kind = .function := by rfl) :
    FC G c ℓ H f args Q := fun vs ev fr s m news S => by
  subst hℓ
  refine wpAny_call ?_
  have hl : vs.length = names.length := by rw [← hn, ← ev, List.length_map]
  refine code_def ok.B S.F ok.X S.N ok.T rfl rfl ok.k ho hcd (by have := ok.dp; show c.dp < recursionLimit; (first | lia | omega)) (hbind _ vs hl) (fun y hy => ?_) (fun g L' h₁ FG F' N' B' X' T' => ?_) hco hgen hk hcell
  · have := List.all_eq_true.mp hloc y.1 (List.of_mem_zip hy).1
    exact of_decide_eq_true this
  · have ok' : (mkC c qual scope f cdv [] L' g).Ok G r := ⟨B', X', T', hk, by have := ok.dp; show c.dp + 1 + r < recursionLimit; (first | lia | omega), by have := ok.un; show c.un + 3 + 8 * r + 8 < cLine; (first | lia | omega)⟩
    have S' : St (mkC c qual scope f cdv [] L' g) (names.zip args).reverse H fr { s with heap := h₁, toks := s.toks + (names.zip vs).length } (fun y => (names.zip vs).reverse.lookup y) news := by
      refine ⟨F', N', fun x p e => ?_, S.h, B'.stays, S.fs, S.ap⟩
      rw [← ev, zip_map_pv, ← List.map_reverse] at e
      exact lookup_zip_map _ x p e
    refine wpAny_mono (h L' g ok' fr _ _ _ S') (fun fl s' ⟨ℓ', H', ⟨e', m', n', S''⟩, q⟩ => ?_) fun _ _ x => x.elim
    refine leaveK_ S''.F S''.N fun F'' N'' => ?_
    refine ⟨H', .of (same_trans ⟨_, _, rfl⟩ e') ⟨F'', N'', S.l, S''.h, S.bs, S''.fs, S''.ap⟩, ?_⟩
    cases fl <;> exact q
end

section
variable {G : Glo} {c : Cx} {ℓ : Loc} {H : Hp} {Q : PF → Loc → Hp → Prop} {r : Nat} {pos : Pos} {rest : List Stmt}

/-- the end of a turn -/
noncomputable def Turn (G : Glo) (c : Cx) (rest : List Stmt) (Q : PF → Loc → Hp → Prop) (J : Loc → Hp → Prop) : PF → Loc → Hp → Prop
  | .next, ℓ, H => J ℓ H
  | .cont, ℓ, H => J ℓ H
  | .brk, ℓ, H => TS G c ℓ H rest Q
  | .ret v, ℓ, H => Q (.ret v) ℓ H

theorem Out.less {ℓ' : Loc} {H' : Hp} {fr fr' s s'} (o : Out c ℓ' H' fr' s s') (h : ∀ q ∈ fr, q ∈ fr') : Out c ℓ' H' fr s s' := by
  obtain ⟨e, m, n, S⟩ := o
  exact ⟨e, m, n, S.F, S.N, S.l, S.h, S.bs, fun q hq => S.fs q (h q hq), fun q hq => S.ap q (h q hq)⟩

/-- a while by an invariant and a measure -/
theorem ts_while {t : Expr} {body : List Stmt} (J : Nat → Loc → Hp → Prop) (k₀ : Nat) (h0 : J k₀ ℓ H)
    (turn : ∀ k ℓ₁ H₁, J k ℓ₁ H₁ → ∃ ℓ', SubL ℓ' ℓ₁ ∧ TT G c ℓ' H₁ t fun b H₂ => if b then TS G c ℓ' H₂ body (Turn G c rest Q fun ℓ₂ H₃ => ∃ k', k' < k ∧ J k' ℓ₂ H₃) else TS G c ℓ' H₂ rest Q) :
    TS G c ℓ H (.While t body [] pos :: rest) Q := ts_cons fun fr s m n S => by
  refine wpAny_While (codeAny_whileLoop (fun k s' => ∃ ℓ' H', Out c ℓ' H' fr s s' ∧ J k ℓ' H') (fun k s' ⟨ℓ', H', o, j⟩ => ?_) k₀ ⟨ℓ, H, .refl S, h0⟩)
  obtain ⟨e', m', n', S''⟩ := o
  obtain ⟨ℓ', hs', tu⟩ := turn k ℓ' H' j
  have S' := S''.weaken hs'.to
  refine wpAny_mono (Tx.seq S' tu (R := fun b s₂ => if b then wpAny (model G.prog G.w) c.A (execs body c.env) (fun f s₃ => match f with
            | .next | .cont => ∃ m, m < k ∧ ∃ ℓ' H', Out c ℓ' H' fr s s₃ ∧ J m ℓ' H'
            | .brk => ∃ ℓ' H', Out c ℓ' H' fr s s₃ ∧ Then G c rest Q .next ℓ' H'
            | .ret v => ∃ ℓ' H', Out c ℓ' H' fr s s₃ ∧ Then G c rest Q (pf (.ret v)) ℓ' H') (fun _ _ => False) s₂
        else wpAny (model G.prog G.w) c.A (execs [] c.env) (fun f s₃ => ∃ ℓ' H', Out c ℓ' H' fr s s₃ ∧ Then G c rest Q (pf f) ℓ' H') (fun _ _ => False) s₂) fun b s₁ H₁ m₁ n₁ e₁ S₁ h₁ => ?_) (fun b s₂ hb => ?_) fun _ _ x => x.elim
  · cases b with
    | true =>
      refine wpAny_mono (h₁ fr _ _ _ S₁) (fun f s₃ ⟨ℓ₂, H₂, o₂, q⟩ => ?_) fun _ _ x => x
      have o₃ := Out.trans (.of (same_trans e' e₁) S₁) o₂
      cases f with
      | next => obtain ⟨k', lt, j'⟩ := q; exact ⟨k', lt, _, _, o₃, j'⟩
      | cont => obtain ⟨k', lt, j'⟩ := q; exact ⟨k', lt, _, _, o₃, j'⟩
      | brk => exact ⟨_, _, o₃, q⟩
      | ret v => exact ⟨_, _, o₃, q⟩
    | false => exact wpAny_execs_nil ⟨_, _, .of (same_trans e' e₁) S₁, h₁⟩
  · cases b with
    | true => exact wpAny_mono hb (fun f s₃ x => by cases f <;> exact x) fun _ _ x => x.elim
    | false => exact wpAny_mono hb (fun f s₃ x => x) fun _ _ x => x.elim

/-- the frame of a walk: what the iterator is -/
noncomputable def NoRo (Wst : Nat → Heap → Prop) (wr : List Addr) : Prop := ∀ i h b, Wst i h → b ∈ wr → ∃ o, h.get? b = some o ∧ ∀ xs, ¬ oIs o (.ro xs)

theorem for_core {x : Str} {body : List Stmt} {I : Addr} {fp wr : List Addr} {n : Nat} {P : Nat → Value → Prop} {Wst : Nat → Heap → Prop} (J : Nat → Loc → Hp → Prop)
    {fr s m news} (S : St c ℓ H fr s m news) (W : Walks G.prog G.w c.A I fp wr n P Wst) (hns : NoRo Wst wr) (hL : c.L ∉ fp) (hwr : ∀ b ∈ wr, c.h₀.get? b = none) (hnw : ∀ p ∈ news, p.1 ∉ wr) (hst : Wst 0 s.heap)
    (h0 : J 0 ℓ H) (hro : ∀ b ∈ fp, b ∉ wr → ∀ i ℓ' H', J i ℓ' H' → ∃ xs, H' b = some (.ro xs))
    (turn : ∀ i v ℓ₁ H₁, i < n → P i v → J i ℓ₁ H₁ → TS G c ((x, pv v) :: ℓ₁) H₁ body (Turn G c rest Q (J (i + 1))))
    (done : ∀ ℓ₁ H₁ s' m' n', J n ℓ₁ H₁ → St c ℓ₁ H₁ fr s' m' n' → ∃ H₂, St c ℓ₁ H₂ fr s' m' n' ∧ TS G c ℓ₁ H₂ rest Q) {s₀ : Shared} (es : ∃ h tk, s = { s₀ with heap := h, toks := tk }) :
    LoopAtV G.prog G.w c.A c.h₀ c.env x body (fun f s' => ∃ ℓ' H', Out c ℓ' H' fr s₀ s' ∧ Then G c rest Q (pf f) ℓ' H') (fun _ _ => False) (.ref I) s := by
  have offwr : ∀ {i : Nat} {ℓ' : Loc} {H' : Hp} {ns : List (Addr × Obj)}, HIs c.base ns H' → (∀ p ∈ ns, p.1 ∉ wr) → ∀ b ∈ wr, H' b = none := fun {i ℓ' H' ns} hh ho b hb => by
    cases e : H' b with
    | none => rfl
    | some p =>
      obtain ⟨o, _, hm | ⟨hm, _⟩⟩ := hh _ _ e
      · exact absurd hb (ho _ hm)
      · have := S.bs _ _ hm; rw [hwr b hb] at this; cases this
  refine ⟨I, fp, wr, n, P, Wst, m, news, fun i m₁ news₁ => ∃ ℓ₁ H₁, LIs m₁ ℓ₁ ∧ HIs c.base news₁ H₁ ∧ (∀ q ∈ fr, q ∈ news₁) ∧ (∀ q ∈ fr, H₁ q.1 = none ∨ ∃ xs, H₁ q.1 = some (.ro xs)) ∧ J i ℓ₁ H₁,
    rfl, W, hL, hwr, hnw, hst, S.F, S.N, ⟨ℓ, H, S.l, S.h, S.fs, S.ap, h0⟩, ?_, ?_⟩
  · rintro i v m₁ news₁ s₁ own es₁ hi hP ⟨ℓ₁, H₁, hl, hh, hf, ha, hj⟩ hoff hown1 hown2 hown3 hst₁ F₁ N₁
    have S' : St c ((x, pv v) :: ℓ₁) H₁ (own ++ fr) s₁ (fun y => if y = x then some v else m₁ y) (own ++ news₁) := by
      refine ⟨F₁, N₁, fun y p e => ?_, fun a p e => ?_, S.bs, fun q hq => ?_, fun q hq => ?_⟩
      · rw [List.lookup_cons] at e
        by_cases hy : y = x
        · subst hy; simp at e; subst e; exact ⟨v, by simp, rfl⟩
        · have : (y == x) = false := beq_eq_false_iff_ne.mpr hy
          rw [this] at e
          obtain ⟨u, hu, eu⟩ := hl y p e
          exact ⟨u, by simp [hy, hu], eu⟩
      · obtain ⟨o, x, hm⟩ := hh _ _ e; exact ⟨o, x, hm.imp (List.mem_append_right _) id⟩
      · rcases List.mem_append.mp hq with h | h
        · exact List.mem_append_left _ h
        · exact List.mem_append_right _ (hf q h)
      · rcases List.mem_append.mp hq with h | h
        · by_cases hb : q.1 ∈ wr
          · exact .inl (offwr (i := i) (ℓ' := ℓ₁) hh hoff _ hb)
          · exact .inr (hro _ (hown1 q h) hb _ _ _ hj)
        · exact ha q h
    refine wpAny_mono (turn i v ℓ₁ H₁ hi hP hj _ _ _ _ S') (fun f s₂ ⟨ℓ₂, H₂, o₂, q⟩ => ?_) fun _ _ x => x
    have es₂ : ∃ h tk, s₁ = { s₀ with heap := h, toks := tk } := by obtain ⟨_, _, rfl⟩ := es; obtain ⟨_, _, rfl⟩ := es₁; exact ⟨_, _, rfl⟩
    have fin : J (i + 1) ℓ₂ H₂ → LoopStepU c.h₀ c.env.locals wr own (fun m₁ news₁ => ∃ ℓ₁ H₁, LIs m₁ ℓ₁ ∧ HIs c.base news₁ H₁ ∧ (∀ q ∈ fr, q ∈ news₁) ∧ (∀ q ∈ fr, H₁ q.1 = none ∨ ∃ xs, H₁ q.1 = some (.ro xs)) ∧ J (i + 1) ℓ₁ H₁) s₁ .next s₂ := by
      intro j
      obtain ⟨⟨h', tk', rfl⟩, m', n', S''⟩ := o₂
      refine ⟨rfl, h', tk', m', n'.filter (fun p => decide (p.1 ∉ wr)), rfl, S''.F, fun p hp => ?_, fun p hp => ?_, ℓ₂, H₂, S''.l, fun a p e => ?_, fun q hq => ?_, fun q hq => S''.ap q (List.mem_append_right _ hq), j⟩
      · rcases List.mem_append.mp hp with h | h
        · exact S''.N p (S''.fs p (List.mem_append_left _ h))
        · exact S''.N p (List.mem_filter.mp h).1
      · exact of_decide_eq_true (List.mem_filter.mp hp).2
      · obtain ⟨o, x, hm | hm⟩ := S''.h _ _ e
        · refine ⟨o, x, .inl (List.mem_filter.mpr ⟨hm, decide_eq_true fun hb => ?_⟩)⟩
          obtain ⟨oI, hg, hn⟩ := hns _ _ _ hst₁ hb
          have hmI := hown3 a (W.sub _ hb) (hwr a hb) oI hg
          rcases S''.ap _ (List.mem_append_left _ hmI) with z | ⟨xs, z⟩
          · rw [e] at z; cases z
          · rw [e] at z; cases z
            have e1 := (S''.N _ hm).1
            have e2 := (S''.N _ (S''.fs _ (List.mem_append_left _ hmI))).1
            rw [e1] at e2; cases e2
            exact hn xs x
        · exact ⟨o, x, .inr hm⟩
      · exact List.mem_filter.mpr ⟨S''.fs q (List.mem_append_right _ hq), decide_eq_true (hnw _ (S.fs q hq))⟩
    have o₃ : Out c ℓ₂ H₂ fr s₀ s₂ := (Out.trans (.of es₂ S') o₂).less fun q hq => List.mem_append_right _ hq
    cases f with
    | ret v => exact .ret ⟨_, _, o₃, q⟩
    | brk => exact .brk ⟨_, _, o₃, q⟩
    | next => exact .next (fin q)
    | cont => exact .cont (fin q)
  · rintro h' tk m' news' F' N' hoff ⟨ℓ₁, H₁, hl, hh, hf, ha, hj⟩
    obtain ⟨H₂, S₂, q⟩ := done _ _ { s with heap := h', toks := tk } _ _ hj ⟨F', N', hl, hh, S.bs, hf, ha⟩
    exact ⟨ℓ₁, H₂, .of (by obtain ⟨_, _, rfl⟩ := es; exact ⟨_, _, rfl⟩) S₂, q⟩
end

theorem size_up {a b : Int} (h : a ≤ b) : Builtin.Range.rangeSize a b 1 = ((b - a).toNat : Int) := by rw [rangeSize_one]; split <;> (first | lia | omega)
theorem size_down {a b : Int} (h : b ≤ a) : Builtin.Range.rangeSize a b (-1) = ((a - b).toNat : Int) := by
  unfold Builtin.Range.rangeSize
  simp only [show ¬ ((-1 : Int) > 0) by decide, if_false, Int.neg_neg, Int.ediv_one]
  split <;> (first | lia | omega)
theorem small_down {a b : Int} (h : b ≤ a) (ha : -(2 ^ 62) ≤ a) (ha' : a < 2 ^ 62) (hb : -(2 ^ 62) ≤ b) (hb' : b < 2 ^ 62) : Builtin.Range.small a b (-1) = true := by
  unfold Builtin.Range.small
  rw [size_down h]
  simp only [Builtin.Range.rangeFitsLong, Bool.and_eq_true, Bool.or_eq_true, decide_eq_true_eq, beq_iff_eq, show ¬ ((-1 : Int) > 0) by decide, if_false]
  (first | lia | omega)

section
variable {G : Glo} {c : Cx} {ℓ : Loc} {H : Hp} {Q : PF → Loc → Hp → Prop} {r : Nat} {pos : Pos} {rest : List Stmt}

theorem noRo_range {I : Addr} {a st : Int} {n : Nat} : NoRo (fun i h => IsRangeIter h I (a + (i : Nat) * st) ((n : Int) - (i : Nat)) st) [I] := fun i h b hst hb => by
  rw [List.mem_singleton.mp hb]
  exact ⟨_, hst, fun xs ⟨vs, k, e, _⟩ => by simp [listObj] at e⟩
theorem St.pushAny {fr s m news} {o : Obj} {tk : Nat} (S : St c ℓ H fr s m news) : St c ℓ H fr { s with heap := s.heap.push o, toks := tk } m news :=
  S.grown (S.F.push _) fun p hp => ⟨Heap.get?_push_of_some _ (S.N p hp).1, (S.N p hp).2⟩

theorem loop_range {x : Str} {body : List Stmt} {a b st : Int} {n : Nat} {rr : Addr} {t u v : Tok} (J : Nat → Loc → Hp → Prop) {fr s m news} (S : St c ℓ H fr s m news)
    (hr : IsRange s.heap rr a b st t u v) (hsmall : Builtin.Range.small a b st = true) (hn : Builtin.Range.rangeSize a b st = (n : Int)) (h0 : J 0 ℓ H)
    (turn : ∀ i ℓ₁ H₁, i < n → J i ℓ₁ H₁ → TS G c ((x, .int (a + i * st)) :: ℓ₁) H₁ body (Turn G c rest Q (J (i + 1)))) (done : ∀ ℓ₁ H₁, J n ℓ₁ H₁ → TS G c ℓ₁ H₁ rest Q)
    {s₀ : Shared} (es : ∃ h tk, s = { s₀ with heap := h, toks := tk }) :
    wpAny (model G.prog G.w) c.A (pyIter (.ref rr)) (fun it s₂ => LoopAtV G.prog G.w c.A c.h₀ c.env x body (fun f s' => ∃ ℓ' H', Out c ℓ' H' fr s₀ s' ∧ Then G c rest Q (pf f) ℓ' H') (fun _ _ => False) it s₂) (fun _ _ => False) s := by
  refine wpAny_pyIter_range hr hsmall ?_
  have S₁ := S.pushAny (o := { cls := .type "range_iterator", data := .fields #[rawInt a, rawInt (Builtin.Range.rangeSize a b st), rawInt st] }) (tk := s.toks)
  refine for_core J S₁ (Walks.range rfl s.heap.objs.size a st n) noRo_range ?_ ?_ ?_ ?_ h0 (fun b hb hb' => absurd hb hb') (fun i v ℓ₁ H₁ hi hP hj => ?_) (fun ℓ₁ H₁ s' m' n' j S' => ⟨H₁, S', done _ _ j⟩) (by obtain ⟨_, _, rfl⟩ := es; exact ⟨_, _, rfl⟩)
  · intro hm; exact absurd S.F.ns.lt ((List.mem_singleton.mp hm) ▸ Nat.lt_irrefl _)
  · intro b hb; rw [List.mem_singleton.mp hb]; exact next_is_new S.F
  · intro p hp hI; exact absurd (Heap.lt_size (S.N p hp).1) ((List.mem_singleton.mp hI) ▸ Nat.lt_irrefl _)
  · show IsRangeIter _ _ _ _ _
    rw [hn]; simpa using Heap.get?_push_size _ rfl
  · obtain ⟨t, rfl⟩ := hP; exact turn i ℓ₁ H₁ hi hj

theorem callT {x : Str} {Ty : String} {np : Pos} {fr s m news} {e : Expr} {rest' : List Expr} {R : Value → Shared → Prop} (ok : c.Ok G r) (S : St c ℓ H fr s m news) (hb : nsIn G.K mainGlobals x = some none) (hv : bootBuiltins x = some (.type Ty)) (hn : x ≠ "__name__")
    (hx : c.env.kindOf x = some .globalImplicit) (hd : (x == ("__debug__" : Str)) = false)
    (h : TA G c ℓ H pos (e :: rest') fun vs H₁ => ∀ us, us.map pv = vs → ∀ s₁ m₁ n₁, (∃ h tk, s₁ = { s with heap := h, toks := tk }) → St c ℓ H₁ fr s₁ m₁ n₁ → wpAny (model G.prog G.w) c.A (call (.type Ty) us) R (fun _ _ => False) s₁)
    (he : starEach (e :: rest') c.env = (false, eval e c.env) :: starEach rest' c.env := by rfl) (hplain : (backTo pos (starEach rest' c.env)).any (·.1) = false := by rfl) :
    wpAny (model G.prog G.w) c.A (eval (.Call (.Name x np) (e :: rest') [] pos) c.env) R (fun _ _ => False) s :=
  Call_ (nameB ok S hb hv hn (by
    exact callWith_type1 (Tx.seq S h fun us s₁ H₁ m₁ n₁ e₁ S₁ h₁ => h₁ us rfl s₁ m₁ n₁ e₁ S₁) he hplain) hx hd)

theorem for_open {x : Str} {px : Pos} {iter : Expr} {body : List Stmt} (ok : c.Ok G r) (hx : c.env.kindOf x = some .local) (hs : ∀ x, foldedSetIterable iter c.env x = pure x)
    (h : ∀ fr s m news, St c ℓ H fr s m news → wpAny (model G.prog G.w) c.A (eval iter c.env) (fun xv s₁ => wpAny (model G.prog G.w) c.A (pyIter xv) (fun it s₂ => LoopAtV G.prog G.w c.A c.h₀ c.env x body (fun f s' => ∃ ℓ' H', Out c ℓ' H' fr s s' ∧ Then G c rest Q (pf f) ℓ' H') (fun _ _ => False) it s₂) (fun _ _ => False) s₁) (fun _ _ => False) s) :
    TS G c ℓ H (.For (.Name x px) iter body [] pos :: rest) Q := ts_cons fun fr s m n S =>
  For_invV c.h₀ hx (by show (c.cs.kind == .class || (c.cs.kind == .module && c.L != mainGlobals)) = false; rw [ok.k]; rfl) (h fr s m n S) hs PassesOwn.never

theorem ts_range1 {x : Str} {px np rp : Pos} {e : Expr} {body : List Stmt} (J : Nat → Loc → Hp → Prop) (ok : c.Ok G r) (hb : nsIn G.K mainGlobals "range" = some none)
    (h : TE G c ℓ H e fun v H₁ => ∃ k : Int, v = .int k ∧ 0 ≤ k ∧ k < 100000 ∧ J 0 ℓ H₁ ∧
      (∀ (i : Nat) ℓ₁ H₂, i < k.toNat → J i ℓ₁ H₂ → TS G c ((x, .int i) :: ℓ₁) H₂ body (Turn G c rest Q (J (i + 1)))) ∧ (∀ ℓ₁ H₂, J k.toNat ℓ₁ H₂ → TS G c ℓ₁ H₂ rest Q))
    (hx : c.env.kindOf x = some .local := by rfl) (hr : c.env.kindOf "range" = some .globalImplicit := by rfl) (he : starEach [e] c.env = [(false, eval e c.env)] := by rfl) :
    TS G c ℓ H (.For (.Name x px) (.Call (.Name "range" np) [e] [] rp) body [] pos :: rest) Q := for_open ok hx (fun _ => rfl) fun fr s m n S =>
  callT ok S hb (by boot_fast) (by decide) hr (by decide) (ta_cons (h.mono fun v H₁ h₁ => ta_nil fun us eu s₁ m₁ n₁ e₁ S₁ => by
    obtain ⟨k, rfl, k0, k1, j0, turn, done⟩ := h₁
    obtain ⟨u, rfl, e1⟩ := map1 eu
    obtain ⟨t, rfl⟩ := pv_int e1
    refine call_range_1 ?_
    refine loop_range (st := 1) (n := k.toNat) J (S₁.pushAny (tk := _)) (IsRange.new ..) (small_one (by (first | lia | omega)) (by (first | lia | omega)) (by (first | lia | omega)) (by (first | lia | omega))) (by rw [size_up k0]; congr 1; (first | lia | omega)) j0 (fun i ℓ₁ H₂ hi j => ?_) done (by obtain ⟨_, _, rfl⟩ := e₁; exact ⟨_, _, rfl⟩)
    have : (0 : Int) + (i : Int) * 1 = (i : Int) := by (first | lia | omega)
    rw [this]; exact turn i ℓ₁ H₂ hi j) he) he rfl
theorem ts_range2 {x : Str} {px np rp : Pos} {e e' : Expr} {body : List Stmt} (J : Nat → Loc → Hp → Prop) (ok : c.Ok G r) (hb : nsIn G.K mainGlobals "range" = some none)
    (h : TE G c ℓ H e fun v H₀ => TE G c ℓ H₀ e' fun v' H₁ => ∃ a b : Int, v = .int a ∧ v' = .int b ∧ -100000 ≤ a ∧ b < 100000 ∧ a ≤ b ∧ J 0 ℓ H₁ ∧
      (∀ (i : Nat) ℓ₁ H₂, i < (b - a).toNat → J i ℓ₁ H₂ → TS G c ((x, .int (a + i)) :: ℓ₁) H₂ body (Turn G c rest Q (J (i + 1)))) ∧ (∀ ℓ₁ H₂, J (b - a).toNat ℓ₁ H₂ → TS G c ℓ₁ H₂ rest Q))
    (hx : c.env.kindOf x = some .local := by rfl) (hr : c.env.kindOf "range" = some .globalImplicit := by rfl) (he : starEach [e, e'] c.env = (false, eval e c.env) :: starEach [e'] c.env := by rfl) (he' : starEach [e'] c.env = [(false, eval e' c.env)] := by rfl) :
    TS G c ℓ H (.For (.Name x px) (.Call (.Name "range" np) [e, e'] [] rp) body [] pos :: rest) Q := for_open ok hx (fun _ => rfl) fun fr s m n S =>
  callT ok S hb (by boot_fast) (by decide) hr (by decide) (ta_cons (h.mono fun v H₀ h₀ => ta_cons (h₀.mono fun v' H₁ h₁ => ta_nil fun us eu s₁ m₁ n₁ e₁ S₁ => by
    obtain ⟨a, b, rfl, rfl, k0, k1, k2, j0, turn, done⟩ := h₁
    obtain ⟨u, u', rfl, e1, e2⟩ := map2 eu
    obtain ⟨t, rfl⟩ := pv_int e1; obtain ⟨t', rfl⟩ := pv_int e2
    refine call_range_2 ?_
    refine loop_range (st := 1) (n := (b - a).toNat) J (S₁.pushAny (tk := _)) (IsRange.new ..) (small_one (by (first | lia | omega)) (by (first | lia | omega)) (by (first | lia | omega)) (by (first | lia | omega))) (size_up k2) j0 (fun i ℓ₁ H₂ hi j => ?_) done (by obtain ⟨_, _, rfl⟩ := e₁; exact ⟨_, _, rfl⟩)
    have : a + (i : Int) * 1 = a + (i : Int) := by (first | lia | omega)
    rw [this]; exact turn i ℓ₁ H₂ hi j) he') he) he (by rw [he']; rfl)
/-- range(a, b, -1) -/
theorem ts_rangeDown {x : Str} {px np rp : Pos} {e e' e'' : Expr} {body : List Stmt} (J : Nat → Loc → Hp → Prop) (ok : c.Ok G r) (hb : nsIn G.K mainGlobals "range" = some none)
    (h : TE G c ℓ H e fun v H₀ => TE G c ℓ H₀ e' fun v' H₁ => TE G c ℓ H₁ e'' fun v'' H₁ => ∃ a b : Int, v = .int a ∧ v' = .int b ∧ v'' = .int (-1) ∧ -100000 ≤ b ∧ a < 100000 ∧ b ≤ a ∧ J 0 ℓ H₁ ∧
      (∀ (i : Nat) ℓ₁ H₂, i < (a - b).toNat → J i ℓ₁ H₂ → TS G c ((x, .int (a - i)) :: ℓ₁) H₂ body (Turn G c rest Q (J (i + 1)))) ∧ (∀ ℓ₁ H₂, J (a - b).toNat ℓ₁ H₂ → TS G c ℓ₁ H₂ rest Q))
    (hx : c.env.kindOf x = some .local := by rfl) (hr : c.env.kindOf "range" = some .globalImplicit := by rfl) (he : starEach [e, e', e''] c.env = (false, eval e c.env) :: starEach [e', e''] c.env := by rfl)
    (he' : starEach [e', e''] c.env = (false, eval e' c.env) :: starEach [e''] c.env := by rfl) (he'' : starEach [e''] c.env = [(false, eval e'' c.env)] := by rfl) :
    TS G c ℓ H (.For (.Name x px) (.Call (.Name "range" np) [e, e', e''] [] rp) body [] pos :: rest) Q := for_open ok hx (fun _ => rfl) fun fr s m n S =>
  callT ok S hb (by boot_fast) (by decide) hr (by decide) (ta_cons (h.mono fun v H₀ h₀ => ta_cons (h₀.mono fun v' H₁ h₁ => ta_cons (h₁.mono fun v'' H₁ h₁ => ta_nil fun us eu s₁ m₁ n₁ e₁ S₁ => by
    obtain ⟨a, b, rfl, rfl, rfl, k0, k1, k2, j0, turn, done⟩ := h₁
    obtain ⟨u, u', u'', rfl, e1, e2, e3⟩ := map3 eu
    obtain ⟨t, rfl⟩ := pv_int e1; obtain ⟨t', rfl⟩ := pv_int e2; obtain ⟨t'', rfl⟩ := pv_int e3
    refine call_range_3 (by decide) ?_ (.inl (PyProof.noPylong_of_log2 (by decide +kernel)))
    refine loop_range (st := -1) (n := (a - b).toNat) J (S₁.pushAny (tk := _)) (IsRange.new ..) (small_down k2 (by (first | lia | omega)) (by (first | lia | omega)) (by (first | lia | omega)) (by (first | lia | omega))) (size_down k2) j0 (fun i ℓ₁ H₂ hi j => ?_) done (by obtain ⟨_, _, rfl⟩ := e₁; exact ⟨_, _, rfl⟩)
    have : a + (i : Int) * -1 = a - (i : Int) := by (first | lia | omega)
    rw [this]; exact turn i ℓ₁ H₂ hi j) he'') he') he) he (by rw [he', he'']; rfl)

theorem St.lock {l : Addr} {xs : List PV} {p₀ : PO} {fr s m news} (S : St c ℓ H fr s m news) (h0 : H l = some p₀) (hp : p₀ = .list xs ∨ p₀ = .ro xs) : St c ℓ (upd H l (.ro xs)) fr s m news := by
  refine ⟨S.F, S.N, S.l, fun a p e => ?_, S.bs, S.fs, fun q hq => ?_⟩
  · by_cases ha : a = l
    · subst ha; rw [upd_self] at e; cases e
      obtain ⟨o, x, hm⟩ := S.h _ _ h0
      refine ⟨o, ?_, hm.imp id fun z => ⟨z.1, xs, rfl⟩⟩
      rcases hp with rfl | rfl <;> exact x
    · rw [upd_ne ha] at e; exact S.h _ _ e
  · by_cases ha : q.1 = l
    · exact .inr ⟨xs, by rw [ha, upd_self]⟩
    · rw [upd_ne ha]; exact S.ap q hq
theorem St.unlock {l : Addr} {xs : List PV} {p₀ : PO} {fr s m news s₀ m₀ n₀} {H₀ : Hp} {ℓ₀ : Loc} (S₀ : St c ℓ₀ H₀ fr s₀ m₀ n₀) (h0 : H₀ l = some p₀) (hp : p₀ = .list xs ∨ p₀ = .ro xs) (S : St c ℓ H fr s m news) (h1 : H l = some (.ro xs)) : St c ℓ (upd H l p₀) fr s m news := by
  refine ⟨S.F, S.N, S.l, fun a p e => ?_, S.bs, S.fs, fun q hq => ?_⟩
  · by_cases ha : a = l
    · subst ha; rw [upd_self] at e; cases e
      obtain ⟨o, x, hm⟩ := S.h _ _ h1
      rcases hp with rfl | rfl
      · refine ⟨o, x, ?_⟩
        rcases hm with hm | ⟨hb, _⟩
        · exact .inl hm
        · obtain ⟨o', x', hm'⟩ := S₀.mem h0 (fun _ e => by cases e)
          have := S₀.N.fresh hm'
          rw [S.bs _ _ hb] at this; cases this
      · exact ⟨o, x, hm⟩
    · rw [upd_ne ha] at e; exact S.h _ _ e
  · by_cases ha : q.1 = l
    · rcases hp with rfl | rfl
      · rcases S₀.ap q hq with z | ⟨ys, z⟩ <;> (rw [ha, h0] at z; cases z)
      · exact .inr ⟨xs, by rw [ha, upd_self]⟩
    · rw [upd_ne ha]; exact S.ap q hq
theorem noRo_list {I l : Addr} {items : Array Value} : NoRo (fun i h => h.IsListIter I l i ∧ h.IsList l items) [I] := fun i h b ⟨⟨o, ho, hc, _⟩, _⟩ hb => by
  rw [List.mem_singleton.mp hb]
  exact ⟨o, ho, fun xs ⟨vs, k, e, _⟩ => by rw [e] at hc; simp [listObj] at hc⟩

/-- a loop over a list -/
theorem ts_forListE {x : Str} {px : Pos} {iter : Expr} {body : List Stmt} (ok : c.Ok G r)
    (h : TE G c ℓ H iter fun v H₁ => ∃ (J : Nat → Loc → Hp → Prop) (l : Addr) (xs : List PV) (p₀ : PO), v = .ref l ∧ H₁ l = some p₀ ∧ (p₀ = .list xs ∨ p₀ = .ro xs) ∧ J 0 ℓ (upd H₁ l (.ro xs)) ∧ (∀ i ℓ₁ H₂, J i ℓ₁ H₂ → H₂ l = some (.ro xs)) ∧
      (∀ (i : Nat) y ℓ₁ H₂, xs[i]? = some y → J i ℓ₁ H₂ → TS G c ((x, y) :: ℓ₁) H₂ body (Turn G c rest Q (J (i + 1)))) ∧ (∀ ℓ₁ H₂, J xs.length ℓ₁ H₂ → TS G c ℓ₁ (upd H₂ l p₀) rest Q))
    (hx : c.env.kindOf x = some .local := by rfl) (hs : ∀ x, foldedSetIterable iter c.env x = pure x := by intro _; rfl) :
    TS G c ℓ H (.For (.Name x px) iter body [] pos :: rest) Q := for_open ok hx hs fun fr s m news S =>
  Tx.seq S h fun u s₁ H₁ m₁ n₁ e₁ S₁ h₁ => by
    obtain ⟨J, l, xs, p₀, eu, hl, hp, j0, jl, turn, done⟩ := h₁
    cases pv_ref eu
    have hL : IsL H₁ l xs := by rcases hp with rfl | rfl; exact .inl hl; exact .inr hl
    obtain ⟨vs, k, hg, e⟩ := S₁.list hL
    have hlen := len_of_map e
    refine wpAny_pyIter_list (isList_of hg) ?_
    have hlt : l < s₁.heap.objs.size := Heap.lt_size hg
    have S₂ := (S₁.lock hl hp).pushAny (o := { cls := .type "list_iterator", data := .fields #[.ref l, .int 0 0] }) (tk := s₁.toks)
    have W := Walks.list (prog := G.prog) (w := G.w) (A := c.A) rfl s₁.heap.objs.size l (Nat.ne_of_lt hlt) vs.toArray
    have hsz : vs.toArray.size = xs.length := by simp [hlen]
    rw [hsz] at W
    refine for_core J S₂ W noRo_list ?_ ?_ ?_ ?_ j0 (fun b hb hb' i ℓ' H' j => ?_) (fun i v ℓ₁ H₂ hi hP hj => ?_) (fun ℓ₁ H₂ s' m' n' j S' => ⟨_, S₁.unlock hl hp S' (jl _ _ _ j), done _ _ j⟩) (by obtain ⟨_, _, rfl⟩ := e₁; exact ⟨_, _, rfl⟩)
    · intro hm
      rcases List.mem_cons.mp hm with e | hm
      · exact absurd S₁.F.ns.lt (e ▸ Nat.lt_irrefl _)
      · have hml := List.mem_singleton.mp hm
        obtain ⟨o, x, hm' | ⟨hb, _⟩⟩ := S₁.h _ _ hl
        · exact (S₁.N _ hm').2.1 hml.symm
        · have := Heap.lt_size (S₁.bs _ _ hb)
          rw [← hml] at this
          exact absurd (Nat.lt_of_lt_of_le this S₁.F.above) (Nat.lt_irrefl _)
    · intro b hb; rw [List.mem_singleton.mp hb]; exact next_is_new S₁.F
    · intro p hp hI; exact absurd (Heap.lt_size (S₁.N p hp).1) ((List.mem_singleton.mp hI) ▸ Nat.lt_irrefl _)
    · exact ⟨⟨_, Heap.get?_push_size _ rfl, rfl, rfl⟩, (isList_of hg).push _⟩
    · rcases List.mem_cons.mp hb with rfl | hb
      · exact absurd (List.mem_singleton.mpr rfl) hb'
      · rw [List.mem_singleton.mp hb]; exact ⟨xs, jl _ _ _ j⟩
    · refine turn i (pv v) ℓ₁ H₂ ?_ hj
      have hv : vs[i]? = some v := by simpa using hP
      rw [← e, List.getElem?_map, hv]; rfl
/-- a loop over a list -/
theorem ts_forList {x : Str} {px : Pos} {iter : Expr} {body : List Stmt} (J : Nat → Loc → Hp → Prop) (ok : c.Ok G r)
    (h : TE G c ℓ H iter fun v H₁ => ∃ l xs p₀, v = .ref l ∧ H₁ l = some p₀ ∧ (p₀ = .list xs ∨ p₀ = .ro xs) ∧ J 0 ℓ (upd H₁ l (.ro xs)) ∧ (∀ i ℓ₁ H₂, J i ℓ₁ H₂ → H₂ l = some (.ro xs)) ∧
      (∀ (i : Nat) y ℓ₁ H₂, xs[i]? = some y → J i ℓ₁ H₂ → TS G c ((x, y) :: ℓ₁) H₂ body (Turn G c rest Q (J (i + 1)))) ∧ (∀ ℓ₁ H₂, J xs.length ℓ₁ H₂ → TS G c ℓ₁ (upd H₂ l p₀) rest Q))
    (hx : c.env.kindOf x = some .local := by rfl) (hs : ∀ x, foldedSetIterable iter c.env x = pure x := by intro _; rfl) :
    TS G c ℓ H (.For (.Name x px) iter body [] pos :: rest) Q :=
  ts_forListE ok (h.mono fun v H₁ ⟨l, xs, p₀, e1, e2, e3, e4, e5, e6, e7⟩ => ⟨J, l, xs, p₀, e1, e2, e3, e4, e5, e6, e7⟩) hx hs
end

section
variable {G : Glo} {c : Cx} {ℓ : Loc} {H : Hp} {Q : PF → Loc → Hp → Prop} {r : Nat} {pos : Pos} {rest : List Stmt}

theorem noRo_enum {e it l : Addr} {items : Array Value} : NoRo (fun i h => (∃ old, IsEnum h e it i old) ∧ h.IsListIter it l i ∧ h.IsList l items) [e, it] := fun i h b ⟨⟨old, he⟩, ⟨o, ho, hc, _⟩, _⟩ hb => by
  rcases List.mem_cons.mp hb with rfl | hb
  · exact ⟨_, he, fun xs ⟨vs, k, e, _⟩ => by simp [listObj] at e⟩
  · rw [List.mem_singleton.mp hb]
    exact ⟨o, ho, fun xs ⟨vs, k, e, _⟩ => by rw [e] at hc; simp [listObj] at hc⟩

theorem pair_core {xi xc : Str} {pk pc pt : Pos} {x1 : Nat} {body : List Stmt} {I : Addr} {fp wr : List Addr} {n : Nat} {Pt : Nat → Array Value → Prop} {Wst : Nat → Heap → Prop} {Mid : Nat → Addr → Heap → Prop} (J : Nat → Loc → Hp → Prop)
    (ok : c.Ok G r) (hxi : c.env.kindOf xi = some .local) (hxc : c.env.kindOf xc = some .local) {fr s m news} (S : St c ℓ H fr s m news)
    (W : WalksT G.prog G.w c.A I fp wr n Pt Wst Mid) (hns : NoRo Wst wr) (h2 : ∀ i vals, Pt i vals → ∃ v0 v1, vals = #[v0, v1]) (hL : c.L ∉ fp) (hwr : ∀ b ∈ wr, c.h₀.get? b = none) (hnw : ∀ p ∈ news, p.1 ∉ wr) (hst : Wst 0 s.heap)
    (h0 : J 0 ℓ H) (hro : ∀ b ∈ fp, b ∉ wr → ∀ i ℓ' H', J i ℓ' H' → ∃ xs, H' b = some (.ro xs))
    (turn : ∀ i v0 v1 ℓ₁ H₁, i < n → Pt i #[v0, v1] → J i ℓ₁ H₁ → TS G c ((xc, pv v1) :: (xi, pv v0) :: ℓ₁) H₁ body (Turn G c rest Q (J (i + 1))))
    (done : ∀ ℓ₁ H₁ s' m' n', J n ℓ₁ H₁ → St c ℓ₁ H₁ fr s' m' n' → ∃ H₂, St c ℓ₁ H₂ fr s' m' n' ∧ TS G c ℓ₁ H₂ rest Q) {s₀ : Shared} (es : ∃ h tk, s = { s₀ with heap := h, toks := tk }) {R : Result → Shared → Prop}
    (hR : ∀ f s' ℓ' H', Out c ℓ' H' fr s₀ s' → Then G c rest Q (pf f) ℓ' H' → R (.ok f) s') :
    codeAny (model G.prog G.w) c.A (.forLoop (.Tuple [.Name xi pk, .Name xc pc] x1 pt) (.ref I) body [] c.env) R s := by
  have offwr : ∀ {H' : Hp} {ns : List (Addr × Obj)}, HIs c.base ns H' → (∀ p ∈ ns, p.1 ∉ wr) → ∀ b ∈ wr, H' b = none := fun {H' ns} hh ho b hb => by
    cases e : H' b with
    | none => rfl
    | some p =>
      obtain ⟨o, _, hm | ⟨hm, _⟩⟩ := hh _ _ e
      · exact absurd hb (ho _ hm)
      · have := S.bs _ _ hm; rw [hwr b hb] at this; cases this
  have hLw : c.L ∉ wr := fun h => hL (W.sub _ h)
  have old : ∀ b o, c.h₀.get? b = some o → b ∉ wr := fun b o e hb => by rw [hwr b hb] at e; cases e
  refine codeAny_forLoop_any (fun k s' => ∃ i ℓ' H' m' n', (∃ h tk, s' = { s₀ with heap := h, toks := tk }) ∧ St c ℓ' H' fr s' m' n' ∧ Wst i s'.heap ∧ (∀ p ∈ n', p.1 ∉ wr) ∧ J i ℓ' H' ∧ i ≤ n ∧ k = n + 1 - i) ?_ (n + 1)
    ⟨0, ℓ, H, m, news, es, S, hst, hnw, h0, Nat.zero_le _, rfl⟩
  rintro k s' ⟨i, ℓ', H', m', n', es', S', hst', hoff, hj, hi, rfl⟩
  have next : ∀ (h₁ : Heap) (tk₁ : Nat), (∀ b o, b ∉ wr → s'.heap.get? b = some o → h₁.get? b = some o) → St c ℓ' H' fr { s' with heap := h₁, toks := tk₁ } m' n' := fun h₁ tk₁ hk =>
    S'.grown ⟨S'.F.ns.at' fun o e => hk _ o hLw e, fun b o e => hk b o (old b o e) (S'.F.keep b o e), S'.F.above⟩ fun p hp => ⟨hk _ _ (hoff p hp) (S'.N p hp).1, (S'.N p hp).2⟩
  by_cases hlt : i < n
  · refine W.item i _ _ _ hlt hst' fun T vals h₁ tk₁ hPt _ hT hMid hk₁ => ?_
    obtain ⟨v0, v1, rfl⟩ := h2 i vals hPt
    refine W.go _ x1 pt i T _ _ _ hMid fun h₂ hst₂ hk₂ => ?_
    have ht₂ : h₂.IsTuple T #[v0, v1] := hT.at fun o e => hk₂ T o (W.apart i T h₁ hMid) e
    refine assign_Tuple_tuple rfl ht₂ rfl rfl fun h₃ hx₃ => ?_
    replace hx₃ : Heap.ExtBut h₂.objs.size h₂ h₃ := hx₃
    have up₃ : ∀ b o, h₂.get? b = some o → h₃.get? b = some o := fun b o x => hx₃ b o (Nat.ne_of_lt (Heap.lt_size x)) x
    have S₃ := next h₃ tk₁ fun b o hb x => up₃ b o (hk₂ b o hb (hk₁ b o hb x))
    have hst₃ : Wst (i + 1) h₃ := W.frame _ _ _ hst₂ fun b hb o e => up₃ b o e
    have S₄ : St c ℓ' H' (ownOf c.h₀ fp h₃ ++ fr) { s' with heap := h₃, toks := tk₁ } m' (ownOf c.h₀ fp h₃ ++ n') := by
      refine ⟨S₃.F, (news_ownOf hL).append S₃.N, S₃.l, fun a p e => ?_, S.bs, fun q hq => ?_, fun q hq => ?_⟩
      · obtain ⟨o, x, hm⟩ := S₃.h _ _ e; exact ⟨o, x, hm.imp (List.mem_append_right _) id⟩
      · rcases List.mem_append.mp hq with h | h
        · exact List.mem_append_left _ h
        · exact List.mem_append_right _ (S₃.fs q h)
      · rcases List.mem_append.mp hq with h | h
        · by_cases hb : q.1 ∈ wr
          · exact .inl (offwr S₃.h hoff _ hb)
          · exact .inr (hro _ (ownOf_sub _ h) hb _ _ _ hj)
        · exact S₃.ap q h
    have hstep : TO G c ℓ' H' [assign (.Name xi pk) c.env, assign (.Name xc pc) c.env] [pv v0, pv v1] fun ℓ'' H'' => ℓ'' = (xc, pv v1) :: (xi, pv v0) :: ℓ' ∧ H'' = H' := to_name ok hxi (to_name ok hxc (to_nil ⟨rfl, rfl⟩))
    have run := hstep [v0, v1] rfl _ _ _ _ S₄
    refine wpAny_mono run (fun _ s₅ ⟨ℓ₅, H₅, ⟨e₅, m₅, n₅, S₅⟩, eℓ, eH⟩ => ?_) fun _ _ x => x.elim
    subst eℓ eH
    have heap₅ : ∀ b ∈ fp, ∀ o, h₃.get? b = some o → s₅.heap.get? b = some o := fun b hb o e => by
      cases hn : c.h₀.get? b with
      | some o₀ =>
        have : o₀ = o := by have q := S₃.F.keep b o₀ hn; exact Option.some.inj (q.symm.trans e)
        exact this ▸ S₅.F.keep b o₀ hn
      | none => exact (S₅.N _ (S₅.fs _ (List.mem_append_left _ (mem_ownOf hb hn e)))).1
    refine wpAny_mono (turn i v0 v1 ℓ' H₅ hlt hPt hj _ _ _ _ S₅) (fun f s₆ ⟨ℓ₆, H₆, o₆, q⟩ => ?_) fun _ _ x => x.elim
    have e₅' : ∃ h tk, s₅ = { s₀ with heap := h, toks := tk } := by obtain ⟨_, _, rfl⟩ := es'; obtain ⟨_, _, rfl⟩ := e₅; exact ⟨_, _, rfl⟩
    have o₇ : Out c ℓ₆ H₆ fr s₀ s₆ := (Out.trans (.of e₅' S₅) o₆).less fun q hq => List.mem_append_right _ hq
    have fin : J (i + 1) ℓ₆ H₆ → ∃ m, m < n + 1 - i ∧ ∃ i ℓ' H' m' n', (∃ h tk, s₆ = { s₀ with heap := h, toks := tk }) ∧ St c ℓ' H' fr s₆ m' n' ∧ Wst i s₆.heap ∧ (∀ p ∈ n', p.1 ∉ wr) ∧ J i ℓ' H' ∧ i ≤ n ∧ m = n + 1 - i := fun j => by
      obtain ⟨e₆, m₆, n₆, S₆⟩ := o₆
      have hst₆ : Wst (i + 1) s₆.heap := W.frame _ _ _ hst₃ fun b hb o e => by
        cases hn : c.h₀.get? b with
        | some o₀ =>
          have : o₀ = o := by have q := S₃.F.keep b o₀ hn; exact Option.some.inj (q.symm.trans e)
          exact this ▸ S₆.F.keep b o₀ hn
        | none => exact (S₆.N _ (S₆.fs _ (List.mem_append_left _ (mem_ownOf hb hn e)))).1
      refine ⟨n + 1 - (i + 1), by (first | lia | omega), i + 1, ℓ₆, H₆, m₆, n₆.filter (fun p => decide (p.1 ∉ wr)), o₇.1, ⟨S₆.F, fun p hp => S₆.N p (List.mem_filter.mp hp).1, S₆.l, fun a p e => ?_, S.bs, fun q hq => ?_, fun q hq => S₆.ap q (List.mem_append_right _ hq)⟩, hst₆, fun p hp => of_decide_eq_true (List.mem_filter.mp hp).2, j, hlt, rfl⟩
      · obtain ⟨o, x, hm | hm⟩ := S₆.h _ _ e
        · refine ⟨o, x, .inl (List.mem_filter.mpr ⟨hm, decide_eq_true fun hb => ?_⟩)⟩
          obtain ⟨oI, hg, hn⟩ := hns _ _ _ hst₃ hb
          have hmI := mem_ownOf (h₀ := c.h₀) (W.sub _ hb) (hwr a hb) hg
          rcases S₆.ap _ (List.mem_append_left _ hmI) with z | ⟨xs, z⟩
          · rw [e] at z; cases z
          · rw [e] at z; cases z
            have e1 := (S₆.N _ hm).1
            have e2 := (S₆.N _ (S₆.fs _ (List.mem_append_left _ hmI))).1
            rw [e1] at e2; cases e2
            exact hn xs x
        · exact ⟨o, x, .inr hm⟩
      · exact List.mem_filter.mpr ⟨S₆.fs q (List.mem_append_right _ hq), decide_eq_true (hnw _ (S.fs q hq))⟩
    cases f with
    | ret v => exact hR _ _ _ _ o₇ q
    | brk => exact hR _ _ _ _ o₇ q
    | next => exact fin q
    | cont => exact fin q
  · have hin : i = n := by (first | lia | omega)
    subst hin
    refine W.done _ _ _ hst' fun h₁ tk₁ hk₁ => wpAny_execs_nil ?_
    have S₁ := next h₁ tk₁ hk₁
    obtain ⟨H₂, S₂, q⟩ := done _ _ _ _ _ hj S₁
    exact hR .next _ _ _ (.of (by obtain ⟨_, _, rfl⟩ := es'; exact ⟨_, _, rfl⟩) S₂) q

/-- for i, y in enumerate(l) -/
theorem ts_enum {xi xc : Str} {pk pc pt np ep : Pos} {x1 : Nat} {e : Expr} {body : List Stmt} (J : Nat → Loc → Hp → Prop) (ok : c.Ok G r) (hb : nsIn G.K mainGlobals "enumerate" = some none)
    (h : TE G c ℓ H e fun v H₁ => ∃ l xs p₀, v = .ref l ∧ H₁ l = some p₀ ∧ (p₀ = .list xs ∨ p₀ = .ro xs) ∧ J 0 ℓ (upd H₁ l (.ro xs)) ∧ (∀ i ℓ₁ H₂, J i ℓ₁ H₂ → H₂ l = some (.ro xs)) ∧
      (∀ (i : Nat) y ℓ₁ H₂, xs[i]? = some y → J i ℓ₁ H₂ → TS G c ((xc, y) :: (xi, .int i) :: ℓ₁) H₂ body (Turn G c rest Q (J (i + 1)))) ∧ (∀ ℓ₁ H₂, J xs.length ℓ₁ H₂ → TS G c ℓ₁ (upd H₂ l p₀) rest Q))
    (hxi : c.env.kindOf xi = some .local := by rfl) (hxc : c.env.kindOf xc = some .local := by rfl) (hr : c.env.kindOf "enumerate" = some .globalImplicit := by rfl) (he : starEach [e] c.env = [(false, eval e c.env)] := by rfl) :
    TS G c ℓ H (.For (.Tuple [.Name xi pk, .Name xc pc] x1 pt) (.Call (.Name "enumerate" np) [e] [] ep) body [] pos :: rest) Q := ts_cons fun fr s m news S =>
  wpAny_For (callT ok S hb boot_enumerate (by decide) hr (by decide) (ta_cons (h.mono fun v H₁ h₁ => ta_nil fun us eu s₁ m₁ n₁ e₁ S₁ => by
    obtain ⟨l, xs, p₀, rfl, hl, hp, j0, jl, turn, done⟩ := h₁
    obtain ⟨u, rfl, eu'⟩ := map1 eu
    cases pv_ref eu'
    have hL : IsL H₁ l xs := by rcases hp with rfl | rfl; exact .inl hl; exact .inr hl
    obtain ⟨vs, k, hg, ev⟩ := S₁.list hL
    have hlen := len_of_map ev
    have hlt : l < s₁.heap.objs.size := Heap.lt_size hg
    refine call_enumerate_list (isList_of hg) fun h' he' hit hsz hk => ?_
    refine wpAny_pyIter_enum he' ?_
    have S₂ : St c ℓ (upd H₁ l (.ro xs)) fr { s₁ with heap := h', toks := s₁.toks } m₁ n₁ := (S₁.lock hl hp).grown (S₁.F.keeps hk) (S₁.N.grown hk)
    have hsz : vs.toArray.size = xs.length := by simp [hlen]
    have W := WalksT.enumerate (prog := G.prog) (w := G.w) (A := c.A) rfl (s₁.heap.objs.size + 1) s₁.heap.objs.size l (Nat.succ_ne_self _) (Nat.ne_of_lt (Nat.lt_succ_of_lt hlt)) (Nat.ne_of_lt hlt) vs.toArray
    rw [hsz] at W
    have hab : c.h₀.objs.size ≤ c.L := S₁.F.above
    have hLs : c.L < s₁.heap.objs.size := S₁.F.ns.lt
    refine pair_core J ok hxi hxc S₂ W noRo_enum (fun i vals ⟨t, x, _, e⟩ => ⟨_, _, e⟩) ?_ ?_ ?_ ?_ j0 (fun b hb hb' i ℓ' H' j => ?_) (fun i v0 v1 ℓ₁ H₂ hi hP hj => ?_) (fun ℓ₁ H₂ s' m' n' j S' => ⟨_, S₁.unlock hl hp S' (jl _ _ _ j), done _ _ j⟩) (by obtain ⟨_, _, rfl⟩ := e₁; exact ⟨_, _, rfl⟩) (fun f s' ℓ' H' o q => ⟨ℓ', H', o, q⟩)
    · intro hm
      rcases List.mem_cons.mp hm with e | hm
      · exact Nat.ne_of_lt (Nat.lt_succ_of_lt hLs) e
      · rcases List.mem_cons.mp hm with e | hm
        · exact Nat.ne_of_lt hLs e
        · have hml := List.mem_singleton.mp hm
          obtain ⟨o, x, hm' | ⟨hb, _⟩⟩ := S₁.h _ _ hl
          · exact (S₁.N _ hm').2.1 hml.symm
          · have := Heap.lt_size (S₁.bs _ _ hb)
            rw [← hml] at this
            exact Nat.lt_irrefl _ (Nat.lt_of_lt_of_le this hab)
    · intro b hb
      rcases List.mem_cons.mp hb with rfl | hb
      · exact Heap.get?_none_of_le (Nat.le_trans hab (Nat.le_of_lt (Nat.lt_succ_of_lt hLs)))
      · rw [List.mem_singleton.mp hb]; exact Heap.get?_none_of_le (Nat.le_trans hab (Nat.le_of_lt hLs))
    · intro p hp hI
      have := Heap.lt_size (S₁.N p hp).1
      rcases List.mem_cons.mp hI with e | hI
      · exact Nat.ne_of_lt (Nat.lt_succ_of_lt this) e
      · exact Nat.ne_of_lt this (List.mem_singleton.mp hI)
    · exact ⟨⟨_, he'⟩, hit, (isList_of hg).at fun o e => hk l o e⟩
    · have : b = l := by
        rcases List.mem_cons.mp hb with rfl | hb
        · exact absurd (List.mem_cons_self ..) hb'
        · rcases List.mem_cons.mp hb with rfl | hb
          · exact absurd (List.mem_cons_of_mem _ (List.mem_cons_self ..)) hb'
          · exact List.mem_singleton.mp hb
      rw [this]; exact ⟨xs, jl _ _ _ j⟩
    · obtain ⟨t, x, hx, ee⟩ := hP
      have e0 : v0 = .int i t ∧ v1 = x := by simpa using ee
      obtain ⟨rfl, rfl⟩ := e0
      refine turn i (pv v1) ℓ₁ H₂ ?_ hj
      have hv : vs[i]? = some v1 := by simpa using hx
      rw [← ev, List.getElem?_map, hv]; rfl) he) he rfl) (fun _ => rfl)
end

end Mine
end
section
namespace Mine

noncomputable def val (B : Nat) : List Nat → Nat
  | [] => 0
  | x :: r => x + B * val B r
noncomputable def limbsF (B : Nat) : Nat → Nat → List Nat
  | 0, _ => []
  | f + 1, n => if n = 0 then [] else n % B :: limbsF B f (n / B)
noncomputable def limbs (B n : Nat) : List Nat := limbsF B n n
noncomputable def trimZ (xs : List Nat) : List Nat := (xs.reverse.dropWhile (· == 0)).reverse

theorem limbsF_enough {B : Nat} (hB : 2 ≤ B) : ∀ (f g n : Nat), n ≤ f → n ≤ g → limbsF B f n = limbsF B g n
  | 0, g, n, hf, hg => by
    have : n = 0 := by (first | lia | omega)
    subst this
    cases g <;> simp [limbsF]
  | f + 1, 0, n, hf, hg => by
    have : n = 0 := by (first | lia | omega)
    subst this
    simp [limbsF]
  | f + 1, g + 1, n, hf, hg => by
    unfold limbsF
    split
    · rfl
    · rename_i h
      have : n / B < n := Nat.div_lt_self (by (first | lia | omega)) (by (first | lia | omega))
      rw [limbsF_enough hB f g (n / B) (by (first | lia | omega)) (by (first | lia | omega))]
theorem limbs_zero (B : Nat) : limbs B 0 = [] := rfl
theorem limbs_pos {B n : Nat} (hB : 2 ≤ B) (h : 0 < n) : limbs B n = n % B :: limbs B (n / B) := by
  have : n / B < n := Nat.div_lt_self (by (first | lia | omega)) (by (first | lia | omega))
  unfold limbs
  cases n with
  | zero => (first | lia | omega)
  | succ m =>
    show limbsF B (m + 1) (m + 1) = _
    rw [limbsF, if_neg (by (first | lia | omega))]
    rw [limbsF_enough hB m ((m + 1) / B) ((m + 1) / B) (by (first | lia | omega)) (by (first | lia | omega))]
theorem limbs_ind {B : Nat} (hB : 2 ≤ B) {P : Nat → Prop} (h0 : P 0) (h : ∀ n, 0 < n → P (n / B) → P n) : ∀ n, P n := by
  intro n
  induction n using Nat.strongRecOn with
  | _ n ih =>
    rcases Nat.eq_zero_or_pos n with rfl | hp
    · exact h0
    · exact h n hp (ih _ (Nat.div_lt_self (by (first | lia | omega)) (by (first | lia | omega))))
theorem val_limbs {B : Nat} (hB : 2 ≤ B) (n : Nat) : val B (limbs B n) = n := by
  refine limbs_ind hB (P := fun n => val B (limbs B n) = n) rfl (fun n hp ih => ?_) n
  rw [limbs_pos hB hp, val, ih]
  exact Nat.mod_add_div n B
theorem limbs_lt {B : Nat} (hB : 2 ≤ B) (n : Nat) : ∀ x ∈ limbs B n, x < B := by
  refine limbs_ind hB (P := fun n => ∀ x ∈ limbs B n, x < B) (by simp [limbs_zero]) (fun n hp ih => ?_) n
  rw [limbs_pos hB hp]
  intro x hx
  rcases List.mem_cons.mp hx with rfl | hx
  · exact Nat.mod_lt _ (by (first | lia | omega))
  · exact ih x hx
theorem limbs_nil_iff {B n : Nat} (hB : 2 ≤ B) : limbs B n = [] ↔ n = 0 := by
  constructor
  · intro h
    have := val_limbs hB n
    rw [h] at this; exact this.symm
  · rintro rfl; rfl
theorem val_append (B : Nat) : ∀ xs ys : List Nat, val B (xs ++ ys) = val B xs + B ^ xs.length * val B ys
  | [], ys => by simp [val]
  | x :: r, ys => by
    rw [List.cons_append, val, val, val_append B r ys, List.length_cons, Nat.pow_succ, Nat.mul_add]
    have : B * (B ^ r.length * val B ys) = B ^ r.length * B * val B ys := by rw [← Nat.mul_assoc, Nat.mul_comm B]
    (first | lia | omega)
theorem val_lt {B : Nat} (hB : 0 < B) : ∀ {xs : List Nat}, (∀ x ∈ xs, x < B) → val B xs < B ^ xs.length
  | [], _ => by simp [val]
  | x :: r, h => by
    have h1 := h x (List.mem_cons_self ..)
    have h2 := val_lt hB (xs := r) fun y hy => h y (List.mem_cons_of_mem _ hy)
    rw [val, List.length_cons, Nat.pow_succ, Nat.mul_comm (B ^ r.length)]
    have h3 : B * (val B r + 1) ≤ B * B ^ r.length := Nat.mul_le_mul_left _ h2
    rw [Nat.mul_add, Nat.mul_one] at h3
    (first | lia | omega)
theorem val_replicate (B n : Nat) : val B (List.replicate n 0) = 0 := by
  induction n with
  | zero => rfl
  | succ n ih => rw [List.replicate_succ, val, ih]; simp
/-- a list of digits that is as long as its value asks is the list of that value -/
theorem limbs_of {B : Nat} (hB : 2 ≤ B) : ∀ {xs : List Nat}, (∀ x ∈ xs, x < B) → (xs = [] ∨ B ^ (xs.length - 1) ≤ val B xs) → limbs B (val B xs) = xs
  | [], _, _ => rfl
  | [x], h, hv => by
    have h1 := h x (List.mem_cons_self ..)
    have hx : 0 < x := by
      rcases hv with hv | hv
      · cases hv
      · simp [val] at hv; (first | lia | omega)
    simp only [val, Nat.mul_zero, Nat.add_zero]
    rw [limbs_pos hB hx, Nat.mod_eq_of_lt h1, Nat.div_eq_of_lt h1]; rfl
  | x :: y :: r, h, hv => by
    have h1 := h x (List.mem_cons_self ..)
    have h2 : ∀ z ∈ y :: r, z < B := fun z hz => h z (List.mem_cons_of_mem _ hz)
    have hv : B ^ (r.length + 1) ≤ val B (x :: y :: r) := by
      rcases hv with hv | hv
      · cases hv
      · simpa using hv
    have e : val B (x :: y :: r) = x + B * val B (y :: r) := rfl
    have hr : B ^ r.length ≤ val B (y :: r) := by
      rcases Nat.lt_or_ge (val B (y :: r)) (B ^ r.length) with hlt | hge
      · exfalso
        have h3 : B * (val B (y :: r) + 1) ≤ B * B ^ r.length := Nat.mul_le_mul_left _ hlt
        rw [Nat.mul_add, Nat.mul_one] at h3
        rw [Nat.pow_succ, Nat.mul_comm] at hv
        (first | lia | omega)
      · exact hge
    have hp : 0 < B ^ r.length := Nat.pow_pos (by (first | lia | omega))
    have hpos : 0 < val B (x :: y :: r) := by
      have : 0 < B * val B (y :: r) := Nat.mul_pos (by (first | lia | omega)) (by (first | lia | omega))
      (first | lia | omega)
    rw [limbs_pos hB hpos, e, Nat.add_mul_mod_self_left, Nat.mod_eq_of_lt h1, Nat.add_mul_div_left _ _ (by (first | lia | omega)), Nat.div_eq_of_lt h1, Nat.zero_add]
    rw [limbs_of hB h2 (.inr (by simpa using hr))]
theorem limbs_len_lt {B n k : Nat} (hB : 2 ≤ B) (h : n < B ^ k) : (limbs B n).length ≤ k := by
  induction k generalizing n with
  | zero =>
    have : n = 0 := by simp at h; (first | lia | omega)
    subst this; simp [limbs_zero]
  | succ k ih =>
    rcases Nat.eq_zero_or_pos n with rfl | hp
    · simp [limbs_zero]
    · rw [limbs_pos hB hp, List.length_cons]
      have : n / B < B ^ k := by
        rw [Nat.div_lt_iff_lt_mul (by (first | lia | omega))]
        rwa [Nat.pow_succ] at h
      have := ih this
      (first | lia | omega)
theorem limbs_len_ge {B n : Nat} (hB : 2 ≤ B) (h : 0 < n) : B ^ ((limbs B n).length - 1) ≤ n := by
  refine limbs_ind hB (P := fun n => 0 < n → B ^ ((limbs B n).length - 1) ≤ n) (by (first | lia | omega)) (fun n hp ih _ => ?_) n h
  rw [limbs_pos hB hp, List.length_cons, Nat.add_sub_cancel]
  rcases Nat.eq_zero_or_pos (n / B) with e | hq
  · rw [e]; simp [limbs_zero]; (first | lia | omega)
  · have := ih hq
    have hl : 0 < (limbs B (n / B)).length := by
      rcases Nat.eq_zero_or_pos (limbs B (n / B)).length with e | e
      · have := (limbs_nil_iff hB).mp (List.eq_nil_of_length_eq_zero e); (first | lia | omega)
      · exact e
    have e2 : B ^ (limbs B (n / B)).length = B ^ ((limbs B (n / B)).length - 1) * B := by
      rw [← Nat.pow_succ]; congr 1; (first | lia | omega)
    rw [e2]
    calc B ^ ((limbs B (n / B)).length - 1) * B ≤ n / B * B := Nat.mul_le_mul_right _ this
      _ ≤ n := Nat.div_mul_le_self n B
theorem limbs_len_lt' {B n : Nat} (hB : 2 ≤ B) : n < B ^ (limbs B n).length := by
  have := val_lt (B := B) (by (first | lia | omega)) (limbs_lt hB n)
  rwa [val_limbs hB] at this
theorem limbs_len_mono {B a b : Nat} (hB : 2 ≤ B) (h : a ≤ b) : (limbs B a).length ≤ (limbs B b).length := limbs_len_lt hB (Nat.lt_of_le_of_lt h (limbs_len_lt' hB))
theorem eight_le {w : Nat} (h : 3 ≤ w) : 8 ≤ 2 ^ w := by
  have := Nat.pow_le_pow_right (n := 2) (by (first | lia | omega)) h
  (first | lia | omega)
theorem limbs_len_small {w n : Nat} (hw : 3 ≤ w) (h : n < 2 ^ 60) : (limbs (2 ^ w) n).length ≤ 20 := by
  refine limbs_len_lt (by have := eight_le hw; (first | lia | omega)) (Nat.lt_of_lt_of_le h ?_)
  have e : (2 ^ w) ^ 20 = 2 ^ (w * 20) := (Nat.pow_mul 2 w 20).symm
  rw [e]
  have h1 : 60 ≤ w * 20 := by (first | lia | omega)
  exact Nat.pow_le_pow_right (by (first | lia | omega)) h1

theorem trimZ_snoc_zero (xs : List Nat) : trimZ (xs ++ [0]) = trimZ xs := by simp [trimZ]
theorem trimZ_snoc_pos (xs : List Nat) {x : Nat} (h : x ≠ 0) : trimZ (xs ++ [x]) = xs ++ [x] := by simp [trimZ, h]
theorem trimZ_val (B : Nat) (xs : List Nat) : val B (trimZ xs) = val B xs := by
  induction h : xs.length generalizing xs with
  | zero => rw [List.eq_nil_of_length_eq_zero h]; rfl
  | succ n ih =>
    obtain ⟨ys, y, rfl⟩ : ∃ ys y, xs = ys ++ [y] := ⟨xs.dropLast, xs.getLast (by intro e; rw [e] at h; simp at h), (List.dropLast_concat_getLast _).symm⟩
    by_cases hy : y = 0
    · subst hy
      rw [trimZ_snoc_zero, ih ys (by simpa using h), val_append]; simp [val]
    · rw [trimZ_snoc_pos _ hy]
theorem trimZ_mem {xs : List Nat} {x : Nat} (h : x ∈ trimZ xs) : x ∈ xs := by
  unfold trimZ at h
  have := List.mem_reverse.mp h
  exact List.mem_reverse.mp ((List.dropWhile_sublist _).subset this)
theorem trimZ_last {B : Nat} (hB : 0 < B) (xs : List Nat) : trimZ xs = [] ∨ B ^ ((trimZ xs).length - 1) ≤ val B (trimZ xs) := by
  induction h : xs.length generalizing xs with
  | zero => rw [List.eq_nil_of_length_eq_zero h]; exact .inl rfl
  | succ n ih =>
    obtain ⟨ys, y, rfl⟩ : ∃ ys y, xs = ys ++ [y] := ⟨xs.dropLast, xs.getLast (by intro e; rw [e] at h; simp at h), (List.dropLast_concat_getLast _).symm⟩
    by_cases hy : y = 0
    · subst hy
      rw [trimZ_snoc_zero]; exact ih ys (by simpa using h)
    · right
      rw [trimZ_snoc_pos _ hy, val_append]
      simp only [List.length_append, List.length_cons, List.length_nil, val, Nat.mul_zero, Nat.add_zero]
      have : ys.length + (0 + 1) - 1 = ys.length := by (first | lia | omega)
      rw [this]
      have : B ^ ys.length * 1 ≤ B ^ ys.length * y := Nat.mul_le_mul_left _ (by (first | lia | omega))
      (first | lia | omega)
theorem trimZ_limbs {B : Nat} (hB : 2 ≤ B) {xs : List Nat} (h : ∀ x ∈ xs, x < B) : trimZ xs = limbs B (val B xs) := by
  have := limbs_of hB (xs := trimZ xs) (fun x hx => h x (trimZ_mem hx)) (trimZ_last (by (first | lia | omega)) xs)
  rw [trimZ_val] at this
  exact this.symm
/-- a list of digits as long as its value asks, told by its length -/
theorem limbs_by {B n : Nat} (hB : 2 ≤ B) {xs : List Nat} (h : ∀ x ∈ xs, x < B) (hv : val B xs = n) (hl : xs = [] ∨ B ^ (xs.length - 1) ≤ n) : xs = limbs B n := by
  subst hv; exact (limbs_of hB h hl).symm

theorem val_take_succ {B : Nat} {xs : List Nat} {i : Nat} (h : i < xs.length) : val B (xs.take (i + 1)) = val B (xs.take i) + B ^ i * xs.getD i 0 := by
  have e : xs.take (i + 1) = xs.take i ++ [xs.getD i 0] := by
    rw [List.take_add_one, List.getElem?_eq_getElem h]
    simp [List.getD_eq_getElem?_getD, h]
  rw [e, val_append, List.length_take, Nat.min_eq_left (Nat.le_of_lt h)]
  simp [val]
theorem val_drop {B : Nat} {xs : List Nat} {i : Nat} (h : i < xs.length) : val B (xs.drop i) = xs.getD i 0 + B * val B (xs.drop (i + 1)) := by
  rw [List.drop_eq_getElem_cons h, val]
  simp [List.getD_eq_getElem?_getD, h]
theorem val_split {B : Nat} (xs : List Nat) (i : Nat) (h : i ≤ xs.length) : val B xs = val B (xs.take i) + B ^ i * val B (xs.drop i) := by
  conv => lhs; rw [← List.take_append_drop i xs]
  rw [val_append, List.length_take, Nat.min_eq_left h]
theorem getD_mem {xs : List Nat} {i : Nat} (h : i < xs.length) : xs.getD i 0 ∈ xs := by
  rw [List.getD_eq_getElem?_getD, List.getElem?_eq_getElem h]; exact List.getElem_mem h

end Mine
end
section
open PySem PySem.W PyProof.Rows PySem.Calls PySem.Spec
namespace Mine

structure Wd where
  prog : Program
  w : World
  p : Program
  loose : List Str
  mean : ExcName → Option Value
  mg : Str → Option Value
  mb : Str → Option Value
noncomputable abbrev GW (d : Wd) : Glo := ⟨d.prog, d.w, hd.heap_39 d.w.params, d.p, d.loose, d.mean, d.mg, d.mb⟩

section
variable {d : Wd}
theorem b_len : nsIn (GW d).K mainGlobals "len" = some none := by kernel_rfl
theorem b_range : nsIn (GW d).K mainGlobals "range" = some none := by kernel_rfl
theorem b_min : nsIn (GW d).K mainGlobals "min" = some none := by kernel_rfl
theorem b_abs : nsIn (GW d).K mainGlobals "abs" = some none := by kernel_rfl
theorem b_enumerate : nsIn (GW d).K mainGlobals "enumerate" = some none := by kernel_rfl
theorem b_int : nsIn (GW d).K mainGlobals "int" = some none := by kernel_rfl
theorem g_normal : nsIn (GW d).K mainGlobals "normal" = some (some (.ref 58)) := by kernel_rfl
theorem k_normal : keepIn (GW d).K (.ref 58) = true := by kernel_rfl
theorem g_compare : nsIn (GW d).K mainGlobals "compare" = some (some (.ref 65)) := by kernel_rfl
theorem k_compare : keepIn (GW d).K (.ref 65) = true := by kernel_rfl
theorem g_add : nsIn (GW d).K mainGlobals "add" = some (some (.ref 72)) := by kernel_rfl
theorem k_add : keepIn (GW d).K (.ref 72) = true := by kernel_rfl
theorem g_sub : nsIn (GW d).K mainGlobals "sub" = some (some (.ref 79)) := by kernel_rfl
theorem k_sub : keepIn (GW d).K (.ref 79) = true := by kernel_rfl
theorem g_add_limb : nsIn (GW d).K mainGlobals "add_limb" = some (some (.ref 86)) := by kernel_rfl
theorem k_add_limb : keepIn (GW d).K (.ref 86) = true := by kernel_rfl
theorem g_divrem_limb : nsIn (GW d).K mainGlobals "divrem_limb" = some (some (.ref 93)) := by kernel_rfl
theorem k_divrem_limb : keepIn (GW d).K (.ref 93) = true := by kernel_rfl
theorem g_shift_left : nsIn (GW d).K mainGlobals "shift_left" = some (some (.ref 100)) := by kernel_rfl
theorem k_shift_left : keepIn (GW d).K (.ref 100) = true := by kernel_rfl
theorem g_shift_right : nsIn (GW d).K mainGlobals "shift_right" = some (some (.ref 107)) := by kernel_rfl
theorem k_shift_right : keepIn (GW d).K (.ref 107) = true := by kernel_rfl
theorem g_bits : nsIn (GW d).K mainGlobals "bits" = some (some (.ref 114)) := by kernel_rfl
theorem k_bits : keepIn (GW d).K (.ref 114) = true := by kernel_rfl
theorem g_signed : nsIn (GW d).K mainGlobals "signed" = some (some (.ref 121)) := by kernel_rfl
theorem k_signed : keepIn (GW d).K (.ref 121) = true := by kernel_rfl
theorem g_s_add : nsIn (GW d).K mainGlobals "s_add" = some (some (.ref 128)) := by kernel_rfl
theorem k_s_add : keepIn (GW d).K (.ref 128) = true := by kernel_rfl
theorem g_s_mul : nsIn (GW d).K mainGlobals "s_mul" = some (some (.ref 135)) := by kernel_rfl
theorem k_s_mul : keepIn (GW d).K (.ref 135) = true := by kernel_rfl
theorem g_tdiv : nsIn (GW d).K mainGlobals "tdiv" = some (some (.ref 142)) := by kernel_rfl
theorem k_tdiv : keepIn (GW d).K (.ref 142) = true := by kernel_rfl
theorem g_fdiv : nsIn (GW d).K mainGlobals "fdiv" = some (some (.ref 149)) := by kernel_rfl
theorem k_fdiv : keepIn (GW d).K (.ref 149) = true := by kernel_rfl
theorem g_common : nsIn (GW d).K mainGlobals "common" = some (some (.ref 156)) := by kernel_rfl
theorem k_common : keepIn (GW d).K (.ref 156) = true := by kernel_rfl
theorem g_cut_signed : nsIn (GW d).K mainGlobals "cut_signed" = some (some (.ref 163)) := by kernel_rfl
theorem k_cut_signed : keepIn (GW d).K (.ref 163) = true := by kernel_rfl
theorem g_signed_of : nsIn (GW d).K mainGlobals "signed_of" = some (some (.ref 170)) := by kernel_rfl
theorem k_signed_of : keepIn (GW d).K (.ref 170) = true := by kernel_rfl
theorem g_r_make : nsIn (GW d).K mainGlobals "r_make" = some (some (.ref 177)) := by kernel_rfl
theorem k_r_make : keepIn (GW d).K (.ref 177) = true := by kernel_rfl
theorem g_r_add : nsIn (GW d).K mainGlobals "r_add" = some (some (.ref 184)) := by kernel_rfl
theorem k_r_add : keepIn (GW d).K (.ref 184) = true := by kernel_rfl
theorem g_r_mul : nsIn (GW d).K mainGlobals "r_mul" = some (some (.ref 191)) := by kernel_rfl
theorem k_r_mul : keepIn (GW d).K (.ref 191) = true := by kernel_rfl
theorem g_r_inverse : nsIn (GW d).K mainGlobals "r_inverse" = some (some (.ref 198)) := by kernel_rfl
theorem k_r_inverse : keepIn (GW d).K (.ref 198) = true := by kernel_rfl
theorem g_r_div : nsIn (GW d).K mainGlobals "r_div" = some (some (.ref 205)) := by kernel_rfl
theorem k_r_div : keepIn (GW d).K (.ref 205) = true := by kernel_rfl
theorem g_continued : nsIn (GW d).K mainGlobals "continued" = some (some (.ref 212)) := by kernel_rfl
theorem k_continued : keepIn (GW d).K (.ref 212) = true := by kernel_rfl
theorem g_mul_school : nsIn (GW d).K mainGlobals "mul_school" = some (some (.ref 219)) := by kernel_rfl
theorem k_mul_school : keepIn (GW d).K (.ref 219) = true := by kernel_rfl
theorem g_divrem_small : nsIn (GW d).K mainGlobals "divrem_small" = some (some (.ref 226)) := by kernel_rfl
theorem k_divrem_small : keepIn (GW d).K (.ref 226) = true := by kernel_rfl
theorem g_guessed_limb : nsIn (GW d).K mainGlobals "guessed_limb" = some (some (.ref 233)) := by kernel_rfl
theorem k_guessed_limb : keepIn (GW d).K (.ref 233) = true := by kernel_rfl
theorem g_take_away : nsIn (GW d).K mainGlobals "take_away" = some (some (.ref 240)) := by kernel_rfl
theorem k_take_away : keepIn (GW d).K (.ref 240) = true := by kernel_rfl
theorem g_put_back : nsIn (GW d).K mainGlobals "put_back" = some (some (.ref 247)) := by kernel_rfl
theorem k_put_back : keepIn (GW d).K (.ref 247) = true := by kernel_rfl
theorem g_divide_rows : nsIn (GW d).K mainGlobals "divide_rows" = some (some (.ref 254)) := by kernel_rfl
theorem k_divide_rows : keepIn (GW d).K (.ref 254) = true := by kernel_rfl
theorem g_divrem_school : nsIn (GW d).K mainGlobals "divrem_school" = some (some (.ref 261)) := by kernel_rfl
theorem k_divrem_school : keepIn (GW d).K (.ref 261) = true := by kernel_rfl
theorem g_law_sifted : nsIn (GW d).K mainGlobals "_law_sifted" = some (some (.ref 268)) := by kernel_rfl
theorem k_law_sifted : keepIn (GW d).K (.ref 268) = true := by kernel_rfl
theorem g_law_limbs : nsIn (GW d).K mainGlobals "_law_limbs" = some (some (.ref 275)) := by kernel_rfl
theorem k_law_limbs : keepIn (GW d).K (.ref 275) = true := by kernel_rfl
theorem g_law_signed : nsIn (GW d).K mainGlobals "_law_signed" = some (some (.ref 282)) := by kernel_rfl
theorem k_law_signed : keepIn (GW d).K (.ref 282) = true := by kernel_rfl
theorem g_law_plain : nsIn (GW d).K mainGlobals "_law_plain" = some (some (.ref 289)) := by kernel_rfl
theorem k_law_plain : keepIn (GW d).K (.ref 289) = true := by kernel_rfl
theorem g_law_folded : nsIn (GW d).K mainGlobals "_law_folded" = some (some (.ref 296)) := by kernel_rfl
theorem k_law_folded : keepIn (GW d).K (.ref 296) = true := by kernel_rfl
theorem g_law_given : nsIn (GW d).K mainGlobals "_law_given" = some (some (.ref 303)) := by kernel_rfl
theorem k_law_given : keepIn (GW d).K (.ref 303) = true := by kernel_rfl
theorem g_law_led : nsIn (GW d).K mainGlobals "_law_led" = some (some (.ref 308)) := by kernel_rfl
theorem k_law_led : keepIn (GW d).K (.ref 308) = true := by kernel_rfl
end

theorem mulOk_small {x y : Int} (h : x.natAbs < 2 ^ 60) : IntMulOk x y := by
  refine IntMulOk.of_left ?_
  unfold Builtin.Int.intBits
  split
  · (first | lia | omega)
  · have : x.natAbs.log2 < 60 := by
      rename_i h0
      refine (Nat.log2_lt ?_).mpr h
      intro hz; exact h0 (by simpa using hz)
    (first | lia | omega)

section
variable {x y : Int} {P P' : Prop}
theorem if_gt (h : y < x → P) (h' : ¬ y < x → P') : if cmpI .Gt x y = true then P else P' := by
  by_cases c : y < x
  · rw [if_pos (by simpa [cmpI] using c)]; exact h c
  · rw [if_neg (by simpa [cmpI] using c)]; exact h' c
theorem if_lt (h : x < y → P) (h' : ¬ x < y → P') : if cmpI .Lt x y = true then P else P' := by
  by_cases c : x < y
  · rw [if_pos (by simpa [cmpI] using c)]; exact h c
  · rw [if_neg (by simpa [cmpI] using c)]; exact h' c
theorem if_le (h : x ≤ y → P) (h' : ¬ x ≤ y → P') : if cmpI .LtE x y = true then P else P' := by
  by_cases c : x ≤ y
  · rw [if_pos (by simpa [cmpI] using c)]; exact h c
  · rw [if_neg (by simpa [cmpI] using c)]; exact h' c
theorem if_eq (h : x = y → P) (h' : ¬ x = y → P') : if cmpI .Eq x y = true then P else P' := by
  by_cases c : x = y
  · rw [if_pos (by simpa [cmpI] using c)]; exact h c
  · rw [if_neg (by simpa [cmpI] using c)]; exact h' c
theorem if_ne (h : ¬ x = y → P) (h' : x = y → P') : if cmpI .NotEq x y = true then P else P' := by
  by_cases c : x = y
  · rw [if_neg (by simpa [cmpI] using c)]; exact h' c
  · rw [if_pos (by simpa [cmpI] using c)]; exact h c
theorem if_tt (h : P) : if true = true then P else P' := by rw [if_pos rfl]; exact h
theorem if_ff (h : P') : if false = true then P else P' := by rw [if_neg (by decide)]; exact h
theorem if_bool {b : Bool} (h : b = true → P) (h' : b = false → P') : if b = true then P else P' := by
  cases b
  · rw [if_neg (by decide)]; exact h' rfl
  · rw [if_pos rfl]; exact h rfl
end

/-- a natural number in limbs -/
noncomputable def NV (H : Hp) (v : PV) (n w : Nat) : Prop := ∃ a, v = .ref a ∧ IsL H a (nats (limbs (2 ^ w) n))
theorem NV.le {H H' : Hp} {v : PV} {n w : Nat} (x : NV H v n w) (l : Le H H') : NV H' v n w := by obtain ⟨a, e, h⟩ := x; exact ⟨a, e, h.le l⟩
theorem nats_len (ns : List Nat) : (nats ns).length = ns.length := List.length_map ..
theorem nats_append (a b : List Nat) : nats (a ++ b) = nats a ++ nats b := List.map_append
theorem nats_take (a : List Nat) (k : Nat) : (nats a).take k = nats (a.take k) := (List.map_take ..).symm
theorem nats_drop (a : List Nat) (k : Nat) : (nats a).drop k = nats (a.drop k) := (List.map_drop ..).symm
theorem nats_replicate (k n : Nat) : List.replicate k (.int (n : Nat)) = nats (List.replicate k n) := by simp [nats]
theorem nats_set (a : List Nat) (k n : Nat) : (nats a).set k (.int (n : Nat)) = nats (a.set k n) := by simp [nats]
theorem nats_reverse (a : List Nat) : (nats a).reverse = nats a.reverse := by simp [nats]
theorem nats_get {a : List Nat} {i : Nat} {y : PV} (h : (nats a)[i]? = some y) : i < a.length ∧ y = .int (a.getD i 0 : Nat) := by
  rw [nats, List.getElem?_map] at h
  rcases Nat.lt_or_ge i a.length with hi | hi
  · rw [List.getElem?_eq_getElem hi] at h
    cases h
    exact ⟨hi, by simp [List.getD_eq_getElem?_getD, hi]⟩
  · rw [List.getElem?_eq_none hi] at h; cases h
/-- kept but at one place -/
noncomputable def LeX (l : Addr) (H H' : Hp) : Prop := ∀ a p, a ≠ l → H a = some p → H' a = some p
theorem LeX.refl (l : Addr) (H : Hp) : LeX l H H := fun _ _ _ h => h
theorem LeX.of {l : Addr} {H H' : Hp} (h : Le H H') : LeX l H H' := fun a p _ e => h a p e
theorem LeX.trans {l : Addr} {H H' H'' : Hp} (x : LeX l H H') (y : LeX l H' H'') : LeX l H H'' := fun a p n e => y a p n (x a p n e)
theorem LeX.upd {l : Addr} {H H' : Hp} {p : PO} (x : LeX l H H') : LeX l H (upd H' l p) := fun a q n e => by rw [upd_ne n]; exact x a q n e
theorem Le.updX {l : Addr} {H H' : Hp} {p : PO} (x : Le H H') (h : H l = none) : Le H (Mine.upd H' l p) := fun a q e => by
  have : a ≠ l := fun z => by rw [z, h] at e; cases e
  rw [upd_ne this]; exact x a q e
theorem LeX.le {l : Addr} {H H' : Hp} (x : LeX l H H') (h : H l = none) : Le H H' := fun a p e => x a p (fun z => by rw [z, h] at e; cases e) e
theorem IsL.leX {l b : Addr} {H H' : Hp} {xs : List PV} (x : IsL H b xs) (h : LeX l H H') (n : b ≠ l) : IsL H' b xs := x.imp (h _ _ n) (h _ _ n)
theorem IsL.ne {H : Hp} {a b : Addr} {xs : List PV} (x : IsL H a xs) (h : H b = none) : a ≠ b := fun e => by rcases x with x | x <;> (rw [e, h] at x; cases x)
theorem IsL.upd {H : Hp} {a b : Addr} {xs : List PV} {p : PO} (x : IsL H a xs) (h : a ≠ b) : IsL (Mine.upd H b p) a xs := by
  unfold IsL; rw [upd_ne h]; exact x
theorem isL_upd {H : Hp} {a : Addr} {xs : List PV} : IsL (upd H a (.list xs)) a xs := .inl upd_self
theorem isL_lock {H : Hp} {a l : Addr} {xs ys : List PV} (x : IsL H a xs) (y : IsL H l ys) : IsL (upd H l (.ro ys)) a xs := by
  by_cases h : a = l
  · subst h
    have : xs = ys := by rcases x with x | x <;> rcases y with y | y <;> (rw [x] at y; cases y) <;> rfl
    rw [this]; exact .inr upd_self
  · exact x.upd h
theorem le_unlock {H H' : Hp} {l : Addr} {ys : List PV} {p₀ : PO} (h : Le (upd H l (.ro ys)) H') (hp : H l = some p₀) : Le H (upd H' l p₀) := fun a p e => by
  by_cases h' : a = l
  · subst h'; rw [upd_self, ← hp]; exact e
  · rw [upd_ne h']; exact h a p (by rw [upd_ne h']; exact e)
theorem IsL.cases {H : Hp} {l : Addr} {xs : List PV} (x : IsL H l xs) : ∃ p₀, H l = some p₀ ∧ (p₀ = .list xs ∨ p₀ = .ro xs) := by
  rcases x with x | x
  · exact ⟨_, x, .inl rfl⟩
  · exact ⟨_, x, .inr rfl⟩
theorem nabs2 {x y : Int} {a b : Nat} (h1 : x.natAbs ≤ a) (h2 : y.natAbs ≤ b) : (x + y).natAbs ≤ a + b := Nat.le_trans (Int.natAbs_add_le x y) (Nat.add_le_add h1 h2)
theorem nabs_neg {x : Int} {a : Nat} (h : x.natAbs ≤ a) : (-x).natAbs ≤ a := by rw [Int.natAbs_neg]; exact h
theorem nabs_of {a z : Int} {A B : Nat} (ha : a.natAbs ≤ A) (h : (a - z).natAbs ≤ B) : z.natAbs ≤ A + B := by
  have e : z = a + -(a - z) := by (first | lia | omega)
  rw [e]; exact nabs2 ha (nabs_neg h)
theorem nabs_rest {a b : Int} {A B : Nat} (h : (a + b).natAbs ≤ A) (ha : a.natAbs ≤ B) : b.natAbs ≤ A + B := by
  have e : b = (a + b) + -a := by (first | lia | omega)
  rw [e]; exact nabs2 h (nabs_neg ha)
theorem lenS {α : Type} {vs : List α} {n : Nat} (h : vs.length = n + 1) : ∃ a r, vs = a :: r ∧ r.length = n := by
  cases vs with
  | nil => cases h
  | cons a r => exact ⟨a, r, rfl, Nat.succ.inj h⟩
theorem len1 {α : Type} {vs : List α} (h : vs.length = 1) : ∃ a, vs = [a] := by
  obtain ⟨a, r, rfl, h'⟩ := lenS h
  cases r with
  | nil => exact ⟨a, rfl⟩
  | cons => cases h'
theorem len2 {α : Type} {vs : List α} (h : vs.length = 2) : ∃ a b, vs = [a, b] := by
  obtain ⟨a, r, rfl, h'⟩ := lenS h
  obtain ⟨b, rfl⟩ := len1 h'
  exact ⟨a, b, rfl⟩
theorem len3 {α : Type} {vs : List α} (h : vs.length = 3) : ∃ a b c, vs = [a, b, c] := by
  obtain ⟨a, r, rfl, h'⟩ := lenS h
  obtain ⟨b, c, rfl⟩ := len2 h'
  exact ⟨a, b, c, rfl⟩
theorem len4 {α : Type} {vs : List α} (h : vs.length = 4) : ∃ a b c d, vs = [a, b, c, d] := by
  obtain ⟨a, r, rfl, h'⟩ := lenS h
  obtain ⟨b, c, d, rfl⟩ := len3 h'
  exact ⟨a, b, c, d, rfl⟩
theorem len5 {α : Type} {vs : List α} (h : vs.length = 5) : ∃ a b c d e, vs = [a, b, c, d, e] := by
  obtain ⟨a, r, rfl, h'⟩ := lenS h
  obtain ⟨b, c, d, e, rfl⟩ := len4 h'
  exact ⟨a, b, c, d, e, rfl⟩

section
variable {G : Glo} {c : Cx} {ℓ : Loc} {H : Hp} {Q : PF → Loc → Hp → Prop} {r : Nat} {pos : Pos} {rest : List Stmt}
theorem ts_cut {st : Stmt} (P : Loc → Hp → Prop) (h : TS G c ℓ H [st] fun f ℓ' H' => f = .next ∧ P ℓ' H') (k : ∀ ℓ' H', P ℓ' H' → TS G c ℓ' H' rest Q) : TS G c ℓ H (st :: rest) Q := ts_cons fun fr s m n S => by
  intro Γ p hΓ
  have h'' := h fr s m n S Γ p hΓ
  rw [execs_cons, Sem.wp_bind'] at h''
  refine Sem.wp_mono _ Γ _ (fun f p' s' q => ?_) (fun _ _ _ x => x) _ _ h''
  cases f with
  | next =>
    obtain ⟨ℓ', H', o, e, p⟩ : ∃ ℓ' H', Out c ℓ' H' fr s s' ∧ pf .next = PF.next ∧ P ℓ' H' := q
    exact ⟨ℓ', H', o, k _ _ p⟩
  | brk =>
    obtain ⟨ℓ', H', o, e, p⟩ : ∃ ℓ' H', Out c ℓ' H' fr s s' ∧ pf .brk = PF.next ∧ P ℓ' H' := q
    cases e
  | cont =>
    obtain ⟨ℓ', H', o, e, p⟩ : ∃ ℓ' H', Out c ℓ' H' fr s s' ∧ pf .cont = PF.next ∧ P ℓ' H' := q
    cases e
  | ret v =>
    obtain ⟨ℓ', H', o, e, p⟩ : ∃ ℓ' H', Out c ℓ' H' fr s s' ∧ pf (.ret v) = PF.next ∧ P ℓ' H' := q
    cases e
theorem ts_lessH {ss : List Stmt} {H' : Hp} (h : TS G c ℓ H' ss Q) (l : Le H' H) : TS G c ℓ H ss Q := fun fr s m n S => h fr s m n (S.lessH l)
theorem te_mulL1 {e rr : Expr} {lp : Pos} {Q : PV → Hp → Prop} (h : TE G c ℓ H e fun v H₁ => ∀ a, H₁ a = none → TE G c ℓ (upd H₁ a (.list [v])) rr fun b H₂ => ∃ k, b = .int k ∧ IsL H₂ a [v] ∧ 0 ≤ k ∧ k ≤ 1000 ∧ ∀ d, H₂ d = none → Q (.ref d) (upd H₂ d (.list (List.replicate k.toNat v))))
    (he : starEach [e] c.env = (false, eval e c.env) :: starEach [] c.env) : TE G c ℓ H (.BinOp (.List [e] lp) .Mult rr pos) Q :=
  te_mulL (te_list (ta_cons (h.mono fun v H₁ h' => ta_nil ⟨by simp, fun a ha => (h' a ha).mono fun b H₂ ⟨k, e, hl, h0, h1, q⟩ => ⟨a, k, v, rfl, e, hl, h0, h1, q⟩⟩) he))
theorem ts_two {x y : Str} {p1 p2 tp tp2 : Pos} {k k2 : Nat} {e1 e2 : Expr} (ok : c.Ok G r)
    (h : TE G c ℓ H e1 fun u H₁ => TE G c ℓ H₁ e2 fun v H₂ => TS G c ((x, u) :: (y, v) :: ℓ) H₂ rest Q)
    (hx : c.env.kindOf x = some .local) (hy : c.env.kindOf y = some .local)
    (h1 : starEach [e1, e2] c.env = (false, eval e1 c.env) :: starEach [e2] c.env) (h2 : starEach [e2] c.env = (false, eval e2 c.env) :: starEach [] c.env)
    (hs : swapsWithSole [.Tuple [.Name x p1, .Name y p2] k tp] (.Tuple [e1, e2] k2 tp2) pos.line c.env = pure false) (hw : swappedStores [.Tuple [.Name x p1, .Name y p2] k tp] (.Tuple [e1, e2] k2 tp2) c.env = pure (some [x, y])) :
    TS G c ℓ H (.Assign [.Tuple [.Name x p1, .Name y p2] k tp] (.Tuple [e1, e2] k2 tp2) pos :: rest) Q :=
  ts_swap [x, y] (te_tuple (ta_cons (h.mono fun u H₁ h' => ta_cons (h'.mono fun v H₂ h'' => ta_nil (⟨by simp, fun t ht => ⟨t, [u, v], rfl, upd_self, rfl, to_bind ok hy (to_bind ok hx (to_nil (ts_lessH h'' fun a p e => by
    rw [upd_ne (fun z => by rw [z, ht] at e; cases e)]; exact e)))⟩⟩)) h2) h1)) hs hw
theorem ts_three {x y z : Str} {p1 p2 p3 tp tp2 : Pos} {k k2 : Nat} {e1 e2 e3 : Expr} (ok : c.Ok G r)
    (h : TE G c ℓ H e1 fun u H₁ => TE G c ℓ H₁ e2 fun v H₂ => TE G c ℓ H₂ e3 fun v' H₃ => TS G c ((x, u) :: (y, v) :: (z, v') :: ℓ) H₃ rest Q)
    (hx : c.env.kindOf x = some .local) (hy : c.env.kindOf y = some .local) (hz : c.env.kindOf z = some .local)
    (h1 : starEach [e1, e2, e3] c.env = (false, eval e1 c.env) :: starEach [e2, e3] c.env) (h2 : starEach [e2, e3] c.env = (false, eval e2 c.env) :: starEach [e3] c.env) (h3 : starEach [e3] c.env = (false, eval e3 c.env) :: starEach [] c.env)
    (hs : swapsWithSole [.Tuple [.Name x p1, .Name y p2, .Name z p3] k tp] (.Tuple [e1, e2, e3] k2 tp2) pos.line c.env = pure false) (hw : swappedStores [.Tuple [.Name x p1, .Name y p2, .Name z p3] k tp] (.Tuple [e1, e2, e3] k2 tp2) c.env = pure (some [x, y, z])) :
    TS G c ℓ H (.Assign [.Tuple [.Name x p1, .Name y p2, .Name z p3] k tp] (.Tuple [e1, e2, e3] k2 tp2) pos :: rest) Q :=
  ts_swap [x, y, z] (te_tuple (ta_cons (h.mono fun u H₁ h' => ta_cons (h'.mono fun v H₂ h'' => ta_cons (h''.mono fun v' H₃ h3' => ta_nil (⟨by simp, fun t ht => ⟨t, [u, v, v'], rfl, upd_self, rfl, to_bind ok hz (to_bind ok hy (to_bind ok hx (to_nil (ts_lessH h3' fun a p e => by
    rw [upd_ne (fun z => by rw [z, ht] at e; cases e)]; exact e))))⟩⟩)) h3) h2) h1)) hs hw
theorem ts_un2 {x y : Str} {p1 p2 tp : Pos} {k : Nat} {e : Expr} (ok : c.Ok G r)
    (h : TE G c ℓ H e fun v H₁ => ∃ t u v', v = .ref t ∧ (H₁ t = some (.tup [u, v']) ∨ IsL H₁ t [u, v']) ∧ TS G c ((y, v') :: (x, u) :: ℓ) H₁ rest Q)
    (hx : c.env.kindOf x = some .local) (hy : c.env.kindOf y = some .local)
    (hs : swapsWithSole [.Tuple [.Name x p1, .Name y p2] k tp] e pos.line c.env = pure false) (hw : swappedStores [.Tuple [.Name x p1, .Name y p2] k tp] e c.env = pure none) :
    TS G c ℓ H (.Assign [.Tuple [.Name x p1, .Name y p2] k tp] e pos :: rest) Q :=
  ts_unpack (h.mono fun v H₁ ⟨t, u, v', e, ht, q⟩ => ⟨t, [u, v'], e, ht, rfl, to_name ok hx (to_name ok hy (to_nil q))⟩) (by rfl) hs hw
theorem ts_un4 {x y z z' : Str} {p1 p2 p3 p4 tp : Pos} {k : Nat} {e : Expr} (ok : c.Ok G r)
    (h : TE G c ℓ H e fun v H₁ => ∃ t u v' u2 v2, v = .ref t ∧ (H₁ t = some (.tup [u, v', u2, v2]) ∨ IsL H₁ t [u, v', u2, v2]) ∧ TS G c ((z', v2) :: (z, u2) :: (y, v') :: (x, u) :: ℓ) H₁ rest Q)
    (hx : c.env.kindOf x = some .local) (hy : c.env.kindOf y = some .local) (hz : c.env.kindOf z = some .local) (hz' : c.env.kindOf z' = some .local)
    (hs : swapsWithSole [.Tuple [.Name x p1, .Name y p2, .Name z p3, .Name z' p4] k tp] e pos.line c.env = pure false) (hw : swappedStores [.Tuple [.Name x p1, .Name y p2, .Name z p3, .Name z' p4] k tp] e c.env = pure none) :
    TS G c ℓ H (.Assign [.Tuple [.Name x p1, .Name y p2, .Name z p3, .Name z' p4] k tp] e pos :: rest) Q :=
  ts_unpack (h.mono fun v H₁ ⟨t, u, v', u2, v2, e, ht, q⟩ => ⟨t, [u, v', u2, v2], e, ht, rfl, to_name ok hx (to_name ok hy (to_name ok hz (to_name ok hz' (to_nil q))))⟩) (by rfl) hs hw
end
section
variable {G : Glo} {c : Cx} {ℓ : Loc} {H : Hp} {r : Nat} {pos : Pos}
theorem te_itemM1 {value : Expr} {k : Nat} {i : Int} {p1 p2 : Pos} {Q : PV → Hp → Prop} (hi : i = 1) (h : TE G c ℓ H value fun o H₁ => ∃ a xs v, o = .ref a ∧ IsL H₁ a xs ∧ xs.length ≤ 1000 ∧ xs.getLast? = some v ∧ Q v H₁) :
    TE G c ℓ H (.Subscript value (.UnaryOp .USub (.Constant (.int i) k p1) p2) pos) Q := by
  subst hi
  exact
  te_itemLast (h.mono fun o H₁ ⟨a, xs, v, e, hl, hz, hv, q⟩ => te_neg (te_int ⟨1, rfl, a, xs, v, e, rfl, hl, hz, hv, q⟩)) (by intros; rfl)
end
/-- arguments that are all local names -/
noncomputable def lookAll (env : Env) (ℓ : Loc) : List Expr → Option (List PV)
  | [] => some []
  | .Name x _ :: es => match decide (env.kindOf x = some .local) && !(x == ("__debug__" : Str)), ℓ.lookup x, lookAll env ℓ es with
    | true, some v, some vs => some (v :: vs)
    | _, _, _ => none
  | _ :: _ => none
section
variable {G : Glo} {c : Cx} {ℓ : Loc} {H : Hp} {r : Nat} {pos : Pos}
theorem ta_names (ok : c.Ok G r) : ∀ {es : List Expr} {vs : List PV} {Q : List PV → Hp → Prop}, lookAll c.env ℓ es = some vs → Q vs H → TA G c ℓ H pos es Q
  | [], vs, Q, e, q => by cases e; exact ta_nil q
  | e :: es, vs, Q, h, q => by
    cases e with
    | Name x p =>
      unfold lookAll at h
      cases hk : decide (c.env.kindOf x = some .local) && !(x == ("__debug__" : Str)) with
      | false => rw [hk] at h; cases h
      | true =>
        rw [hk] at h
        cases hv : ℓ.lookup x with
        | none => rw [hv] at h; cases h
        | some v =>
          rw [hv] at h
          cases hr : lookAll c.env ℓ es with
          | none => rw [hr] at h; cases h
          | some us =>
            rw [hr] at h
            cases h
            simp only [Bool.and_eq_true, decide_eq_true_eq, Bool.not_eq_true'] at hk
            exact ta_cons (te_name hv (ta_names ok hr q) ok hk.1 hk.2) rfl
    | _ => cases h
end

end Mine
end
section
open PySem PySem.W PyProof.Rows PySem.Calls PySem.Spec
namespace Mine
-- one step of a walk
local macro_rules | `(tactic| k_updF) => `(tactic| first
  | ((with_reducible refine' te_name ?hv ?_ (by assumption) ?hx ?hd); (case hv => exact rfl); (case hx => exact rfl); (case hd => decide))
  | with_reducible refine' te_int ?_
  | with_reducible refine' te_bool ?_
  | with_reducible refine' te_add ?_
  | with_reducible refine' te_sub ?_
  | with_reducible refine' te_and ?_
  | with_reducible refine' te_or ?_
  | with_reducible refine' te_shl ?_
  | with_reducible refine' te_shr ?_
  | ((with_reducible refine' te_mulL1 ?_ ?he9); (case he9 => exact rfl))
  | with_reducible refine' te_mul ?_
  | with_reducible refine' te_fdiv ?_
  | with_reducible refine' te_mod ?_
  | with_reducible refine' te_pow ?_
  | with_reducible refine' te_neg ?_
  | with_reducible refine' te_slice ?_
  | ((with_reducible refine' ts_assign (by assumption) ?_ ?hx ?hs); (case hx => exact rfl); (case hs => exact rfl))
  | ((with_reducible refine' ts_isub (by assumption) ?h0 ?_ ?hx); (case h0 => exact rfl); (case hx => exact rfl))
  | ((with_reducible refine' ts_iadd (by assumption) ?h0 ?_ ?hx); (case h0 => exact rfl); (case hx => exact rfl))
  | ((with_reducible refine' ts_ishr (by assumption) ?h0 ?_ ?hx); (case h0 => exact rfl); (case hx => exact rfl))
  | ((with_reducible refine' ts_ior (by assumption) ?h0 ?_ ?hx); (case h0 => exact rfl); (case hx => exact rfl))
  | ((with_reducible refine' ts_imod (by assumption) ?h0 ?_ ?hx); (case h0 => exact rfl); (case hx => exact rfl))
  | ((with_reducible refine' ts_expr ?_ ?hi ?hs); (case hi => exact rfl); (case hs => exact rfl))
  | ((with_reducible refine' te_append ?_ ?he ?hv); (case he => exact rfl); (case hv => exact rfl))
  | ((with_reducible refine' ts_setItem ?_ ?hs); (case hs => exact rfl))
  | with_reducible refine' ts_if ?_
  | ((with_reducible refine' tt_cmp ?ho ?_ ?hm); (case ho => exact rfl); (case hm => exact rfl))
  | with_reducible refine' tt_and ?_
  | with_reducible refine' tt_or ?_
  | with_reducible refine' ts_return ?_
  | with_reducible refine' te_tuple ?_
  | with_reducible refine' te_list ?_
  | ((with_reducible refine' ta_names (by assumption) ?h9 ?_); (case h9 => exact rfl))
  | ((with_reducible refine' ta_cons ?_ ?he); (case he => exact rfl))
  | with_reducible refine' ta_nil ?_
  | with_reducible refine' tp_none ?_
  | with_reducible refine' tp_some ?_
  | with_reducible refine' ts_nil ?_
  | with_reducible refine' ts_then ?_
  | ((with_reducible refine' ts_two (by assumption) ?_ ?hx ?hy ?h1 ?h2 ?hs ?gw9); (case hx => exact rfl); (case hy => exact rfl); (case h1 => exact rfl); (case h2 => exact rfl); (case hs => exact rfl); (case gw9 => exact rfl))
  | ((with_reducible refine' ts_three (by assumption) ?_ ?hx ?hy ?hz ?h1 ?h2 ?h3 ?hs ?gw9); (case hx => exact rfl); (case hy => exact rfl); (case hz => exact rfl); (case h1 => exact rfl); (case h2 => exact rfl); (case h3 => exact rfl); (case hs => exact rfl); (case gw9 => exact rfl))
  | ((with_reducible refine' ts_un2 (by assumption) ?_ ?hx ?hy ?hs ?gw9); (case hx => exact rfl); (case hy => exact rfl); (case hs => exact rfl); (case gw9 => exact rfl))
  | refine ⟨_, _, rfl, rfl, by (first | ((fail_if_success (exact rfl)); (first | lia | omega)) | omega), by (first | ((fail_if_success (exact rfl)); (first | lia | omega)) | omega), by (first | ((fail_if_success (exact rfl)); (first | lia | omega)) | omega), ?_⟩
  | ((with_reducible refine' to_bind (by assumption) ?hx ?_); (case hx => exact rfl))
  | with_reducible refine' to_nil ?_
  | refine ⟨_, rfl, ⟨_, by assumption⟩, ?_⟩
  | refine ⟨_, _, rfl, rfl, ?_⟩
  | refine ⟨_, _, rfl, by assumption, by (first | ((fail_if_success (exact rfl)); (first | lia | omega)) | omega), ?_⟩
  | refine ⟨_, _, _, rfl, rfl, by assumption, by (first | ((fail_if_success (exact rfl)); (first | lia | omega)) | omega), by (first | ((fail_if_success (exact rfl)); (first | lia | omega)) | omega), by (first | ((fail_if_success (exact rfl)); (first | lia | omega)) | omega), ?_⟩
  | refine ⟨_, rfl, ?_⟩
  | ((with_reducible refine' And.intro (a := (0 : Int) ≤ _) ?h0 ?_); (case h0 => (first | ((fail_if_success (exact rfl)); (first | lia | omega)) | omega))))

section
-- what differs from part to part
local macro_rules | `(tactic| k_updF) => `(tactic| first
  | with_reducible refine' te_slice ?_
  | ((with_reducible refine' te_itemN ?_ ?hs); (case hs => (intros; exact rfl)))
  | ((with_reducible refine' te_lenN (by assumption) b_len ?hx ?_ ?he); (case hx => exact rfl); (case he => exact rfl))
  | with_reducible refine' te_ifexp ?_)

inductive P_c_normal (H : Hp) (xs : List Nat) (v : PV) (H' : Hp) : Prop
  | mk (a) (h1_ : v = .ref a) (h2_ : Le H H') (h3_ : H' a = some (.list (nats (trimZ xs)))) (h4_ : H a = none) : P_c_normal H xs v H'
inductive J1_c_normal (H : Hp) (l : Addr) (xs : List Nat) (k : Nat) (ℓ₁ : Loc) (H₁ : Hp) : Prop
  | mk (e : Nat) (h1_ : k = e) (h2_ : H₁ = H) (h3_ : SubL [("a", .ref l), ("end", .int e)] ℓ₁) (h4_ : e ≤ xs.length) (h5_ : trimZ xs = trimZ (xs.take e)) : J1_c_normal H l xs k ℓ₁ H₁
theorem c_normal {d : Wd} {c : Cx} {ℓ : Loc} {H : Hp} {r : Nat} (ok : c.Ok (GW d) (r + 1)) {l : Addr} {xs : List Nat} (hl : IsL H l (nats xs)) (hz : xs.length ≤ 500) :
    FC (GW d) c ℓ H 58 [.ref l] (P_c_normal H xs) := by
  refine fc_def ["a"] [("a", .ref l)] ok (by exact rfl) (by kernel_rfl) rfl rfl (fun s vs h => ?_) (by kernel_rfl) (by decide +kernel) (fun L g ok' => ?_)
  · match vs, h with
    | [a], _ => exact BindsTo.of_eq rfl
  · clear ok
    repeat k_updF
    refine ts_while (J1_c_normal H l xs) xs.length ⟨xs.length, rfl, rfl, ⟨rfl, rfl, trivial⟩, Nat.le_refl _, by simp⟩ ?_
    rintro k ℓ₁ H₁ ⟨e, rfl, rfl, hℓ, he, ht⟩
    refine ⟨_, hℓ, ?_⟩
    refine TT.mono (Q := fun b H₂ => H₂ = H₁ ∧ if b = true then 0 < k ∧ xs.getD (k - 1) 0 = 0 else trimZ xs = xs.take k) ?_ ?_
    · repeat k_updF
      refine if_gt (fun hc => ?_) (fun hc => ?_)
      · repeat k_updF
        have h1 : ((k : Int) - 1).toNat = k - 1 := by (first | lia | omega)
        rw [h1]
        refine ⟨rfl, if_eq (fun h0 => ⟨by (first | lia | omega), by (first | lia | omega)⟩) (fun h0 => ?_)⟩
        rw [ht]
        have hk : k - 1 + 1 = k := by (first | lia | omega)
        have e : xs.take k = xs.take (k - 1) ++ [xs.getD (k - 1) 0] := by
          conv => lhs; rw [← hk, List.take_add_one, List.getElem?_eq_getElem (by (first | lia | omega))]
          simp [List.getD_eq_getElem?_getD, show k - 1 < xs.length by (first | lia | omega)]
        rw [e, trimZ_snoc_pos _ (by (first | lia | omega))]
      · refine ⟨rfl, if_ff ?_⟩
        rw [ht]
        have : k = 0 := by (first | lia | omega)
        subst this
        rfl
    · rintro b H₂ ⟨rfl, hb⟩
      cases b with
      | true =>
        rw [if_pos rfl] at hb ⊢
        repeat k_updF
        refine ⟨k - 1, by (first | lia | omega), k - 1, rfl, rfl, ⟨rfl, ?_, trivial⟩, by (first | lia | omega), ?_⟩
        · show some (PV.int (↑k - 1)) = some (PV.int ((k - 1 : Nat) : Int))
          congr 2; (first | lia | omega)
        · rw [ht]
          have hk : k - 1 + 1 = k := by (first | lia | omega)
          have e : xs.take k = xs.take (k - 1) ++ [xs.getD (k - 1) 0] := by
            conv => lhs; rw [← hk, List.take_add_one, List.getElem?_eq_getElem (by (first | lia | omega))]
            simp [List.getD_eq_getElem?_getD, show k - 1 < xs.length by (first | lia | omega)]
          rw [e, hb.2, trimZ_snoc_zero]
      | false =>
        rw [if_neg (by decide)] at hb ⊢
        repeat k_updF
        refine ⟨_, _, rfl, hl, by rw [nats_len]; (first | lia | omega), fun a ha => ⟨a, rfl, .upd ha, ?_, ha⟩⟩
        rw [upd_self, pick_upto _ (by (first | lia | omega)), Int.toNat_natCast, nats_take, hb]

noncomputable def cmpN (a b : Nat) : Int := if a < b then -1 else if a = b then 0 else 1

theorem lt_of_limb {B : Nat} (hB : 0 < B) {xs ys : List Nat} {i : Nat} (hx : ∀ x ∈ xs, x < B) (hl : i < xs.length) (hl' : i < ys.length) (hd : xs.drop (i + 1) = ys.drop (i + 1)) (h : xs.getD i 0 < ys.getD i 0) : val B xs < val B ys := by
  rw [val_split xs i (by (first | lia | omega)), val_split ys i (by (first | lia | omega)), val_drop hl, val_drop hl', hd]
  have h1 : val B (xs.take i) < B ^ i := by
    have := val_lt hB (xs := xs.take i) fun x hx' => hx x (List.mem_of_mem_take hx')
    rwa [List.length_take, Nat.min_eq_left (by (first | lia | omega))] at this
  generalize val B (ys.drop (i + 1)) = D
  generalize val B (ys.take i) = T
  have h2 : B ^ i * (xs.getD i 0 + B * D + 1) ≤ B ^ i * (ys.getD i 0 + B * D) := Nat.mul_le_mul_left _ (by (first | lia | omega))
  rw [Nat.mul_add, Nat.mul_one] at h2
  (first | lia | omega)

@[reducible] noncomputable def P_c_compare (a : Nat) (b : Nat) (H : Hp) (v : PV) (H' : Hp) : Prop := v = .int (cmpN a b) ∧ H' = H
@[reducible] noncomputable def J1_c_compare (H : Hp) (la : Addr) (lb : Addr) (xs : List Nat) (ys : List Nat) (i : Nat) (ℓ₁ : Loc) (H₁ : Hp) : Prop := H₁ = H ∧ SubL [("a", .ref la), ("b", .ref lb)] ℓ₁ ∧ xs.drop (xs.length - i) = ys.drop (ys.length - i)
theorem c_compare {d : Wd} {c : Cx} {ℓ : Loc} {H : Hp} {r : Nat} (ok : c.Ok (GW d) (r + 1)) {la lb : Addr} {w a b : Nat} (hw : 3 ≤ w) (ha : IsL H la (nats (limbs (2 ^ w) a))) (hb : IsL H lb (nats (limbs (2 ^ w) b))) (ha' : a < 2 ^ 60) (hb' : b < 2 ^ 60) :
    FC (GW d) c ℓ H 65 [.ref la, .ref lb] (P_c_compare a b H) := by
  have hza := limbs_len_small hw ha'
  have hzb := limbs_len_small hw hb'
  have hB : 2 ≤ 2 ^ w := by have := eight_le hw; (first | lia | omega)
  have hxa := limbs_lt hB a
  have hxb := limbs_lt hB b
  have hva := val_limbs hB a
  have hvb := val_limbs hB b
  have hlt := fun (h : a ≤ b) => limbs_len_mono (B := 2 ^ w) hB h
  have hgt := fun (h : b ≤ a) => limbs_len_mono (B := 2 ^ w) hB h
  generalize limbs (2 ^ w) a = xs at *
  generalize limbs (2 ^ w) b = ys at *
  refine fc_def ["a", "b"] [("b", .ref lb), ("a", .ref la)] ok (by exact rfl) (by kernel_rfl) rfl rfl (fun s vs h => ?hb) (by kernel_rfl) (by decide +kernel) (fun L g ok' => ?hw)
  case hb =>
    obtain ⟨u0, u1, rfl⟩ := len2 h
    exact BindsTo.of_eq rfl
  clear ok
  repeat k_updF
  refine if_ne (fun hc => ?_) (fun hc => ?_)
  · repeat k_updF
    have hab : a ≠ b := by
      rintro rfl
      have := hlt (Nat.le_refl _); have := hgt (Nat.le_refl _); (first | lia | omega)
    refine if_lt (fun h => ?_) (fun h => ?_)
    · repeat k_updF
      refine ⟨?_, rfl⟩
      show PV.int (-1) = _
      have : a < b := by
        rcases Nat.lt_or_ge a b with q | q
        · exact q
        · have := hgt q; (first | lia | omega)
      rw [cmpN, if_pos this]
    · repeat k_updF
      refine ⟨?_, rfl⟩
      show PV.int 1 = _
      have : ¬ a < b := by
        intro q
        have := hlt (Nat.le_of_lt q); (first | lia | omega)
      rw [cmpN, if_neg this, if_neg hab]
  · repeat k_updF
    have hc : xs.length = ys.length := by (first | lia | omega)
    refine ts_rangeDown (J1_c_compare H la lb xs ys) (by assumption) b_range ?_
    repeat k_updF
    refine ⟨rfl, by (first | lia | omega), by (first | lia | omega), by (first | lia | omega), ⟨rfl, ⟨rfl, rfl, trivial⟩, by simp⟩, ?_, ?_⟩
    · rintro i ℓ₁ H₁ hi ⟨rfl, hℓ, hd⟩
      have hi' : i < xs.length := by (first | lia | omega)
      have e1 : ((xs.length : Int) - 1 - i).toNat = xs.length - 1 - i := by (first | lia | omega)
      have e2 : xs.length - i = (xs.length - 1 - i) + 1 := by (first | lia | omega)
      have e3 : ys.length - i = (xs.length - 1 - i) + 1 := by (first | lia | omega)
      rw [e2, e3] at hd
      refine ts_weakenC ?_ hℓ
      repeat k_updF
      rw [e1]
      refine if_ne (fun hn => ?_) (fun hn => ?_)
      · repeat k_updF
        rw [e1]
        refine if_lt (fun h => ?_) (fun h => ?_)
        · repeat k_updF
          refine ⟨?_, rfl⟩
          show PV.int (-1) = _
          have := lt_of_limb (B := 2 ^ w) (by (first | lia | omega)) hxa (by (first | lia | omega)) (by (first | lia | omega)) hd (by (first | lia | omega))
          rw [hva, hvb] at this
          rw [cmpN, if_pos this]
        · repeat k_updF
          refine ⟨?_, rfl⟩
          show PV.int 1 = _
          have := lt_of_limb (B := 2 ^ w) (by (first | lia | omega)) hxb (i := xs.length - 1 - i) (by (first | lia | omega)) (by (first | lia | omega)) hd.symm (by (first | lia | omega))
          rw [hva, hvb] at this
          rw [cmpN, if_neg (by (first | lia | omega)), if_neg (by (first | lia | omega))]
      · repeat k_updF
        refine ⟨rfl, ⟨rfl, rfl, trivial⟩, ?_⟩
        have e4 : xs.length - (i + 1) = xs.length - 1 - i := by (first | lia | omega)
        have e5 : ys.length - (i + 1) = xs.length - 1 - i := by (first | lia | omega)
        rw [e4, e5, List.drop_eq_getElem_cons (show xs.length - 1 - i < xs.length by (first | lia | omega)), List.drop_eq_getElem_cons (show xs.length - 1 - i < ys.length by (first | lia | omega)), hd]
        congr 1
        have hn' : xs.getD (xs.length - 1 - i) 0 = ys.getD (xs.length - 1 - i) 0 := by (first | lia | omega)
        simpa [List.getD_eq_getElem?_getD, show xs.length - 1 - i < xs.length by (first | lia | omega), show xs.length - 1 - i < ys.length by (first | lia | omega)] using hn'
    · rintro ℓ₁ H₁ ⟨rfl, hℓ, hd⟩
      refine ts_weaken ?_ hℓ
      repeat k_updF
      refine ⟨?_, rfl⟩
      show PV.int 0 = _
      have e0 : ((xs.length : Int) - 1 - -1).toNat = xs.length := by (first | lia | omega)
      rw [e0, Nat.sub_self, hc, Nat.sub_self, List.drop_zero, List.drop_zero] at hd
      have : a = b := by rw [← hva, ← hvb, hd]
      rw [cmpN, if_neg (by (first | lia | omega)), if_pos this]

end
section
-- what differs from part to part
local macro_rules | `(tactic| k_updF) => `(tactic| first
  | with_reducible refine' te_slice ?_
  | ((with_reducible refine' te_itemN ?_ ?hs); (case hs => (intros; exact rfl)))
  | ((with_reducible refine' te_lenN (by assumption) b_len ?hx ?_ ?he); (case hx => exact rfl); (case he => exact rfl)))

theorem and_mask (n w : Nat) : Builtin.bitAnd (n : Int) ((2 ^ w - 1 : Nat) : Int) = ((n % 2 ^ w : Nat) : Int) := by
  rw [bitAnd_pp (by (first | lia | omega)) (by (first | lia | omega)), Int.toNat_natCast, Int.toNat_natCast, Nat.and_two_pow_sub_one_eq_mod]
theorem shr_nat (n w : Nat) : ((n : Nat) : Int).fdiv (2 ^ ((w : Int).toNat)) = ((n / 2 ^ w : Nat) : Int) := by
  rw [Int.toNat_natCast, Int.fdiv_eq_ediv_of_nonneg _ (Int.pow_nonneg (by decide))]
  norm_cast
theorem shl_nat (n w : Nat) : ((n : Nat) : Int) * 2 ^ ((w : Int).toNat) = ((n * 2 ^ w : Nat) : Int) := by
  rw [Int.toNat_natCast]; norm_cast
theorem mask_nat (w : Nat) : (1 : Int) * 2 ^ ((w : Int).toNat) - 1 = ((2 ^ w - 1 : Nat) : Int) := by
  have h : 0 < 2 ^ w := Nat.pow_pos (by decide)
  rw [Int.toNat_natCast, Int.one_mul, Int.natCast_sub h]
  norm_cast
theorem base_nat (w : Nat) : (1 : Int) * 2 ^ ((w : Int).toNat) = ((2 ^ w : Nat) : Int) := by
  rw [Int.toNat_natCast, Int.one_mul]
  norm_cast
theorem bitOr_nat (a b : Nat) : Builtin.bitOr (a : Int) (b : Int) = ((a ||| b : Nat) : Int) := by
  have e : ∀ n : Nat, Builtin.bitNot (n : Int) = -(n : Int) - 1 := fun _ => rfl
  have e' : ∀ n : Nat, Builtin.bitNot (Builtin.bitNot (n : Int)) = n := fun n => by simp only [Builtin.bitNot]; (first | lia | omega)
  unfold Builtin.bitOr
  rw [bitAnd_nn (by rw [e]; (first | lia | omega)) (by rw [e]; (first | lia | omega)), e', e', e', Int.toNat_natCast, Int.toNat_natCast]
theorem or_nat (a b w : Nat) (h : b < 2 ^ w) : Builtin.bitOr ((a * 2 ^ w : Nat) : Int) (b : Int) = ((a * 2 ^ w + b : Nat) : Int) := by
  rw [bitOr_nat, Nat.mul_comm, Nat.two_pow_add_eq_or_of_lt h]

theorem Le.none {H H' : Hp} {a : Addr} (h : Le H H') (ha : H' a = none) : H a = none := by
  cases e : H a with
  | none => rfl
  | some p => rw [h _ _ e] at ha; cases ha
/-- what comes back: a fresh or an old list of limbs -/
noncomputable def NR (w n : Nat) (H : Hp) (v : PV) (H' : Hp) : Prop := Le H H' ∧ NV H' v n w
theorem carry_fits {B : Nat} (hB : 2 ≤ B) {fs : List Nat} {k n : Nat} (h1 : ∀ x ∈ fs, x < B) (hk : k < B) (hv : val B fs + B ^ fs.length * k = n) (hl : k = 0 → fs = [] ∨ B ^ (fs.length - 1) ≤ n) :
    (if 0 < k then fs ++ [k] else fs) = limbs B n := by
  split
  · refine limbs_by hB (fun x hx => ?_) ?_ (.inr ?_)
    · rcases List.mem_append.mp hx with h | h
      · exact h1 x h
      · rw [List.mem_singleton.mp h]; exact hk
    · rw [val_append]; simp only [val, Nat.mul_zero, Nat.add_zero]; exact hv
    · have : B ^ fs.length * 1 ≤ B ^ fs.length * k := Nat.mul_le_mul_left _ (by (first | lia | omega))
      simp only [List.length_append, List.length_singleton, Nat.add_sub_cancel]
      (first | lia | omega)
  · have : k = 0 := by (first | lia | omega)
    subst this
    exact limbs_by hB h1 (by simpa using hv) (hl rfl)
theorem step_digit {B c m i f : Nat} (h : f + B ^ i * c = m) (y : Nat) : f + B ^ i * ((c + y) % B) + B ^ (i + 1) * ((c + y) / B) = m + B ^ i * y := by
  have e := Nat.mod_add_div (c + y) B
  have : B ^ i * ((c + y) % B + B * ((c + y) / B)) = B ^ i * (c + y) := by rw [e]
  rw [Nat.mul_add, ← Nat.mul_assoc, Nat.mul_add] at this
  rw [Nat.pow_succ]
  (first | lia | omega)
theorem mem_snoc {B : Nat} {fs : List Nat} {k : Nat} (h : ∀ x ∈ fs, x < B) (hk : k < B) : ∀ x ∈ fs ++ [k], x < B := fun x hx => by
  rcases List.mem_append.mp hx with h' | h'
  · exact h x h'
  · rw [List.mem_singleton.mp h']; exact hk
theorem val_snoc {B : Nat} (fs : List Nat) (k : Nat) : val B (fs ++ [k]) = val B fs + B ^ fs.length * k := by
  rw [val_append]; simp [val]

theorem upd_snoc {H : Hp} {f : Addr} {fs : List Nat} {n : Nat} : upd H f (.list (nats fs ++ [.int (n : Nat)])) f = some (.list (nats (fs ++ [n]))) := by
  rw [upd_self, nats_append]; rfl
/-- what comes back is new -/
noncomputable def QF (H : Hp) (v : PV) : Prop := ∀ a, v = .ref a → H a = none
@[reducible] noncomputable def NRQ (w n : Nat) (H : Hp) (v : PV) (H' : Hp) : Prop := NR w n H v H' ∧ QF H v
inductive J1_c_add (la : Addr) (lb : Addr) (w : Nat) (f : Addr) (H₁ : Hp) (xs : List Nat) (ys : List Nat) (i : Nat) (ℓ₁ : Loc) (H₂ : Hp) : Prop
  | mk (fs) (k) (h1_ : SubL [("a", .ref la), ("b", .ref lb), ("w", .int w), ("found", .ref f), ("carry", .int (k : Nat)), ("mask", .int (2 ^ w - 1 : Nat))] ℓ₁) (h2_ : H₂ f = some (.list (nats fs))) (h3_ : Le H₁ H₂) (h4_ : fs.length = i) (h5_ : (∀ x ∈ fs, x < 2 ^ w)) (h6_ : val (2 ^ w) fs + (2 ^ w) ^ i * k = val (2 ^ w) (xs.take i) + val (2 ^ w) (ys.take i)) (h7_ : k ≤ 1) : J1_c_add la lb w f H₁ xs ys i ℓ₁ H₂
inductive J2_c_add (la : Addr) (lb : Addr) (w : Nat) (f : Addr) (H₁ : Hp) (ys : List Nat) (xs : List Nat) (i : Nat) (ℓ₁ : Loc) (H₂ : Hp) : Prop
  | mk (fs) (k) (h1_ : SubL [("a", .ref la), ("b", .ref lb), ("w", .int w), ("found", .ref f), ("carry", .int (k : Nat)), ("mask", .int (2 ^ w - 1 : Nat))] ℓ₁) (h2_ : H₂ f = some (.list (nats fs))) (h3_ : Le H₁ H₂) (h4_ : fs.length = ys.length + i) (h5_ : (∀ x ∈ fs, x < 2 ^ w)) (h6_ : val (2 ^ w) fs + (2 ^ w) ^ (ys.length + i) * k = val (2 ^ w) (xs.take (ys.length + i)) + val (2 ^ w) ys) (h7_ : k ≤ 1) : J2_c_add la lb w f H₁ ys xs i ℓ₁ H₂
theorem c_add {d : Wd} {c : Cx} {ℓ : Loc} {H : Hp} {r : Nat} (ok : c.Ok (GW d) (r + 1)) {la lb : Addr} {w a b : Nat} (hw : 3 ≤ w) (hw' : w ≤ 8) (ha : IsL H la (nats (limbs (2 ^ w) a))) (hb : IsL H lb (nats (limbs (2 ^ w) b))) (ha' : a < 2 ^ 60) (hb' : b < 2 ^ 60) :
    FC (GW d) c ℓ H 72 [.ref la, .ref lb, .int w] (NRQ w (a + b) H) := by
  refine fc_def ["a", "b", "w"] [("w", .int w), ("b", .ref lb), ("a", .ref la)] ok (by exact rfl) (by kernel_rfl) rfl rfl (fun s vs h => ?hb) (by kernel_rfl) (by decide +kernel) (fun L g ok' => ?hw)
  case hb =>
    obtain ⟨u0, u1, u2, rfl⟩ := len3 h
    exact BindsTo.of_eq rfl
  clear ok
  have hB : 2 ≤ 2 ^ w := by have := eight_le hw; (first | lia | omega)
  refine ts_cut (fun ℓ' H' => H' = H ∧ ∃ la lb a' b', SubL [("a", .ref la), ("b", .ref lb), ("w", .int w)] ℓ' ∧ IsL H la (nats (limbs (2 ^ w) a')) ∧ IsL H lb (nats (limbs (2 ^ w) b')) ∧ a' + b' = a + b ∧ a' < 2 ^ 60 ∧ b' < 2 ^ 60 ∧ (limbs (2 ^ w) b').length ≤ (limbs (2 ^ w) a').length) ?_ ?_
  · have hza := limbs_len_small hw ha'
    have hzb := limbs_len_small hw hb'
    repeat k_updF
    refine if_lt (fun hc => ?_) (fun hc => ?_)
    · repeat k_updF
      exact ⟨rfl, rfl, lb, la, b, a, ⟨rfl, rfl, rfl, trivial⟩, hb, ha, by (first | lia | omega), hb', ha', by (first | lia | omega)⟩
    · repeat k_updF
      exact ⟨rfl, rfl, la, lb, a, b, ⟨rfl, rfl, rfl, trivial⟩, ha, hb, by (first | lia | omega), ha', hb', by (first | lia | omega)⟩
  · clear ha hb ha' hb'
    rintro ℓ₁ H₁ ⟨rfl, la, lb, a', b', hℓ, ha, hb, hab, ha', hb', hlen⟩
    refine ts_weaken ?_ hℓ
    rw [← hab]
    have hza := limbs_len_small hw ha'
    have hxa := limbs_lt hB a'
    have hxb := limbs_lt hB b'
    have hva := val_limbs hB a'
    have hvb := val_limbs hB b'
    have hge : a' ≠ 0 → (2 ^ w) ^ ((limbs (2 ^ w) a').length - 1) ≤ a' := fun h => limbs_len_ge hB (by (first | lia | omega))
    have hnil := (limbs_nil_iff (B := 2 ^ w) (n := a') hB).mpr
    generalize limbs (2 ^ w) a' = xs at *
    generalize limbs (2 ^ w) b' = ys at *
    repeat k_updF
    refine ⟨Nat.le_of_ble_eq_true rfl, fun f hf => ?_⟩
    repeat k_updF
    rw [mask_nat]
    refine ts_range1 (J1_c_add la lb w f H₁ xs ys) (by assumption) b_range ?_
    have hb1 : IsL (upd H₁ f (.list [])) lb (nats ys) := hb.upd (hb.ne hf)
    repeat k_updF
    refine ⟨by (first | lia | omega), ⟨[], 0, ⟨rfl, rfl, rfl, rfl, rfl, rfl, trivial⟩, upd_self, .upd hf, rfl, by simp, by simp [val], by (first | lia | omega)⟩, ?_, ?_⟩
    · rintro i ℓ₂ H₂ hi ⟨fs, k, hℓ, hff, hle, hfl, hfb, hv, hk⟩
      have hi' : i < ys.length := by (first | lia | omega)
      refine ts_weakenC ?_ hℓ
      have ha2 := ha.le hle
      have hb2 := hb.le hle
      repeat k_updF
      simp only [← Int.natCast_add]
      rw [and_mask]
      refine ⟨_, hff, by rw [nats_len]; (first | lia | omega), ?_⟩
      repeat k_updF
      rw [shr_nat]
      simp only [Int.toNat_natCast]
      have h3 := getD_mem (xs := xs) (i := i) (by (first | lia | omega))
      have h4 := getD_mem (xs := ys) (i := i) (by (first | lia | omega))
      have h3 := hxa _ h3
      have h4 := hxb _ h4
      refine ⟨fs ++ [(k + (xs.getD i 0 + ys.getD i 0)) % 2 ^ w], (k + (xs.getD i 0 + ys.getD i 0)) / 2 ^ w, ⟨rfl, rfl, rfl, rfl, rfl, rfl, trivial⟩, upd_snoc, hle.updX hf, by simp [hfl], mem_snoc hfb (Nat.mod_lt _ (by (first | lia | omega))), ?_, ?_⟩
      · rw [val_snoc, hfl, val_take_succ (by (first | lia | omega)), val_take_succ (by (first | lia | omega)), step_digit hv, Nat.mul_add]
        (first | lia | omega)
      · have : (k + (xs.getD i 0 + ys.getD i 0)) / 2 ^ w < 2 := by
          rw [Nat.div_lt_iff_lt_mul (by (first | lia | omega))]; (first | lia | omega)
        (first | lia | omega)
    · rintro ℓ₂ H₂ ⟨fs, k, hℓ, hff, hle, hfl, hfb, hv, hk⟩
      have ha2 := ha.le hle
      have hb2 := hb.le hle
      refine ts_weaken ?_ hℓ
      refine ts_range2 (J2_c_add la lb w f H₁ ys xs) (by assumption) b_range ?_
      repeat k_updF
      rw [Int.toNat_natCast] at hfl hv
      rw [List.take_length] at hv
      refine ⟨⟨fs, k, ⟨rfl, rfl, rfl, rfl, rfl, rfl, trivial⟩, hff, hle, by (first | lia | omega), hfb, by simpa using hv, hk⟩, ?_, ?_⟩
      · clear ha2 hb2 hle hff hℓ hfl hfb hv hk fs k H₂ ℓ₂
        rintro i ℓ₂ H₂ hi ⟨fs, k, hℓ, hff, hle, hfl, hfb, hv, hk⟩
        refine ts_weakenC ?_ hℓ
        have ha2 := ha.le hle
        repeat k_updF
        simp only [← Int.natCast_add, Int.toNat_natCast]
        rw [and_mask]
        refine ⟨_, hff, by rw [nats_len]; (first | lia | omega), ?_⟩
        repeat k_updF
        rw [shr_nat]
        have h3 := hxa _ (getD_mem (xs := xs) (i := ys.length + i) (by (first | lia | omega)))
        refine ⟨fs ++ [(k + xs.getD (ys.length + i) 0) % 2 ^ w], (k + xs.getD (ys.length + i) 0) / 2 ^ w, ⟨rfl, rfl, rfl, rfl, rfl, rfl, trivial⟩, upd_snoc, hle.updX hf, by simp [hfl]; (first | lia | omega), mem_snoc hfb (Nat.mod_lt _ (by (first | lia | omega))), ?_, ?_⟩
        · rw [val_snoc, hfl, ← Nat.add_assoc, val_take_succ (by (first | lia | omega)), step_digit hv]
          (first | lia | omega)
        · have : (k + xs.getD (ys.length + i) 0) / 2 ^ w < 2 := by
            rw [Nat.div_lt_iff_lt_mul (by (first | lia | omega))]; (first | lia | omega)
          (first | lia | omega)
      · clear ha2 hb2 hle hff hℓ hfl hfb hv hk fs k H₂ ℓ₂
        rintro ℓ₂ H₂ ⟨fs, k, hℓ, hff, hle, hfl, hfb, hv, hk⟩
        have e1 : ys.length + ((xs.length : Int) - ys.length).toNat = xs.length := by (first | lia | omega)
        rw [e1] at hfl hv
        rw [List.take_length, hva, hvb] at hv
        refine ts_weaken ?_ hℓ
        have key := carry_fits (n := a' + b') hB hfb (k := k) (by (first | lia | omega)) (by rw [hfl]; exact hv) (fun h => ?_)
        · repeat k_updF
          refine if_gt (fun h => ?_) (fun h => ?_)
          · rw [if_pos (by (first | lia | omega))] at key
            repeat k_updF
            refine ⟨_, hff, by rw [nats_len]; (first | lia | omega), ?_⟩
            repeat k_updF
            refine ⟨⟨hle.updX hf, f, rfl, .inl ?_⟩, fun _ e => by cases e; exact hf⟩
            rw [upd_self, ← key, nats_append]; rfl
          · rw [if_neg (by (first | lia | omega))] at key
            repeat k_updF
            refine ⟨⟨hle, f, rfl, .inl ?_⟩, fun _ e => by cases e; exact hf⟩
            rw [hff, ← key]
        · by_cases h0 : a' = 0
          · left
            have := hnil h0
            rw [this] at hfl
            exact List.eq_nil_of_length_eq_zero hfl
          · right
            have := hge h0
            rw [hfl]; (first | lia | omega)

theorem getD_out {xs : List Nat} {i : Nat} (h : xs.length ≤ i) : xs.getD i 0 = 0 := by simp [List.getD_eq_getElem?_getD, List.getElem?_eq_none h]
theorem val_take_succ' {B : Nat} (xs : List Nat) (i : Nat) : val B (xs.take (i + 1)) = val B (xs.take i) + B ^ i * xs.getD i 0 := by
  by_cases h : i < xs.length
  · exact val_take_succ h
  · rw [List.take_of_length_le (by (first | lia | omega)), List.take_of_length_le (by (first | lia | omega)), getD_out (by (first | lia | omega))]; simp
theorem c_norm {d : Wd} {c : Cx} {ℓ : Loc} {H H₀ : Hp} {r w n : Nat} (ok : c.Ok (GW d) (r + 1)) {l : Addr} {fs : List Nat} (hB : 2 ≤ 2 ^ w) (hle : Le H₀ H) (hl : IsL H l (nats fs)) (hz : fs.length ≤ 500) (hb : ∀ x ∈ fs, x < 2 ^ w) (hv : val (2 ^ w) fs = n) :
    FC (GW d) c ℓ H 58 [.ref l] (NR w n H₀) := (c_normal ok hl hz).mono fun v H' ⟨a, e, hle', hx, _⟩ => ⟨hle.trans hle', a, e, .inl (by rw [hx, trimZ_limbs hB hb, hv])⟩

theorem c_normF {d : Wd} {c : Cx} {ℓ : Loc} {H : Hp} {r w n : Nat} (ok : c.Ok (GW d) (r + 1)) {l : Addr} {fs : List Nat} (hB : 2 ≤ 2 ^ w) (hl : IsL H l (nats fs)) (hz : fs.length ≤ 500) (hb : ∀ x ∈ fs, x < 2 ^ w) (hv : val (2 ^ w) fs = n) :
    FC (GW d) c ℓ H 58 [.ref l] (NRQ w n H) := (c_normal ok hl hz).mono fun v H' ⟨a, e, hle', hx, hn⟩ => ⟨⟨hle', a, e, .inl (by rw [hx, trimZ_limbs hB hb, hv])⟩, fun b eb => by rw [e] at eb; cases eb; exact hn⟩

theorem sub_step {B f i bw : Nat} {m y n : Nat} (h : f + y = m + B ^ i * bw) {x z q bw' : Nat} (hq : q + z + bw = x + B * bw') : f + B ^ i * q + (y + B ^ i * z) = m + B ^ i * x + B ^ (i + 1) * bw' := by
  have : B ^ i * (q + z + bw) = B ^ i * (x + B * bw') := by rw [hq]
  rw [Nat.mul_add, Nat.mul_add, Nat.mul_add, ← Nat.mul_assoc] at this
  rw [Nat.pow_succ]
  (first | lia | omega)

inductive J1_c_sub (la : Addr) (lb : Addr) (w : Nat) (f : Addr) (H : Hp) (ys : List Nat) (xs : List Nat) (i : Nat) (ℓ₁ : Loc) (H₂ : Hp) : Prop
  | mk (fs) (k) (h1_ : SubL [("a", .ref la), ("b", .ref lb), ("w", .int w), ("found", .ref f), ("borrow", .int (k : Nat)), ("base", .int (2 ^ w : Nat))] ℓ₁) (h2_ : H₂ f = some (.list (nats fs))) (h3_ : Le H H₂) (h4_ : fs.length = i) (h5_ : (∀ x ∈ fs, x < 2 ^ w)) (h6_ : val (2 ^ w) fs + val (2 ^ w) (ys.take i) = val (2 ^ w) (xs.take i) + (2 ^ w) ^ i * k) (h7_ : k ≤ 1) : J1_c_sub la lb w f H ys xs i ℓ₁ H₂
theorem c_sub {d : Wd} {c : Cx} {ℓ : Loc} {H : Hp} {r : Nat} (ok : c.Ok (GW d) (r + 2)) {la lb : Addr} {w a b : Nat} (hw : 3 ≤ w) (hw' : w ≤ 8) (ha : IsL H la (nats (limbs (2 ^ w) a))) (hb : IsL H lb (nats (limbs (2 ^ w) b))) (ha' : a < 2 ^ 60) (hab : b ≤ a) :
    FC (GW d) c ℓ H 79 [.ref la, .ref lb, .int w] (NRQ w (a - b) H) := by
  refine fc_def ["a", "b", "w"] [("w", .int w), ("b", .ref lb), ("a", .ref la)] ok (by exact rfl) (by kernel_rfl) rfl rfl (fun s vs h => ?hb) (by kernel_rfl) (by decide +kernel) (fun L g ok' => ?hw)
  case hb =>
    obtain ⟨u0, u1, u2, rfl⟩ := len3 h
    exact BindsTo.of_eq rfl
  clear ok
  have hB : 2 ≤ 2 ^ w := by have := eight_le hw; (first | lia | omega)
  repeat k_updF
  refine te_call (by assumption) k_compare ?_ (by exact rfl) (by exact rfl)
  refine te_global g_compare ?_ (by assumption) (by exact rfl) (by decide)
  refine ⟨rfl, ?_⟩
  repeat k_updF
  refine (c_compare ok' hw ha hb ha' (by (first | lia | omega))).mono ?_
  rintro _ H' ⟨rfl, e⟩; rw [e]; clear e H'
  repeat k_updF
  refine if_lt (fun hc => ?_) (fun hc => ?_)
  · exfalso
    unfold cmpN at hc
    split at hc <;> (try split at hc) <;> (first | lia | omega)
  · clear hc
    have hza := limbs_len_small hw ha'
    have hlen := limbs_len_mono (B := 2 ^ w) hB hab
    have hxa := limbs_lt hB a
    have hxb := limbs_lt hB b
    have hva := val_limbs hB a
    have hvb := val_limbs hB b
    generalize limbs (2 ^ w) a = xs at *
    generalize limbs (2 ^ w) b = ys at *
    repeat k_updF
    refine ⟨Nat.le_of_ble_eq_true rfl, fun f hf => ?_⟩
    have ha1 : IsL (upd H f (.list [])) la (nats xs) := ha.upd (ha.ne hf)
    repeat k_updF
    rw [base_nat]
    refine ts_range1 (J1_c_sub la lb w f H ys xs) (by assumption) b_range ?_
    repeat k_updF
    refine ⟨by (first | lia | omega), ⟨[], 0, ⟨rfl, rfl, rfl, rfl, rfl, rfl, trivial⟩, upd_self, .upd hf, rfl, by simp, by simp [val], by (first | lia | omega)⟩, ?_, ?_⟩
    · rintro i ℓ₂ H₂ hi ⟨fs, k, hℓ, hff, hle, hfl, hfb, hv, hk⟩
      have hi' : i < xs.length := by (first | lia | omega)
      refine ts_weakenC ?_ hℓ
      have ha2 := ha.le hle
      have hb2 := hb.le hle
      repeat k_updF
      refine TE.mono (Q := fun v H' => v = .int (ys.getD i 0 : Nat) ∧ H' = H₂) ?_ ?_
      · refine te_ifexp ?_
        repeat k_updF
        refine if_lt (fun h => ?_) (fun h => ?_)
        · repeat k_updF
          exact ⟨by rw [Int.toNat_natCast], rfl⟩
        · repeat k_updF
          refine ⟨?_, rfl⟩
          rw [getD_out (by (first | lia | omega))]; rfl
      · rintro _ H' ⟨rfl, e⟩; rw [e]; clear e H'
        have h3 := hxa _ (getD_mem (xs := xs) (i := i) (by (first | lia | omega)))
        have h4 : ys.getD i 0 < 2 ^ w := by
          by_cases h : i < ys.length
          · exact hxb _ (getD_mem h)
          · rw [getD_out (by (first | lia | omega))]; (first | lia | omega)
        repeat k_updF
        simp only [Int.toNat_natCast]
        generalize he : xs.getD i 0 = x at *
        generalize hey : ys.getD i 0 = y at *
        refine te_ifexp ?_
        repeat k_updF
        refine if_lt (fun h => ?_) (fun h => ?_)
        · repeat k_updF
          refine te_ifexp ?_
          repeat k_updF
          refine if_lt (fun h => ?_) (fun h' => absurd h h')
          repeat k_updF
          rw [show ((x : Int) - k - y + (2 ^ w : Nat) : Int) = ((x + 2 ^ w - k - y : Nat) : Int) from by (first | lia | omega)]
          refine ⟨_, hff, by rw [nats_len]; (first | lia | omega), ?_⟩
          repeat k_updF
          refine ⟨fs ++ [x + 2 ^ w - k - y], 1, ⟨rfl, rfl, rfl, rfl, rfl, rfl, trivial⟩, upd_snoc, hle.updX hf, by simp [hfl], mem_snoc hfb (by (first | lia | omega)), ?_, by (first | lia | omega)⟩
          rw [val_snoc, hfl, val_take_succ', val_take_succ', he, hey]
          exact sub_step (n := 0) hv (by (first | lia | omega))
        · repeat k_updF
          refine te_ifexp ?_
          repeat k_updF
          refine if_lt (fun h' => absurd h' h) (fun h => ?_)
          repeat k_updF
          rw [show ((x : Int) - k - y : Int) = ((x - k - y : Nat) : Int) from by (first | lia | omega)]
          refine ⟨_, hff, by rw [nats_len]; (first | lia | omega), ?_⟩
          repeat k_updF
          refine ⟨fs ++ [x - k - y], 0, ⟨rfl, rfl, rfl, rfl, rfl, rfl, trivial⟩, upd_snoc, hle.updX hf, by simp [hfl], mem_snoc hfb (by (first | lia | omega)), ?_, by (first | lia | omega)⟩
          rw [val_snoc, hfl, val_take_succ', val_take_succ', he, hey]
          exact sub_step (n := 0) hv (by (first | lia | omega))
    · rintro ℓ₂ H₂ ⟨fs, k, hℓ, hff, hle, hfl, hfb, hv, hk⟩
      rw [Int.toNat_natCast] at hfl hv
      rw [List.take_length, List.take_of_length_le hlen, hva, hvb] at hv
      refine ts_weaken ?_ hℓ
      repeat k_updF
      refine te_call (by assumption) k_normal ?_ (by exact rfl) (by exact rfl)
      refine te_global g_normal ?_ (by assumption) (by exact rfl) (by decide)
      refine ⟨rfl, ?_⟩
      repeat k_updF
      refine (c_normF (n := a - b) ok' hB (.inl hff) (by (first | lia | omega)) hfb ?_).mono fun v H' ⟨⟨x1, x2⟩, x3⟩ => ⟨⟨hle.trans x1, x2⟩, fun a e => hle.none (x3 a e)⟩
      have h1 := val_lt (B := 2 ^ w) (by (first | lia | omega)) hfb
      rw [hfl] at h1
      rcases Nat.lt_or_ge 0 k with h | h
      · have : k = 1 := by (first | lia | omega)
        subst this
        (first | lia | omega)
      · have : k = 0 := by (first | lia | omega)
        subst this
        (first | lia | omega)

theorem le_256 {w : Nat} (h : w ≤ 8) : 2 ^ w ≤ 256 := Nat.pow_le_pow_right (n := 2) (by (first | lia | omega)) h
theorem log_small {n : Nat} (h : n < 2 ^ 64) : (n : Int).natAbs.log2 < 9000 := by
  rw [Int.natAbs_natCast]
  rcases Nat.eq_zero_or_pos n with rfl | hp
  · decide
  · have := (Nat.log2_lt (k := 64) (by (first | lia | omega))).mpr h
    (first | lia | omega)
theorem fdiv_nat (a b : Nat) : ((a : Nat) : Int).fdiv (b : Nat) = ((a / b : Nat) : Int) := by
  rw [Int.fdiv_eq_ediv_of_nonneg _ (by (first | lia | omega))]; norm_cast
theorem fmod_nat (a b : Nat) : ((a : Nat) : Int).fmod (b : Nat) = ((a % b : Nat) : Int) := by
  rw [Int.fmod_eq_emod_of_nonneg _ (by (first | lia | omega))]; norm_cast
theorem or_nat' (a b n : Nat) (h : b < 2 ^ n) : Builtin.bitOr (b : Int) ((a * 2 ^ n : Nat) : Int) = ((b + a * 2 ^ n : Nat) : Int) := by
  rw [bitOr_nat, Nat.or_comm, Nat.mul_comm, ← Nat.two_pow_add_eq_or_of_lt h, Nat.add_comm]
theorem leX_unlock {H₁ H₂ : Hp} {f l : Addr} {ys : List PV} {p₀ : PO} (h : LeX f (upd H₁ l (.ro ys)) H₂) (hp : H₁ l = some p₀) : LeX f H₁ (upd H₂ l p₀) := fun a p n e => by
  by_cases h' : a = l
  · subst h'; rw [upd_self, ← hp]; exact e
  · rw [upd_ne h']; exact h a p n (by rw [upd_ne h']; exact e)
theorem leX_fin {H H' : Hp} {f : Addr} {p : PO} (h : LeX f (upd H f p) H') (hf : H f = none) : Le H H' := fun a q e => by
  have n : a ≠ f := fun z => by rw [z, hf] at e; cases e
  exact h a q n (by rw [upd_ne n]; exact e)

inductive J1_c_add_limb (la : Addr) (w : Nat) (f : Addr) (H : Hp) (xs : List Nat) (b : Nat) (i : Nat) (ℓ₁ : Loc) (H₂ : Hp) : Prop
  | mk (fs) (k) (h1_ : SubL [("a", .ref la), ("w", .int w), ("found", .ref f), ("limb", .int (k : Nat)), ("mask", .int (2 ^ w - 1 : Nat))] ℓ₁) (h2_ : H₂ f = some (.list (nats fs))) (h3_ : LeX f (upd (upd H f (.list [])) la (.ro (nats xs))) H₂) (h4_ : fs.length = i) (h5_ : (∀ x ∈ fs, x < 2 ^ w)) (h6_ : val (2 ^ w) fs + (2 ^ w) ^ i * k = val (2 ^ w) (xs.take i) + b) (h7_ : k < 2 ^ w) : J1_c_add_limb la w f H xs b i ℓ₁ H₂
theorem c_add_limb {d : Wd} {c : Cx} {ℓ : Loc} {H : Hp} {r : Nat} (ok : c.Ok (GW d) (r + 1)) {la : Addr} {w a b : Nat} (hw : 3 ≤ w) (hw' : w ≤ 8) (ha : IsL H la (nats (limbs (2 ^ w) a))) (ha' : a < 2 ^ 60) (hb : b < 2 ^ w) :
    FC (GW d) c ℓ H 86 [.ref la, .int (b : Nat), .int w] (NRQ w (a + b) H) := by
  refine fc_def ["a", "limb", "w"] [("w", .int w), ("limb", .int (b : Nat)), ("a", .ref la)] ok (by exact rfl) (by kernel_rfl) rfl rfl (fun s vs h => ?hb) (by kernel_rfl) (by decide +kernel) (fun L g ok' => ?hw)
  case hb =>
    obtain ⟨u0, u1, u2, rfl⟩ := len3 h
    exact BindsTo.of_eq rfl
  clear ok
  have hB : 2 ≤ 2 ^ w := by have := eight_le hw; (first | lia | omega)
  have hza := limbs_len_small hw ha'
  have hxa := limbs_lt hB a
  have hva := val_limbs hB a
  have hge : a ≠ 0 → (2 ^ w) ^ ((limbs (2 ^ w) a).length - 1) ≤ a := fun h => limbs_len_ge hB (by (first | lia | omega))
  have hnil := (limbs_nil_iff (B := 2 ^ w) (n := a) hB).mpr
  generalize limbs (2 ^ w) a = xs at *
  repeat k_updF
  refine ⟨Nat.le_of_ble_eq_true rfl, fun f hf => ?_⟩
  repeat k_updF
  rw [mask_nat]
  have hne := ha.ne hf
  obtain ⟨p₀, h1, h2⟩ := (ha.upd (p := .list []) hne).cases
  refine ts_forList (J1_c_add_limb la w f H xs b) (by assumption) ?_
  repeat k_updF
  refine ⟨la, _, p₀, rfl, h1, h2, ⟨[], b, ⟨rfl, rfl, rfl, rfl, rfl, trivial⟩, by rw [upd_ne (Ne.symm hne), upd_self]; rfl, .refl _ _, rfl, by simp, by simp [val], hb⟩, ?_, ?_, ?_⟩
  · rintro i ℓ₂ H₂ ⟨fs, k, hℓ, hff, hle, _⟩
    exact hle _ _ hne upd_self
  · rintro i y ℓ₂ H₂ hi ⟨fs, k, hℓ, hff, hle, hfl, hfb, hv, hk⟩
    obtain ⟨hi', rfl⟩ := nats_get hi
    refine ts_weakenC ?_ hℓ
    repeat k_updF
    simp only [← Int.natCast_add]
    rw [and_mask]
    refine ⟨_, hff, by rw [nats_len]; (first | lia | omega), ?_⟩
    repeat k_updF
    rw [shr_nat]
    have h3 := hxa _ (getD_mem (xs := xs) (i := i) (by (first | lia | omega)))
    refine ⟨fs ++ [(k + xs.getD i 0) % 2 ^ w], (k + xs.getD i 0) / 2 ^ w, ⟨rfl, rfl, rfl, rfl, rfl, trivial⟩, upd_snoc, hle.upd, by simp [hfl], mem_snoc hfb (Nat.mod_lt _ (by (first | lia | omega))), ?_, ?_⟩
    · rw [val_snoc, hfl, val_take_succ', step_digit hv]
      (first | lia | omega)
    · have : (k + xs.getD i 0) / 2 ^ w < 2 := by
        rw [Nat.div_lt_iff_lt_mul (by (first | lia | omega))]; (first | lia | omega)
      (first | lia | omega)
  · rintro ℓ₂ H₂ ⟨fs, k, hℓ, hff, hle, hfl, hfb, hv, hk⟩
    rw [nats_len] at hfl hv
    rw [List.take_length, hva] at hv
    have hff' : upd H₂ la p₀ f = some (.list (nats fs)) := by rw [upd_ne (Ne.symm hne)]; exact hff
    have hle' : Le H (upd H₂ la p₀) := leX_fin (leX_unlock hle h1) hf
    refine ts_weaken ?_ hℓ
    have key := carry_fits (n := a + b) hB hfb (k := k) hk (by rw [hfl]; exact hv) (fun h => ?_)
    · repeat k_updF
      refine if_gt (fun h => ?_) (fun h => ?_)
      · rw [if_pos (by (first | lia | omega))] at key
        repeat k_updF
        refine ⟨_, hff', by rw [nats_len]; (first | lia | omega), ?_⟩
        repeat k_updF
        refine ⟨⟨hle'.updX hf, f, rfl, .inl ?_⟩, fun _ e => by cases e; exact hf⟩
        rw [← key]; exact upd_snoc
      · rw [if_neg (by (first | lia | omega))] at key
        repeat k_updF
        refine ⟨⟨hle', f, rfl, .inl ?_⟩, fun _ e => by cases e; exact hf⟩
        rw [hff', ← key]
    · by_cases h0 : a = 0
      · left
        have := hnil h0
        subst this
        exact List.eq_nil_of_length_eq_zero (by simpa using hfl)
      · right
        have := hge h0
        rw [hfl]; (first | lia | omega)

inductive J1_c_shift_left (w : Nat) (n : Nat) (f : Addr) (H0 : Hp) (la : Addr) (xs : List Nat) (i : Nat) (ℓ₁ : Loc) (H₂ : Hp) : Prop
  | mk (fs) (k) (h1_ : SubL [("w", .int w), ("few", .int n), ("found", .ref f), ("carry", .int (k : Nat)), ("mask", .int (2 ^ w - 1 : Nat))] ℓ₁) (h2_ : H₂ f = some (.list (nats fs))) (h3_ : LeX f (upd (upd H0 f (.list [])) la (.ro (nats xs))) H₂) (h4_ : fs.length = i) (h5_ : (∀ x ∈ fs, x < 2 ^ w)) (h6_ : val (2 ^ w) fs + (2 ^ w) ^ i * k = val (2 ^ w) (xs.take i) * 2 ^ n) (h7_ : k < 2 ^ n) : J1_c_shift_left w n f H0 la xs i ℓ₁ H₂
theorem c_shift_left {d : Wd} {c : Cx} {ℓ : Loc} {H : Hp} {r : Nat} (ok : c.Ok (GW d) (r + 1)) {la : Addr} {w a n : Nat} (hw : 3 ≤ w) (hw' : w ≤ 8) (hn : n < w) (ha : IsL H la (nats (limbs (2 ^ w) a))) (ha' : a < 2 ^ 60) :
    FC (GW d) c ℓ H 100 [.ref la, .int (n : Nat), .int w] (NR w (a * 2 ^ n) H) := by
  refine fc_def ["a", "n", "w"] [("w", .int w), ("n", .int (n : Nat)), ("a", .ref la)] ok (by exact rfl) (by kernel_rfl) rfl rfl (fun s vs h => ?hb) (by kernel_rfl) (by decide +kernel) (fun L g ok' => ?hw)
  case hb =>
    obtain ⟨u0, u1, u2, rfl⟩ := len3 h
    exact BindsTo.of_eq rfl
  clear ok
  have hB : 2 ≤ 2 ^ w := by have := eight_le hw; (first | lia | omega)
  have hza := limbs_len_small hw ha'
  have hxa := limbs_lt hB a
  have hva := val_limbs hB a
  have hge : a ≠ 0 → (2 ^ w) ^ ((limbs (2 ^ w) a).length - 1) ≤ a := fun h => limbs_len_ge hB (by (first | lia | omega))
  have hnil := (limbs_nil_iff (B := 2 ^ w) (n := a) hB).mp
  have hnil' := (limbs_nil_iff (B := 2 ^ w) (n := a) hB).mpr
  generalize limbs (2 ^ w) a = xs at *
  have hn2 : 0 < 2 ^ n := Nat.pow_pos (by decide)
  have hnw : 2 ^ n ≤ 2 ^ w := Nat.pow_le_pow_right (by decide) (by (first | lia | omega))
  repeat k_updF
  refine if_eq (fun h => ?_) (fun hl0 => ?_)
  · repeat k_updF
    refine ⟨Nat.le_of_ble_eq_true rfl, fun f hf => ?_⟩
    have : a = 0 := hnil (List.eq_nil_of_length_eq_zero (by (first | lia | omega)))
    subst this
    refine ⟨.upd hf, f, rfl, .inl ?_⟩
    rw [upd_self, Nat.zero_mul]; rfl
  · repeat k_updF
    have hf0 : (n : Int).fdiv w = 0 := by rw [Int.fdiv_eq_ediv_of_nonneg _ (by (first | lia | omega))]; exact Int.ediv_eq_zero_of_lt (by (first | lia | omega)) (by (first | lia | omega))
    have hm0 : (n : Int).fmod w = n := by rw [Int.fmod_eq_emod_of_nonneg _ (by (first | lia | omega))]; exact Int.emod_eq_of_lt (by (first | lia | omega)) (by (first | lia | omega))
    refine ⟨by (first | lia | omega), log_small (by (first | lia | omega)), ?_⟩
    rw [hf0]
    repeat k_updF
    refine ⟨by (first | lia | omega), ?_⟩
    rw [hm0]
    repeat k_updF
    refine fun t ht => ?_
    have hle0 : Le H (upd H t (.list [.int 0])) := .upd ht
    have ha0 := ha.le hle0
    have ht0 : upd H t (.list [.int 0]) t = some (.list [.int 0]) := upd_self
    generalize upd H t (.list [.int 0]) = H0 at *
    repeat k_updF
    refine ⟨.inl ht0, by (first | lia | omega), by (first | lia | omega), fun f hf => ?_⟩
    repeat k_updF
    rw [mask_nat]
    have hne := ha0.ne hf
    obtain ⟨p₀, h1, h2⟩ := (ha0.upd (p := .list []) hne).cases
    refine ts_forList (J1_c_shift_left w n f H0 la xs) (by assumption) ?_
    repeat k_updF
    refine ⟨la, _, p₀, rfl, h1, h2, ⟨[], 0, ⟨rfl, rfl, rfl, rfl, rfl, trivial⟩, by rw [upd_ne (Ne.symm hne), upd_self]; rfl, .refl _ _, rfl, by simp, by simp [val], hn2⟩, ?_, ?_, ?_⟩
    · rintro i ℓ₂ H₂ ⟨fs, k, hℓ, hff, hle, _⟩
      exact hle _ _ hne upd_self
    · rintro i y ℓ₂ H₂ hi ⟨fs, k, hℓ, hff, hle, hfl, hfb, hv, hk⟩
      obtain ⟨hi', rfl⟩ := nats_get hi
      have h3 := hxa _ (getD_mem (xs := xs) (i := i) (by (first | lia | omega)))
      refine ts_weakenC ?_ hℓ
      repeat k_updF
      have := le_256 hw'
      refine ⟨by (first | lia | omega), by (first | lia | omega), ?_⟩
      rw [shl_nat]
      refine ⟨_, rfl, ?_⟩
      rw [or_nat' _ _ _ hk]
      repeat k_updF
      rw [and_mask]
      refine ⟨_, hff, by rw [nats_len]; (first | lia | omega), ?_⟩
      repeat k_updF
      rw [shr_nat]
      refine ⟨fs ++ [(k + xs.getD i 0 * 2 ^ n) % 2 ^ w], (k + xs.getD i 0 * 2 ^ n) / 2 ^ w, ⟨rfl, rfl, rfl, rfl, rfl, trivial⟩, upd_snoc, hle.upd, by simp [hfl], mem_snoc hfb (Nat.mod_lt _ (by (first | lia | omega))), ?_, ?_⟩
      · rw [val_snoc, hfl, val_take_succ', step_digit hv, Nat.add_mul, Nat.mul_assoc]
      · rw [Nat.div_lt_iff_lt_mul (by (first | lia | omega))]
        have : (xs.getD i 0 + 1) * 2 ^ n ≤ 2 ^ w * 2 ^ n := Nat.mul_le_mul_right _ h3
        rw [Nat.add_mul, Nat.one_mul, Nat.mul_comm (2 ^ w)] at this
        (first | lia | omega)
    · rintro ℓ₂ H₂ ⟨fs, k, hℓ, hff, hle, hfl, hfb, hv, hk⟩
      rw [nats_len] at hfl hv
      rw [List.take_length, hva] at hv
      have hff' : upd H₂ la p₀ f = some (.list (nats fs)) := by rw [upd_ne (Ne.symm hne)]; exact hff
      have hle' : Le H (upd H₂ la p₀) := hle0.trans (leX_fin (leX_unlock hle h1) hf)
      have hf' : H f = none := by
        cases e : H f with
        | none => rfl
        | some p => rw [hle0 _ _ e] at hf; cases hf
      refine ts_weaken ?_ hℓ
      have key := carry_fits (n := a * 2 ^ n) hB hfb (k := k) (by (first | lia | omega)) (by rw [hfl]; exact hv) (fun h => ?_)
      · repeat k_updF
        refine if_gt (fun h => ?_) (fun h => ?_)
        · rw [if_pos (by (first | lia | omega))] at key
          repeat k_updF
          refine ⟨_, hff', by rw [nats_len]; (first | lia | omega), ?_⟩
          repeat k_updF
          refine ⟨hle'.updX hf', f, rfl, .inl ?_⟩
          rw [← key]; exact upd_snoc
        · rw [if_neg (by (first | lia | omega))] at key
          repeat k_updF
          refine ⟨hle', f, rfl, .inl ?_⟩
          rw [hff', ← key]
      · right
        have h0 : a ≠ 0 := by
          intro h0
          have : xs = [] := hnil' h0
          rw [this] at hl0; exact hl0 rfl
        have := hge h0
        rw [hfl]
        have : a * 1 ≤ a * 2 ^ n := Nat.mul_le_mul_left _ hn2
        (first | lia | omega)

theorem shr_step {w n x T y T' : Nat} (hn : n ≤ w) (hx : x < 2 ^ w) (hT : T = y + 2 ^ w * T') :
    (x / 2 ^ n + y * 2 ^ (w - n)) % 2 ^ w + 2 ^ w * (T / 2 ^ n) = (x + 2 ^ w * T) / 2 ^ n := by
  have hn2 : 0 < 2 ^ n := Nat.pow_pos (by decide)
  have hw2 : 0 < 2 ^ w := Nat.pow_pos (by decide)
  have e : 2 ^ w = 2 ^ n * 2 ^ (w - n) := by rw [← Nat.pow_add]; congr 1; (first | lia | omega)
  have e1 : (x + 2 ^ w * T) / 2 ^ n = x / 2 ^ n + 2 ^ (w - n) * T := by
    rw [e, Nat.mul_assoc, Nat.add_mul_div_left _ _ hn2]
  have e2 : (x + 2 ^ w * T) / 2 ^ n / 2 ^ w = T / 2 ^ n := by
    rw [Nat.div_div_eq_div_mul, Nat.mul_comm (2 ^ n), ← Nat.div_div_eq_div_mul, Nat.add_mul_div_left _ _ hw2, Nat.div_eq_of_lt hx, Nat.zero_add]
  have e3 : (x + 2 ^ w * T) / 2 ^ n % 2 ^ w = (x / 2 ^ n + y * 2 ^ (w - n)) % 2 ^ w := by
    rw [e1, hT, Nat.mul_add, ← Nat.add_assoc, Nat.mul_comm (2 ^ (w - n)) y, show 2 ^ (w - n) * (2 ^ w * T') = 2 ^ w * (2 ^ (w - n) * T') from Nat.mul_left_comm .., Nat.add_mul_mod_self_left]
  rw [← e2, ← e3]
  exact Nat.mod_add_div _ _
theorem val_drop' {B : Nat} (xs : List Nat) (i : Nat) : val B (xs.drop i) = xs.getD i 0 + B * val B (xs.drop (i + 1)) := by
  by_cases h : i < xs.length
  · exact val_drop h
  · rw [List.drop_of_length_le (by (first | lia | omega)), List.drop_of_length_le (by (first | lia | omega)), getD_out (by (first | lia | omega))]; simp [val]

inductive J1_c_shift_right (la : Addr) (w : Nat) (n : Nat) (f : Addr) (H : Hp) (xs : List Nat) (a : Nat) (i : Nat) (ℓ₁ : Loc) (H₂ : Hp) : Prop
  | mk (fs) (h1_ : SubL [("a", .ref la), ("w", .int w), ("few", .int n), ("found", .ref f), ("mask", .int (2 ^ w - 1 : Nat))] ℓ₁) (h2_ : H₂ f = some (.list (nats fs))) (h3_ : Le H H₂) (h4_ : fs.length = i) (h5_ : (∀ x ∈ fs, x < 2 ^ w)) (h6_ : val (2 ^ w) fs + (2 ^ w) ^ i * (val (2 ^ w) (xs.drop i) / 2 ^ n) = a / 2 ^ n) : J1_c_shift_right la w n f H xs a i ℓ₁ H₂
theorem c_shift_right {d : Wd} {c : Cx} {ℓ : Loc} {H : Hp} {r : Nat} (ok : c.Ok (GW d) (r + 2)) {la : Addr} {w a n : Nat} (hw : 3 ≤ w) (hw' : w ≤ 8) (hn : n < w) (ha : IsL H la (nats (limbs (2 ^ w) a))) (ha' : a < 2 ^ 60) :
    FC (GW d) c ℓ H 107 [.ref la, .int (n : Nat), .int w] (NRQ w (a / 2 ^ n) H) := by
  refine fc_def ["a", "n", "w"] [("w", .int w), ("n", .int (n : Nat)), ("a", .ref la)] ok (by exact rfl) (by kernel_rfl) rfl rfl (fun s vs h => ?hb) (by kernel_rfl) (by decide +kernel) (fun L g ok' => ?hw)
  case hb =>
    obtain ⟨u0, u1, u2, rfl⟩ := len3 h
    exact BindsTo.of_eq rfl
  clear ok
  have hB : 2 ≤ 2 ^ w := by have := eight_le hw; (first | lia | omega)
  have hza := limbs_len_small hw ha'
  have hxa := limbs_lt hB a
  have hva := val_limbs hB a
  generalize limbs (2 ^ w) a = xs at *
  have h256 := le_256 hw'
  have hf0 : (n : Int).fdiv w = 0 := by rw [Int.fdiv_eq_ediv_of_nonneg _ (by (first | lia | omega))]; exact Int.ediv_eq_zero_of_lt (by (first | lia | omega)) (by (first | lia | omega))
  have hm0 : (n : Int).fmod w = n := by rw [Int.fmod_eq_emod_of_nonneg _ (by (first | lia | omega))]; exact Int.emod_eq_of_lt (by (first | lia | omega)) (by (first | lia | omega))
  repeat k_updF
  refine ⟨by (first | lia | omega), log_small (by (first | lia | omega)), ?_⟩
  rw [hf0]
  repeat k_updF
  refine ⟨by (first | lia | omega), ?_⟩
  rw [hm0]
  repeat k_updF
  refine ⟨Nat.le_of_ble_eq_true rfl, fun f hf => ?_⟩
  have ha0 : IsL (upd H f (.list [])) la (nats xs) := ha.upd (ha.ne hf)
  repeat k_updF
  rw [mask_nat]
  refine ts_range2 (J1_c_shift_right la w n f H xs a) (by assumption) b_range ?_
  repeat k_updF
  refine ⟨⟨[], ⟨rfl, rfl, rfl, rfl, rfl, trivial⟩, upd_self, .upd hf, rfl, by simp, by simp [val, hva]⟩, ?_, ?_⟩
  · rintro i ℓ₂ H₂ hi ⟨fs, hℓ, hff, hle, hfl, hfb, hv⟩
    have hi' : i < xs.length := by (first | lia | omega)
    have h3 := hxa _ (getD_mem (xs := xs) (i := i) hi')
    rw [show (0 : Int) + i = i from by (first | lia | omega)]
    refine ts_weakenC ?_ hℓ
    have ha2 := ha.le hle
    have h4 : xs.getD (i + 1) 0 < 2 ^ w := by
      by_cases h : i + 1 < xs.length
      · exact hxa _ (getD_mem h)
      · rw [getD_out (by (first | lia | omega))]; (first | lia | omega)
    refine ts_assign (by assumption) (TE.mono (Q := fun v H' => v = .int (xs.getD (i + 1) 0 : Nat) ∧ H' = H₂) ?_ ?_) (by exact rfl) (by exact rfl)
    · refine te_ifexp ?_
      repeat k_updF
      refine if_lt (fun h => ?_) (fun h => ?_)
      · repeat k_updF
        refine ⟨?_, rfl⟩
        rw [show ((i : Int) + 1).toNat = i + 1 from by (first | lia | omega)]
      · repeat k_updF
        refine ⟨?_, rfl⟩
        rw [getD_out (by (first | lia | omega))]; rfl
    · rintro _ H' ⟨rfl, e⟩; rw [e]; clear e H'
      repeat k_updF
      rw [Int.toNat_natCast, shr_nat]
      repeat k_updF
      rw [show ((w : Int) - n) = ((w - n : Nat) : Int) from by (first | lia | omega)]
      rw [shl_nat]
      repeat k_updF
      rw [or_nat' _ _ _ (by
        rw [Nat.div_lt_iff_lt_mul (Nat.pow_pos (by decide)), ← Nat.pow_add, show w - n + n = w from by (first | lia | omega)]; exact h3)]
      repeat k_updF
      rw [and_mask]
      refine ⟨_, hff, by rw [nats_len]; (first | lia | omega), ?_⟩
      repeat k_updF
      refine ⟨fs ++ [(xs.getD i 0 / 2 ^ n + xs.getD (i + 1) 0 * 2 ^ (w - n)) % 2 ^ w], ⟨rfl, rfl, rfl, rfl, rfl, trivial⟩, upd_snoc, hle.updX hf, by simp [hfl], mem_snoc hfb (Nat.mod_lt _ (by (first | lia | omega))), ?_⟩
      rw [val_snoc, hfl, ← hv, val_drop' xs i, Nat.pow_succ, Nat.mul_assoc, Nat.add_assoc, ← Nat.mul_add, shr_step (by (first | lia | omega)) h3 (val_drop' xs (i + 1))]
  · rintro ℓ₂ H₂ ⟨fs, hℓ, hff, hle, hfl, hfb, hv⟩
    have e1 : ((xs.length : Int) - 0).toNat = xs.length := by (first | lia | omega)
    rw [e1] at hfl hv
    rw [List.drop_length] at hv
    refine ts_weaken ?_ hℓ
    repeat k_updF
    refine te_call (by assumption) k_normal ?_ (by exact rfl) (by exact rfl)
    refine te_global g_normal ?_ (by assumption) (by exact rfl) (by decide)
    refine ⟨rfl, ?_⟩
    repeat k_updF
    exact (c_normF ok' hB (.inl hff) (by (first | lia | omega)) hfb (by simpa [val] using hv)).mono fun v H' ⟨⟨x1, x2⟩, x3⟩ => ⟨⟨hle.trans x1, x2⟩, fun a e => hle.none (x3 a e)⟩

@[reducible] noncomputable def P_c_bits (x : Nat) (H : Hp) (v : PV) (H' : Hp) : Prop := v = .int (Builtin.Int.intBits x) ∧ H' = H
theorem c_bits {d : Wd} {c : Cx} {ℓ : Loc} {H : Hp} {r : Nat} (ok : c.Ok (GW d) (r + 1)) {la : Addr} {w x : Nat} (hw' : w ≤ 8) (ha : IsL H la (nats [x])) :
    FC (GW d) c ℓ H 114 [.ref la, .int w] (P_c_bits x H) := by
  refine fc_def ["a", "w"] [("w", .int w), ("a", .ref la)] ok (by exact rfl) (by kernel_rfl) rfl rfl (fun s vs h => ?hb) (by kernel_rfl) (by decide +kernel) (fun L g ok' => ?hw)
  case hb =>
    obtain ⟨u0, u1, rfl⟩ := len2 h
    exact BindsTo.of_eq rfl
  clear ok
  repeat k_updF
  refine te_ifexp ?_
  repeat k_updF
  refine ⟨la, [x], rfl, ha, by simp, ?_⟩
  repeat k_updF
  refine if_gt (fun _ => ?_) (fun h => by simp at h)
  repeat k_updF
  refine ⟨la, [x], rfl, ha, by simp, ?_⟩
  repeat k_updF
  refine ⟨mulOk_small (by simp), ?_⟩
  refine te_bits ?_ (by intros; rfl)
  refine te_itemLast ?_
  repeat k_updF
  refine ⟨la, _, .int x, rfl, rfl, ha, by simp [nats], by simp [nats], ?_⟩
  refine ⟨_, rfl, _, _, rfl, rfl, ?_, rfl⟩
  simp [retOf]

theorem set_rep {p q : Nat} {qs : List Nat} : (List.replicate (p + 1) 0 ++ qs).set p q = List.replicate p 0 ++ q :: qs := by
  induction p with
  | zero => rfl
  | succ p ih => rw [List.replicate_succ, List.cons_append, List.set_cons_succ, ih, List.replicate_succ, List.cons_append]
theorem quot_step {B x T v l r' : Nat} (hB : 0 < B) (hl : 0 < l) (h : T = v * l + r') (hr : r' < l) (hx : x < B) : x + B * T = ((r' * B + x) / l + B * v) * l + (r' * B + x) % l ∧ (r' * B + x) / l < B := by
  constructor
  · subst h
    have := Nat.div_add_mod' (r' * B + x) l
    rw [Nat.add_mul]
    have e : B * (v * l + r') = B * v * l + r' * B := by rw [Nat.mul_add, Nat.mul_assoc, Nat.mul_comm r' B]
    (first | lia | omega)
  · rw [Nat.div_lt_iff_lt_mul hl]
    have : (r' + 1) * B ≤ l * B := Nat.mul_le_mul_right _ hr
    rw [Nat.add_mul, Nat.one_mul, Nat.mul_comm l] at this
    (first | lia | omega)

inductive P_c_divrem_limb (H : Hp) (a : Nat) (b : Nat) (w : Nat) (v : PV) (H' : Hp) : Prop
  | mk (t) (q) (h1_ : v = .ref t) (h2_ : Le H H') (h3_ : H' t = some (.tup [q, .int (a % b : Nat)])) (h4_ : NV H' q (a / b) w) (h5_ : QF H q) : P_c_divrem_limb H a b w v H'
inductive J1_c_divrem_limb (la : Addr) (b : Nat) (w : Nat) (f : Addr) (xs : List Nat) (H : Hp) (i : Nat) (ℓ₁ : Loc) (H₂ : Hp) : Prop
  | mk (qs) (k) (h1_ : SubL [("a", .ref la), ("limb", .int (b : Nat)), ("w", .int w), ("found", .ref f), ("rest", .int (k : Nat))] ℓ₁) (h2_ : H₂ f = some (.list (nats (List.replicate (xs.length - i) 0 ++ qs)))) (h3_ : Le H H₂) (h4_ : qs.length = i) (h5_ : (∀ x ∈ qs, x < 2 ^ w)) (h6_ : val (2 ^ w) (xs.drop (xs.length - i)) = val (2 ^ w) qs * b + k) (h7_ : k < b) : J1_c_divrem_limb la b w f xs H i ℓ₁ H₂
theorem c_divrem_limb {d : Wd} {c : Cx} {ℓ : Loc} {H : Hp} {r : Nat} (ok : c.Ok (GW d) (r + 2)) {la : Addr} {w a b : Nat} (hw : 3 ≤ w) (hw' : w ≤ 8) (ha : IsL H la (nats (limbs (2 ^ w) a))) (ha' : a < 2 ^ 60) (hb : b < 2 ^ w) (hb0 : 0 < b) :
    FC (GW d) c ℓ H 93 [.ref la, .int (b : Nat), .int w] (P_c_divrem_limb H a b w) := by
  refine fc_def ["a", "limb", "w"] [("w", .int w), ("limb", .int (b : Nat)), ("a", .ref la)] ok (by exact rfl) (by kernel_rfl) rfl rfl (fun s vs h => ?hb) (by kernel_rfl) (by decide +kernel) (fun L g ok' => ?hw)
  case hb =>
    obtain ⟨u0, u1, u2, rfl⟩ := len3 h
    exact BindsTo.of_eq rfl
  clear ok
  have hB : 2 ≤ 2 ^ w := by have := eight_le hw; (first | lia | omega)
  have hza := limbs_len_small hw ha'
  have hxa := limbs_lt hB a
  have hva := val_limbs hB a
  generalize limbs (2 ^ w) a = xs at *
  have h256 := le_256 hw'
  repeat k_updF
  refine if_eq (fun h => absurd h (by (first | lia | omega))) (fun _ => ?_)
  repeat k_updF
  refine fun t ht => ?_
  have hle0 : Le H (upd H t (.list [.int 0])) := .upd ht
  have ha0 := ha.le hle0
  have ht0 : upd H t (.list [.int 0]) t = some (.list [.int 0]) := upd_self
  generalize upd H t (.list [.int 0]) = H0 at *
  repeat k_updF
  refine ⟨.inl ht0, by (first | lia | omega), by (first | lia | omega), fun f hf => ?_⟩
  rw [Int.toNat_natCast, show PV.int 0 = .int (0 : Nat) from rfl, nats_replicate]
  have ha1 : IsL (upd H0 f (.list (nats (List.replicate xs.length 0)))) la (nats xs) := ha0.upd (ha0.ne hf)
  have hf' : H f = none := by
    cases e : H f with
    | none => rfl
    | some p => rw [hle0 _ _ e] at hf; cases hf
  repeat k_updF
  refine ts_rangeDown (J1_c_divrem_limb la b w f xs H) (by assumption) b_range ?_
  repeat k_updF
  refine ⟨rfl, by (first | lia | omega), by (first | lia | omega), by (first | lia | omega), ⟨[], 0, ⟨rfl, rfl, rfl, rfl, rfl, trivial⟩, by rw [upd_self]; simp, hle0.updX hf', rfl, by simp, by simp [val], hb0⟩, ?_, ?_⟩
  · rintro i ℓ₂ H₂ hi ⟨qs, k, hℓ, hff, hle, hql, hqb, hv, hk⟩
    have hi' : i < xs.length := by (first | lia | omega)
    obtain ⟨p, hp⟩ : ∃ p, xs.length - i = p + 1 := ⟨xs.length - i - 1, by (first | lia | omega)⟩
    have h3 := hxa _ (getD_mem (xs := xs) (i := p) (by (first | lia | omega)))
    rw [show (xs.length : Int) - 1 - i = p from by (first | lia | omega)]
    refine ts_weakenC ?_ hℓ
    have ha2 := ha.le hle
    rw [hp] at hff hv
    obtain ⟨s1, s2⟩ := quot_step (B := 2 ^ w) (by (first | lia | omega)) hb0 hv hk h3
    repeat k_updF
    rw [shl_nat, Int.toNat_natCast, or_nat _ _ _ h3]
    refine ⟨by (first | lia | omega), log_small (by (first | lia | omega)), ?_⟩
    rw [fdiv_nat]
    repeat k_updF
    refine ⟨_, _, _, rfl, rfl, hff, by (first | lia | omega), by (first | lia | omega), by rw [nats_len]; simp; (first | lia | omega), ?_⟩
    rw [nats_set, Int.toNat_natCast, set_rep]
    repeat k_updF
    refine ⟨by (first | lia | omega), ?_⟩
    rw [fmod_nat]
    repeat k_updF
    refine ⟨_ :: qs, _, ⟨rfl, rfl, rfl, rfl, rfl, trivial⟩, by rw [upd_self, show xs.length - (i + 1) = p from by (first | lia | omega)], hle.updX hf', by simp [hql], ?_, ?_, Nat.mod_lt _ hb0⟩
    · intro x hx
      rcases List.mem_cons.mp hx with rfl | hx
      · exact s2
      · exact hqb x hx
    · rw [show xs.length - (i + 1) = p from by (first | lia | omega), val_drop', s1]; rfl
  · rintro ℓ₂ H₂ ⟨qs, k, hℓ, hff, hle, hql, hqb, hv, hk⟩
    have e0 : ((xs.length : Int) - 1 - -1).toNat = xs.length := by (first | lia | omega)
    rw [e0] at hff hql hv
    rw [Nat.sub_self, List.drop_zero, hva] at hv
    rw [Nat.sub_self, List.replicate_zero, List.nil_append] at hff
    refine ts_weaken ?_ hℓ
    repeat k_updF
    refine te_call (by assumption) k_normal ?_ (by exact rfl) (by exact rfl)
    refine te_global g_normal ?_ (by assumption) (by exact rfl) (by decide)
    refine ⟨rfl, ?_⟩
    repeat k_updF
    have hd : a / b = val (2 ^ w) qs := by
      rw [hv, Nat.mul_comm, Nat.mul_add_div hb0, Nat.div_eq_of_lt hk, Nat.add_zero]
    have hm : a % b = k := by
      rw [hv, Nat.mul_comm, Nat.mul_add_mod, Nat.mod_eq_of_lt hk]
    refine (c_normF (n := a / b) ok' hB (.inl hff) (by (first | lia | omega)) hqb hd.symm).mono ?_
    rintro v H₃ ⟨⟨hle3, hnv⟩, hqf⟩
    have hqf : QF H v := fun a e => hle.none (hqf a e)
    have hle3 := hle.trans hle3
    repeat k_updF
    refine ⟨Nat.le_of_ble_eq_true rfl, fun t ht => ?_⟩
    exact ⟨t, v, rfl, hle3.updX (by
      cases e : H t with
      | none => rfl
      | some p => rw [hle3 _ _ e] at ht; cases ht), by rw [upd_self, hm], hnv.le (.upd ht), hqf⟩

/-- quotient and remainder -/
inductive DR (w a b : Nat) (H : Hp) (v : PV) (H' : Hp) : Prop
  | mk (t) (q) (s) (h1_ : v = .ref t) (h2_ : Le H H') (h3_ : H' t = some (.tup [q, s])) (h4_ : NV H' q (a / b) w) (h5_ : NV H' s (a % b) w) (h6_ : QF H q) (h7_ : QF H s) : DR w a b H v H'
theorem limbs_one {B b : Nat} (hB : 2 ≤ B) (h0 : 0 < b) (h : b < B) : limbs B b = [b] := by
  rw [limbs_pos hB h0, Nat.mod_eq_of_lt h, Nat.div_eq_of_lt h]; rfl

theorem c_divrem_small {d : Wd} {c : Cx} {ℓ : Loc} {H : Hp} {r : Nat} (ok : c.Ok (GW d) (r + 3)) {la lb : Addr} {w a b : Nat} (hw : 3 ≤ w) (hw' : w ≤ 8) (ha : IsL H la (nats (limbs (2 ^ w) a))) (hb : IsL H lb (nats (limbs (2 ^ w) b))) (ha' : a < 2 ^ 60) (hb' : b < 2 ^ w) (hb0 : 0 < b) :
    FC (GW d) c ℓ H 226 [.ref la, .ref lb, .int w] (DR w a b H) := by
  refine fc_def ["a", "b", "w"] [("w", .int w), ("b", .ref lb), ("a", .ref la)] ok (by exact rfl) (by kernel_rfl) rfl rfl (fun s vs h => ?hb) (by kernel_rfl) (by decide +kernel) (fun L g ok' => ?hw)
  case hb =>
    obtain ⟨u0, u1, u2, rfl⟩ := len3 h
    exact BindsTo.of_eq rfl
  clear ok
  have hB : 2 ≤ 2 ^ w := by have := eight_le hw; (first | lia | omega)
  have h256 := le_256 hw'
  rw [limbs_one hB hb0 hb'] at hb
  repeat k_updF
  refine te_call (by assumption) k_divrem_limb ?_ (by exact rfl) (by exact rfl)
  refine te_global g_divrem_limb ?_ (by assumption) (by exact rfl) (by decide)
  refine ⟨rfl, ?_⟩
  repeat k_updF
  refine ⟨lb, 0, [b], rfl, rfl, hb, by (first | lia | omega), by (first | lia | omega), by simp, ?_⟩
  repeat k_updF
  show FC _ _ _ _ _ [.ref la, .int (b : Nat), .int w] _
  refine (c_divrem_limb ok' hw hw' ha ha' hb' hb0).mono ?_
  rintro v H₂ ⟨t, q, rfl, hle, ht, hq, hqf⟩
  repeat k_updF
  refine ⟨t, _, _, rfl, .inl ht, ?_⟩
  repeat k_updF
  refine TE.mono (Q := fun v H₃ => Le H₂ H₃ ∧ NV H₃ v (a % b) w ∧ QF H v) ?_ ?_
  · refine te_ifexp ?_
    repeat k_updF
    refine if_gt (fun h => ?_) (fun h => ?_)
    · repeat k_updF
      refine ⟨Nat.le_of_ble_eq_true rfl, fun s hs => ?_⟩
      refine ⟨.upd hs, ⟨s, rfl, .inl ?_⟩, fun _ e => by cases e; exact hle.none hs⟩
      have := Nat.mod_lt a hb0
      rw [upd_self, limbs_one hB (by (first | lia | omega)) (by (first | lia | omega))]; rfl
    · repeat k_updF
      refine ⟨Nat.le_of_ble_eq_true rfl, fun s hs => ?_⟩
      refine ⟨.upd hs, ⟨s, rfl, .inl ?_⟩, fun _ e => by cases e; exact hle.none hs⟩
      rw [upd_self, show a % b = 0 from by (first | lia | omega)]; rfl
  · rintro s H₃ ⟨hle3, hs, hsf⟩
    repeat k_updF
    refine ⟨Nat.le_of_ble_eq_true rfl, fun t' ht' => ?_⟩
    exact ⟨t', q, s, rfl, (hle.trans hle3).trans (.upd ht'), by rw [upd_self], (hq.le hle3).le (.upd ht'), hs.le (.upd ht'), hqf, hsf⟩
theorem guess_exit {B u0 hi v1 v0 l rest : Nat} (h : l * v1 + rest = hi) (hc : l * v0 ≤ rest * B + u0) : l * (v1 * B + v0) ≤ hi * B + u0 := by
  subst h
  rw [Nat.mul_add, Nat.add_mul, ← Nat.mul_assoc]
  (first | lia | omega)
theorem guess_down {B u0 hi v1 v0 l rest : Nat} (h : l * v1 + rest = hi) (hc : rest * B + u0 < l * v0) : hi * B + u0 < l * (v1 * B + v0) := by
  subst h
  rw [Nat.mul_add, Nat.add_mul, ← Nat.mul_assoc]
  (first | lia | omega)

inductive J1_c_guessed_limb (H : Hp) (lt : Addr) (v1 : Nat) (v0 : Nat) (w : Nat) (hi : Nat) (t0 : Nat) (k : Nat) (ℓ₁ : Loc) (H₁ : Hp) : Prop
  | mk (rs : Nat) (h1_ : H₁ = H) (h2_ : SubL [("top", .ref lt), ("first", .int (v1 : Nat)), ("second", .int (v0 : Nat)), ("w", .int w), ("base", .int (2 ^ w : Nat)), ("limb", .int (k : Nat)), ("rest", .int (rs : Nat))] ℓ₁) (h3_ : k * v1 + rs = hi) (h4_ : k ≤ 2 ^ w - 1) (h5_ : min ((hi * 2 ^ w + t0) / (v1 * 2 ^ w + v0)) (2 ^ w - 1) ≤ k) : J1_c_guessed_limb H lt v1 v0 w hi t0 k ℓ₁ H₁
theorem c_guessed_limb {d : Wd} {c : Cx} {ℓ : Loc} {H : Hp} {r : Nat} (ok : c.Ok (GW d) (r + 1)) {lt : Addr} {w t0 t1 t2 v1 v0 : Nat} (hw : 3 ≤ w) (hw' : w ≤ 8) (ht : IsL H lt (nats [t0, t1, t2])) (h0 : t0 < 2 ^ w) (h1 : t1 < 2 ^ w) (h2 : t2 < 2 ^ w) (hv1 : v1 < 2 ^ w) (hv0 : v0 < 2 ^ w) (hp : 0 < v1) :
    FC (GW d) c ℓ H 233 [.ref lt, .int (v1 : Nat), .int (v0 : Nat), .int w] fun v H' => v = .int (min (((t2 * 2 ^ w + t1) * 2 ^ w + t0) / (v1 * 2 ^ w + v0)) (2 ^ w - 1) : Nat) ∧ H' = H := by
  refine fc_def ["top", "first", "second", "w"] [("w", .int w), ("second", .int (v0 : Nat)), ("first", .int (v1 : Nat)), ("top", .ref lt)] ok (by exact rfl) (by kernel_rfl) rfl rfl (fun s vs h => ?hb) (by kernel_rfl) (by decide +kernel) (fun L g ok' => ?hw)
  case hb =>
    obtain ⟨u0, u1, u2, u3, rfl⟩ := len4 h
    exact BindsTo.of_eq rfl
  clear ok
  have hB : 2 ≤ 2 ^ w := by have := eight_le hw; (first | lia | omega)
  have h256 := le_256 hw'
  repeat k_updF
  refine ⟨lt, 2, [t0, t1, t2], rfl, rfl, ht, by (first | lia | omega), by (first | lia | omega), by simp, ?_⟩
  repeat k_updF
  refine ⟨by (first | lia | omega), by simp; (first | lia | omega), ?_⟩
  repeat k_updF
  refine ⟨lt, 1, [t0, t1, t2], rfl, rfl, ht, by (first | lia | omega), by (first | lia | omega), by simp, ?_⟩
  refine ⟨_, _, rfl, rfl, ?_⟩
  repeat k_updF
  rw [shl_nat, base_nat, show [t0, t1, t2].getD (Int.toNat 2) 0 = t2 from rfl, show [t0, t1, t2].getD (Int.toNat 1) 0 = t1 from rfl, or_nat _ _ _ h1]
  generalize ehi : t2 * 2 ^ w + t1 = hi
  have hhi : hi < 2 ^ w * 2 ^ w := by
    have : (t2 + 1) * 2 ^ w ≤ 2 ^ w * 2 ^ w := Nat.mul_le_mul_right _ h2
    rw [Nat.add_mul] at this
    (first | lia | omega)
  have hhi2 : 2 ^ w * 2 ^ w ≤ 256 * 256 := Nat.mul_le_mul h256 h256
  repeat k_updF
  refine te_min (by assumption) b_min (by exact rfl) ?_ (by exact rfl) (by exact rfl)
  repeat k_updF
  have hB1 : (2 ^ w : Nat) - (1 : Int) = ((2 ^ w - 1 : Nat) : Int) := by (first | lia | omega)
  refine ⟨by (first | lia | omega), log_small (by (first | lia | omega)), ?_⟩
  rw [fdiv_nat]
  repeat k_updF
  rw [hB1, show (if ((2 ^ w - 1 : Nat) : Int) < ((hi / v1 : Nat) : Int) then ((2 ^ w - 1 : Nat) : Int) else ((hi / v1 : Nat) : Int)) = ((min (hi / v1) (2 ^ w - 1) : Nat) : Int) from by split <;> (first | lia | omega)]
  have hl1 : min (hi / v1) (2 ^ w - 1) * v1 ≤ hi := Nat.le_trans (Nat.mul_le_mul_right _ (Nat.min_le_left _ _)) (Nat.div_mul_le_self _ _)
  have hl2 : min ((hi * 2 ^ w + t0) / (v1 * 2 ^ w + v0)) (2 ^ w - 1) ≤ min (hi / v1) (2 ^ w - 1) := by
    have : (hi * 2 ^ w + t0) / (v1 * 2 ^ w + v0) ≤ hi / v1 := by
      rw [Nat.le_div_iff_mul_le hp]
      have e := Nat.div_mul_le_self (hi * 2 ^ w + t0) (v1 * 2 ^ w + v0)
      generalize (hi * 2 ^ w + t0) / (v1 * 2 ^ w + v0) = q at *
      rw [Nat.mul_add, ← Nat.mul_assoc] at e
      refine Nat.le_of_lt_succ (Nat.lt_of_mul_lt_mul_right (a := 2 ^ w) ?_)
      rw [Nat.succ_mul]
      (first | lia | omega)
    (first | lia | omega)
  have hl3 : min (hi / v1) (2 ^ w - 1) ≤ 2 ^ w - 1 := Nat.min_le_right _ _
  generalize min (hi / v1) (2 ^ w - 1) = l0 at *
  repeat k_updF
  refine ⟨mulOk_small (by (first | lia | omega)), ?_⟩
  rw [← Int.natCast_mul]
  refine ⟨_, _, rfl, rfl, ?_⟩
  rw [← Int.natCast_sub hl1]
  refine ts_while (J1_c_guessed_limb H lt v1 v0 w hi t0) l0 ⟨_, rfl, ⟨rfl, rfl, rfl, rfl, rfl, rfl, rfl, trivial⟩, by (first | lia | omega), hl3, hl2⟩ ?_
  clear hl1 hl2 hl3 l0
  rintro k ℓ₁ H₁ ⟨rs, rfl, hℓ, e1, e2, e3⟩
  refine ⟨_, hℓ, ?_⟩
  have hrs : rs < 65536 + 1 := by (first | lia | omega)
  refine TT.mono (Q := fun b H₂ => H₂ = H₁ ∧ if b = true then rs * 2 ^ w + t0 < k * v0 else k * v0 ≤ rs * 2 ^ w + t0) ?_ ?_
  · repeat k_updF
    refine if_lt (fun hc => ?_) (fun hc => ?_)
    · repeat k_updF
      refine ⟨mulOk_small (by (first | lia | omega)), ?_⟩
      repeat k_updF
      refine ⟨lt, 0, [t0, t1, t2], rfl, rfl, ht, by (first | lia | omega), by (first | lia | omega), by simp, ?_⟩
      repeat k_updF
      rw [shl_nat, show [t0, t1, t2].getD (Int.toNat 0) 0 = t0 from rfl, or_nat _ _ _ h0, ← Int.natCast_mul]
      exact ⟨rfl, if_gt (fun h => by (first | lia | omega)) (fun h => by (first | lia | omega))⟩
    · refine ⟨rfl, if_ff ?_⟩
      have h1 : 2 ^ w * 2 ^ w ≤ rs * 2 ^ w := Nat.mul_le_mul_right _ (by (first | lia | omega))
      have h2 : k * v0 ≤ 2 ^ w * 2 ^ w := Nat.mul_le_mul (by (first | lia | omega)) (by (first | lia | omega))
      (first | lia | omega)
  · rintro b H₂ ⟨rfl, hb⟩
    cases b with
    | true =>
      rw [if_pos rfl] at hb ⊢
      have h := guess_down e1 hb
      have hk : 0 < k := by
        rcases Nat.eq_zero_or_pos k with rfl | h'
        · rw [Nat.zero_mul] at hb; (first | lia | omega)
        · exact h'
      have h5 : (hi * 2 ^ w + t0) / (v1 * 2 ^ w + v0) < k := by
        rw [Nat.div_lt_iff_lt_mul (by
          have : 1 * 1 ≤ v1 * 2 ^ w := Nat.mul_le_mul hp (by (first | lia | omega))
          (first | lia | omega))]
        exact h
      repeat k_updF
      refine ⟨k - 1, by (first | lia | omega), rs + v1, rfl, ⟨rfl, rfl, rfl, rfl, rfl, ?_, ?_, trivial⟩, ?_, by (first | lia | omega), by (first | lia | omega)⟩
      · show some (PV.int _) = some (PV.int _)
        congr 2; (first | lia | omega)
      · show some (PV.int _) = some (PV.int _)
        congr 2
      · have : k * v1 = (k - 1) * v1 + v1 := by
          rw [← Nat.succ_mul]; congr 1; (first | lia | omega)
        (first | lia | omega)
    | false =>
      rw [if_neg (by decide)] at hb ⊢
      repeat k_updF
      refine ⟨?_, rfl⟩
      have h := guess_exit e1 hb
      have h5 : k ≤ (hi * 2 ^ w + t0) / (v1 * 2 ^ w + v0) := by
        rw [Nat.le_div_iff_mul_le (by
          have : 1 * 1 ≤ v1 * 2 ^ w := Nat.mul_le_mul hp (by (first | lia | omega))
          (first | lia | omega))]
        exact h
      show PV.int _ = PV.int _
      congr 1
      (first | lia | omega)

section
variable {G : Glo} {c : Cx} {ℓ : Loc} {H : Hp} {Q : PF → Loc → Hp → Prop} {r : Nat} {pos : Pos} {rest : List Stmt}
theorem look_cons {ℓ ℓ' : Loc} {x : Str} {v : PV} (h : ∀ y p, ℓ'.lookup y = some p → ℓ.lookup y = some p) : ∀ y p, List.lookup y ((x, v) :: ℓ') = some p → List.lookup y ((x, v) :: ℓ) = some p := fun y p e => by
  rw [List.lookup_cons] at e ⊢
  cases hx : y == x with
  | true => rw [hx] at e; exact e
  | false => rw [hx] at e; exact h y p e
theorem ts_weakenC2 {ss : List Stmt} {ℓ' : Loc} {x y : Str} {u v : PV} (h : TS G c ((x, v) :: (y, u) :: ℓ') H ss Q) (hs : SubL ℓ' ℓ) : TS G c ((x, v) :: (y, u) :: ℓ) H ss Q := fun fr s m n S => h fr s m n (S.weaken (look_cons (look_cons hs.to)))
end
theorem val_set {B v : Nat} : ∀ {fs : List Nat} {k : Nat}, k < fs.length → val B (fs.set k v) + B ^ k * fs.getD k 0 = val B fs + B ^ k * v
  | x :: r, 0, _ => by simp [val]; (first | lia | omega)
  | x :: r, k + 1, h => by
    have := val_set (B := B) (v := v) (fs := r) (k := k) (by simpa using h)
    have e : B * val B (r.set k v) + B ^ k * B * r.getD k 0 = B * val B r + B ^ k * B * v := by
      have := congrArg (B * ·) this
      simp only [Nat.mul_add] at this
      rw [Nat.mul_comm (B ^ k) B, Nat.mul_assoc, Nat.mul_assoc]; exact this
    rw [List.set_cons_succ, val, val, List.getD_cons_succ, Nat.pow_succ]
    (first | lia | omega)
theorem getD_set {fs : List Nat} {k j v : Nat} (h : j ≠ k) : (fs.set k v).getD j 0 = fs.getD j 0 := by
  simp [List.getD_eq_getElem?_getD, List.getElem?_set_ne (Ne.symm h)]
theorem mem_set {B : Nat} {fs : List Nat} {k v : Nat} (h : ∀ x ∈ fs, x < B) (hv : v < B) : ∀ x ∈ fs.set k v, x < B := fun x hx => by
  rcases List.mem_or_eq_of_mem_set hx with h' | rfl
  · exact h x h'
  · exact hv
theorem step_set {B P c d t vn vo : Nat} (h : vn + P * d = vo + P * ((c + (d + t)) % B)) : vn + P * B * ((c + (d + t)) / B) = vo + P * (c + t) := by
  have e := Nat.mod_add_div (c + (d + t)) B
  have : P * ((c + (d + t)) % B + B * ((c + (d + t)) / B)) = P * (c + (d + t)) := by rw [e]
  rw [Nat.mul_add, ← Nat.mul_assoc, Nat.mul_add P c, Nat.mul_add P d] at this
  rw [Nat.mul_add P c]
  (first | lia | omega)
theorem getD_lt {B : Nat} (hB : 0 < B) {xs : List Nat} (h : ∀ x ∈ xs, x < B) (i : Nat) : xs.getD i 0 < B := by
  by_cases hi : i < xs.length
  · exact h _ (getD_mem hi)
  · rw [getD_out (by (first | lia | omega))]; exact hB

inductive J1_c_mul_school (la : Addr) (lb : Addr) (w : Nat) (f : Addr) (H0 : Hp) (xs : List Nat) (ys : List Nat) (b : Nat) (i : Nat) (ℓ₁ : Loc) (H₂ : Hp) : Prop
  | mk (fs) (h1_ : SubL [("a", .ref la), ("b", .ref lb), ("w", .int w), ("found", .ref f), ("mask", .int (2 ^ w - 1 : Nat))] ℓ₁) (h2_ : H₂ f = some (.list (nats fs))) (h3_ : LeX f (upd (upd H0 f (.list (nats (List.replicate (xs.length + ys.length) 0)))) la (.ro (nats xs))) H₂) (h4_ : fs.length = xs.length + ys.length) (h5_ : (∀ x ∈ fs, x < 2 ^ w)) (h6_ : val (2 ^ w) fs = val (2 ^ w) (xs.take i) * b) (h7_ : ∀ k, i + ys.length ≤ k → fs.getD k 0 = 0) : J1_c_mul_school la lb w f H0 xs ys b i ℓ₁ H₂
inductive J2_c_mul_school (la : Addr) (lb : Addr) (w : Nat) (f : Addr) (i : Nat) (H₂ : Hp) (ys : List Nat) (xs : List Nat) (fs : List Nat) (x : Nat) (j : Nat) (ℓ₁ : Loc) (H₃ : Hp) : Prop
  | mk (fs') (k) (h1_ : SubL [("a", .ref la), ("b", .ref lb), ("w", .int w), ("found", .ref f), ("mask", .int (2 ^ w - 1 : Nat)), ("limb", .int (x : Nat)), ("at", .int i), ("carry", .int (k : Nat))] ℓ₁) (h2_ : H₃ f = some (.list (nats fs'))) (h3_ : LeX f (upd H₂ lb (.ro (nats ys))) H₃) (h4_ : fs'.length = xs.length + ys.length) (h5_ : (∀ x ∈ fs', x < 2 ^ w)) (h6_ : val (2 ^ w) fs' + (2 ^ w) ^ (i + j) * k = val (2 ^ w) fs + (2 ^ w) ^ i * (x * val (2 ^ w) (ys.take j))) (h7_ : k < 2 ^ w) (h8_ : ∀ k, i + ys.length ≤ k → fs'.getD k 0 = 0) : J2_c_mul_school la lb w f i H₂ ys xs fs x j ℓ₁ H₃
theorem c_mul_school {d : Wd} {c : Cx} {ℓ : Loc} {H : Hp} {r : Nat} (ok : c.Ok (GW d) (r + 2)) {la lb : Addr} {w a b : Nat} (hw : 3 ≤ w) (hw' : w ≤ 8) (ha : IsL H la (nats (limbs (2 ^ w) a))) (hb : IsL H lb (nats (limbs (2 ^ w) b))) (ha' : a < 2 ^ 60) (hb' : b < 2 ^ 60) :
    FC (GW d) c ℓ H 219 [.ref la, .ref lb, .int w] (NR w (a * b) H) := by
  refine fc_def ["a", "b", "w"] [("w", .int w), ("b", .ref lb), ("a", .ref la)] ok (by exact rfl) (by kernel_rfl) rfl rfl (fun s vs h => ?hb) (by kernel_rfl) (by decide +kernel) (fun L g ok' => ?hw)
  case hb =>
    obtain ⟨u0, u1, u2, rfl⟩ := len3 h
    exact BindsTo.of_eq rfl
  clear ok
  have hB : 2 ≤ 2 ^ w := by have := eight_le hw; (first | lia | omega)
  have hza := limbs_len_small hw ha'
  have hzb := limbs_len_small hw hb'
  have hxa := limbs_lt hB a
  have hxb := limbs_lt hB b
  have hva := val_limbs hB a
  have hvb := val_limbs hB b
  generalize limbs (2 ^ w) a = xs at *
  generalize limbs (2 ^ w) b = ys at *
  have h256 := le_256 hw'
  repeat k_updF
  refine fun t ht => ?_
  have hle0 : Le H (upd H t (.list [.int 0])) := .upd ht
  have ha0 := ha.le hle0
  have hb0 := hb.le hle0
  have ht0 : upd H t (.list [.int 0]) t = some (.list [.int 0]) := upd_self
  generalize upd H t (.list [.int 0]) = H0 at *
  repeat k_updF
  refine ⟨.inl ht0, by (first | lia | omega), by (first | lia | omega), fun f hf => ?_⟩
  rw [← Int.natCast_add, Int.toNat_natCast, show PV.int 0 = .int (0 : Nat) from rfl, nats_replicate]
  have hf' : H f = none := hle0.none hf
  have hna := ha0.ne hf
  have hnb := hb0.ne hf
  repeat k_updF
  rw [mask_nat]
  obtain ⟨p₀, h1, h2⟩ := (ha0.upd (p := .list (nats (List.replicate (xs.length + ys.length) 0))) hna).cases
  refine ts_enum (J1_c_mul_school la lb w f H0 xs ys b) (by assumption) b_enumerate ?_ (by exact rfl) (by exact rfl)
  repeat k_updF
  refine ⟨la, _, p₀, rfl, h1, h2, ⟨List.replicate (xs.length + ys.length) 0, ⟨rfl, rfl, rfl, rfl, rfl, trivial⟩, by rw [upd_ne (Ne.symm hna), upd_self], .refl _ _, by simp, fun x hx => by rw [List.eq_of_mem_replicate hx]; (first | lia | omega), by rw [val_replicate]; simp [val], fun k _ => ?_⟩, ?_, ?_, ?_⟩
  · by_cases h : k < xs.length + ys.length
    · exact List.eq_of_mem_replicate (getD_mem (by simpa using h))
    · exact getD_out (by simp; (first | lia | omega))
  · rintro i ℓ₂ H₂ ⟨fs, hℓ, hff, hle, _⟩
    exact hle _ _ hna upd_self
  · rintro i y ℓ₂ H₂ hi ⟨fs, hℓ, hff, hle, hfl, hfb, hv, hz⟩
    obtain ⟨hi', rfl⟩ := nats_get hi
    have hx := hxa _ (getD_mem (xs := xs) (i := i) (by (first | lia | omega)))
    refine ts_weakenC2 ?_ hℓ
    have hb2 : IsL H₂ lb (nats ys) := (isL_lock (hb0.upd (p := .list (nats (List.replicate (xs.length + ys.length) 0))) hnb) (ha0.upd hna)).leX hle hnb
    repeat k_updF
    obtain ⟨p₁, h3, h4⟩ := hb2.cases
    generalize hxe : xs.getD i 0 = x at *
    refine ts_enum (J2_c_mul_school la lb w f i H₂ ys xs fs x) (by assumption) b_enumerate ?_ (by exact rfl) (by exact rfl)
    repeat k_updF
    refine ⟨lb, _, p₁, rfl, h3, h4, ⟨fs, 0, ⟨rfl, rfl, rfl, rfl, rfl, rfl, rfl, rfl, trivial⟩, by rw [upd_ne (Ne.symm hnb)]; exact hff, .refl _ _, hfl, hfb, by simp [val], by (first | lia | omega), hz⟩, ?_, ?_, ?_⟩
    · rintro j ℓ₃ H₃ ⟨fs', k, hℓ', hff', hle', _⟩
      exact hle' _ _ hnb upd_self
    · rintro j y ℓ₃ H₃ hj ⟨fs', k, hℓ', hff', hle', hfl', hfb', hv', hk', hz'⟩
      obtain ⟨hj', rfl⟩ := nats_get hj
      have hy := hxb _ (getD_mem (xs := ys) (i := j) (by (first | lia | omega)))
      refine ts_weakenC2 ?_ hℓ'
      have h5 : IsL H₃ f (nats fs') := .inl hff'
      generalize hye : ys.getD j 0 = y at *
      repeat k_updF
      refine ⟨mulOk_small (by (first | lia | omega)), ?_⟩
      rw [← Int.natCast_mul]
      repeat k_updF
      simp only [← Int.natCast_add, Int.toNat_natCast]
      rw [and_mask]
      refine ⟨_, _, _, rfl, rfl, hff', by (first | lia | omega), by (first | lia | omega), by rw [nats_len]; (first | lia | omega), ?_⟩
      rw [nats_set]
      simp only [Int.toNat_natCast]
      repeat k_updF
      rw [shr_nat]
      refine ⟨_, _, ⟨rfl, rfl, rfl, rfl, rfl, rfl, rfl, rfl, trivial⟩, upd_self, hle'.upd, by rw [List.length_set, hfl'], mem_set hfb' (Nat.mod_lt _ (by (first | lia | omega))), ?_, ?_, ?_⟩
      · rw [show i + (j + 1) = i + j + 1 from rfl, Nat.pow_succ, step_set (val_set (by (first | lia | omega))), val_take_succ', hye, Nat.mul_add, ← Nat.add_assoc, hv', Nat.mul_add x, Nat.mul_add, Nat.add_assoc, Nat.pow_add, show (2 ^ w) ^ i * (x * ((2 ^ w) ^ j * y)) = (2 ^ w) ^ i * (2 ^ w) ^ j * (x * y) from by rw [Nat.mul_left_comm x, Nat.mul_assoc]]
      · rw [Nat.div_lt_iff_lt_mul (by (first | lia | omega))]
        have hd := getD_lt (B := 2 ^ w) (by (first | lia | omega)) hfb' (i + j)
        have : x * y ≤ (2 ^ w - 1) * (2 ^ w - 1) := Nat.mul_le_mul (by (first | lia | omega)) (by (first | lia | omega))
        have e2 : (2 ^ w - 1) * (2 ^ w - 1) + 2 * (2 ^ w - 1) + 1 = 2 ^ w * 2 ^ w := by
          obtain ⟨u, hu⟩ : ∃ u, 2 ^ w = u + 1 := ⟨2 ^ w - 1, by (first | lia | omega)⟩
          rw [hu, Nat.add_sub_cancel, Nat.add_mul, Nat.mul_add]; (first | lia | omega)
        (first | lia | omega)
      · intro q hq
        rw [getD_set (by (first | lia | omega))]; exact hz' q hq
    · rintro ℓ₃ H₃ ⟨fs', k, hℓ', hff', hle', hfl', hfb', hv', hk', hz'⟩
      rw [nats_len, List.take_length, hvb] at hv'
      refine ts_weaken ?_ hℓ'
      have hff2 : upd H₃ lb p₁ f = some (.list (nats fs')) := by rw [upd_ne (Ne.symm hnb)]; exact hff'
      have hle2 := leX_unlock hle' h3
      have hb3 : IsL (upd H₃ lb p₁) lb (nats ys) := by
        rcases h4 with h4 | h4
        · exact .inl (by rw [upd_self, h4])
        · exact .inr (by rw [upd_self, h4])
      repeat k_updF
      rw [← Int.natCast_add]
      refine ⟨_, _, _, rfl, rfl, hff2, by (first | lia | omega), by (first | lia | omega), by rw [nats_len]; (first | lia | omega), ?_⟩
      rw [nats_set, Int.toNat_natCast]
      repeat k_updF
      refine ⟨_, ⟨rfl, rfl, rfl, rfl, rfl, trivial⟩, upd_self, (hle.trans hle2).upd, by rw [List.length_set, hfl'], mem_set hfb' hk', ?_, ?_⟩
      · have := val_set (B := 2 ^ w) (fs := fs') (k := i + ys.length) (v := k) (by (first | lia | omega))
        rw [hz' _ (Nat.le_refl _), Nat.mul_zero, Nat.add_zero] at this
        rw [this, hv', hv, val_take_succ', hxe, Nat.add_mul, Nat.mul_assoc]
      · intro q hq
        rw [getD_set (by (first | lia | omega))]; exact hz' q (by (first | lia | omega))
  · rintro ℓ₂ H₂ ⟨fs, hℓ, hff, hle, hfl, hfb, hv, hz⟩
    rw [nats_len, List.take_length, hva] at hv
    have hff' : upd H₂ la p₀ f = some (.list (nats fs)) := by rw [upd_ne (Ne.symm hna)]; exact hff
    have hle' : Le H (upd H₂ la p₀) := hle0.trans (leX_fin (leX_unlock hle h1) hf)
    refine ts_weaken ?_ hℓ
    repeat k_updF
    refine te_call (by assumption) k_normal ?_ (by exact rfl) (by exact rfl)
    refine te_global g_normal ?_ (by assumption) (by exact rfl) (by decide)
    refine ⟨rfl, ?_⟩
    repeat k_updF
    exact c_norm ok' hB hle' (.inl hff') (by (first | lia | omega)) hfb hv

theorem drop_set {fs : List Nat} {k m v : Nat} (h : k < m) : (fs.set k v).drop m = fs.drop m := by
  apply List.ext_getElem?
  intro i
  rw [List.getElem?_drop, List.getElem?_drop, List.getElem?_set_ne (by (first | lia | omega))]
/-- what an adding or a taking away in place leaves -/
inductive InPl (w : Nat) (lr : Addr) (H : Hp) (fs : List Nat) (H' : Hp) (fs' : List Nat) (m : Nat) : Prop
  | mk (h1_ : LeX lr H H') (h2_ : H' lr = some (.list (nats fs'))) (h3_ : fs'.length = fs.length) (h4_ : (∀ x ∈ fs', x < 2 ^ w)) (h5_ : fs'.drop m = fs.drop m) : InPl w lr H fs H' fs' m

inductive P_c_put_back (w : Nat) (lr : Addr) (H : Hp) (fs : List Nat) (at_ : Nat) (ys : List Nat) (b : Nat) (vz : PV) (H' : Hp) : Prop
  | mk (fs') (k) (h1_ : InPl w lr H fs H' fs' (at_ + ys.length + 1)) (h2_ : val (2 ^ w) fs' + (2 ^ w) ^ (at_ + ys.length + 1) * k = val (2 ^ w) fs + (2 ^ w) ^ at_ * b) (h3_ : k ≤ 1) : P_c_put_back w lr H fs at_ ys b vz H'
inductive J1_c_put_back (lr : Addr) (lb : Addr) (at_ : Nat) (w : Nat) (H : Hp) (ys : List Nat) (fs : List Nat) (j : Nat) (ℓ₁ : Loc) (H₃ : Hp) : Prop
  | mk (fs') (k) (h1_ : SubL [("rest", .ref lr), ("b", .ref lb), ("at", .int at_), ("w", .int w), ("mask", .int (2 ^ w - 1 : Nat)), ("carry", .int (k : Nat))] ℓ₁) (h2_ : InPl w lr (upd H lb (.ro (nats ys))) fs H₃ fs' (at_ + ys.length + 1)) (h3_ : val (2 ^ w) fs' + (2 ^ w) ^ (at_ + j) * k = val (2 ^ w) fs + (2 ^ w) ^ at_ * val (2 ^ w) (ys.take j)) (h4_ : k ≤ 1) : J1_c_put_back lr lb at_ w H ys fs j ℓ₁ H₃
theorem c_put_back {d : Wd} {c : Cx} {ℓ : Loc} {H : Hp} {r : Nat} (ok : c.Ok (GW d) (r + 1)) {lr lb : Addr} {w b at_ : Nat} {fs ys : List Nat} (hw : 3 ≤ w) (hw' : w ≤ 8) (hr : H lr = some (.list (nats fs))) (hb : IsL H lb (nats ys)) (hne : lb ≠ lr) (hfb : ∀ x ∈ fs, x < 2 ^ w) (hxb : ∀ x ∈ ys, x < 2 ^ w) (hvb : val (2 ^ w) ys = b) (hlen : at_ + ys.length < fs.length) (hz : fs.length ≤ 100) :
    FC (GW d) c ℓ H 247 [.ref lr, .ref lb, .int at_, .int w] (P_c_put_back w lr H fs at_ ys b) := by
  refine fc_def ["rest", "b", "at", "w"] [("w", .int w), ("at", .int at_), ("b", .ref lb), ("rest", .ref lr)] ok (by exact rfl) (by kernel_rfl) rfl rfl (fun s vs h => ?hb) (by kernel_rfl) (by decide +kernel) (fun L g ok' => ?hw)
  case hb =>
    obtain ⟨u0, u1, u2, u3, rfl⟩ := len4 h
    exact BindsTo.of_eq rfl
  clear ok
  have hB : 2 ≤ 2 ^ w := by have := eight_le hw; (first | lia | omega)
  have h256 := le_256 hw'
  repeat k_updF
  rw [mask_nat]
  obtain ⟨p₁, h3, h4⟩ := hb.cases
  refine ts_enum (J1_c_put_back lr lb at_ w H ys fs) (by assumption) b_enumerate ?_ (by exact rfl) (by exact rfl)
  repeat k_updF
  refine ⟨lb, _, p₁, rfl, h3, h4, ⟨fs, 0, ⟨rfl, rfl, rfl, rfl, rfl, rfl, trivial⟩, ⟨.refl _ _, by rw [upd_ne (Ne.symm hne)]; exact hr, rfl, hfb, rfl⟩, by simp [val], by (first | lia | omega)⟩, ?_, ?_, ?_⟩
  · rintro j ℓ₃ H₃ ⟨fs', k, hℓ', ⟨hle', _⟩, _⟩
    exact hle' _ _ hne upd_self
  · rintro j y ℓ₃ H₃ hj ⟨fs', k, hℓ', ⟨hle', hff', hfl', hfb', hdr'⟩, hv', hk'⟩
    obtain ⟨hj', rfl⟩ := nats_get hj
    have hy := hxb _ (getD_mem (xs := ys) (i := j) (by (first | lia | omega)))
    refine ts_weakenC2 ?_ hℓ'
    have h5 : IsL H₃ lr (nats fs') := .inl hff'
    generalize hye : ys.getD j 0 = y at *
    repeat k_updF
    simp only [← Int.natCast_add, Int.toNat_natCast]
    rw [and_mask]
    refine ⟨_, _, _, rfl, rfl, hff', by (first | lia | omega), by (first | lia | omega), by rw [nats_len]; (first | lia | omega), ?_⟩
    rw [nats_set]
    simp only [Int.toNat_natCast]
    repeat k_updF
    rw [shr_nat]
    refine ⟨_, _, ⟨rfl, rfl, rfl, rfl, rfl, rfl, trivial⟩, ⟨hle'.upd, upd_self, by rw [List.length_set, hfl'], mem_set hfb' (Nat.mod_lt _ (by (first | lia | omega))), by rw [drop_set (by (first | lia | omega)), hdr']⟩, ?_, ?_⟩
    · rw [show at_ + (j + 1) = at_ + j + 1 from rfl, Nat.pow_succ, step_set (val_set (by (first | lia | omega))), val_take_succ', hye, Nat.mul_add, ← Nat.add_assoc, hv', Nat.mul_add, Nat.add_assoc, Nat.pow_add, Nat.mul_assoc]
    · have hd := getD_lt (B := 2 ^ w) (by (first | lia | omega)) hfb' (at_ + j)
      have : (k + (fs'.getD (at_ + j) 0 + y)) / 2 ^ w < 2 := by
        rw [Nat.div_lt_iff_lt_mul (by (first | lia | omega))]; (first | lia | omega)
      (first | lia | omega)
  · rintro ℓ₃ H₃ ⟨fs', k, hℓ', ⟨hle', hff', hfl', hfb', hdr'⟩, hv', hk'⟩
    rw [nats_len, List.take_length, hvb] at hv'
    refine ts_weaken ?_ hℓ'
    have hff2 : upd H₃ lb p₁ lr = some (.list (nats fs')) := by rw [upd_ne (Ne.symm hne)]; exact hff'
    have hle2 := leX_unlock hle' h3
    have hb3 : IsL (upd H₃ lb p₁) lb (nats ys) := by
      rcases h4 with h4 | h4
      · exact .inl (by rw [upd_self, h4])
      · exact .inr (by rw [upd_self, h4])
    have h5 : IsL (upd H₃ lb p₁) lr (nats fs') := .inl hff2
    have hd := getD_lt (B := 2 ^ w) (by (first | lia | omega)) hfb' (at_ + ys.length)
    repeat k_updF
    simp only [← Int.natCast_add, Int.toNat_natCast]
    rw [and_mask]
    refine ⟨_, _, _, rfl, rfl, hff2, by (first | lia | omega), by (first | lia | omega), by rw [nats_len]; (first | lia | omega), ?_⟩
    rw [nats_set, Int.toNat_natCast]
    repeat k_updF
    refine ⟨_, (k + (fs'.getD (at_ + ys.length) 0 + 0)) / 2 ^ w, ⟨hle2.upd, upd_self, by rw [List.length_set, hfl'], mem_set hfb' (Nat.mod_lt _ (by (first | lia | omega))), by rw [drop_set (by (first | lia | omega)), hdr']⟩, ?_, ?_⟩
    · rw [Nat.pow_succ, step_set (t := 0) (d := fs'.getD (at_ + ys.length) 0) (vo := val (2 ^ w) fs')]
      · rw [Nat.add_zero, hv']
      · rw [Nat.add_zero, Nat.add_comm k]; exact val_set (by (first | lia | omega))
    · have : (k + (fs'.getD (at_ + ys.length) 0 + 0)) / 2 ^ w < 2 := by
        rw [Nat.div_lt_iff_lt_mul (by (first | lia | omega))]; (first | lia | omega)
      (first | lia | omega)

theorem take_step {B P A vo vn d g c be V T L q m : Nat} (hv : vn + P * d = vo + P * g) (hg : g + m = d + B * be) (hL : L = B * q + m) (ho : vo + A = V + P * c) (hLT : L = T + c) : vn + (A + P * T) = V + P * B * (q + be) := by
  have e1 : P * (g + m) = P * (d + B * be) := by rw [hg]
  have e2 : P * L = P * (B * q + m) := by rw [hL]
  have e3 : P * L = P * (T + c) := by rw [hLT]
  rw [Nat.mul_add, Nat.mul_add, ← Nat.mul_assoc] at e1
  rw [Nat.mul_add, ← Nat.mul_assoc] at e2
  rw [Nat.mul_add] at e3
  rw [Nat.mul_add]
  (first | lia | omega)

inductive P_c_take_away (w : Nat) (lr : Addr) (H : Hp) (fs : List Nat) (at_ : Nat) (ys : List Nat) (l : Nat) (b : Nat) (v : PV) (H' : Hp) : Prop
  | mk (fs') (k) (h1_ : v = .int (k : Nat)) (h2_ : InPl w lr H fs H' fs' (at_ + ys.length + 1)) (h3_ : val (2 ^ w) fs' + (2 ^ w) ^ at_ * (l * b) = val (2 ^ w) fs + (2 ^ w) ^ (at_ + ys.length + 1) * k) (h4_ : k ≤ 1) : P_c_take_away w lr H fs at_ ys l b v H'
inductive J1_c_take_away (lr : Addr) (lb : Addr) (l : Nat) (at_ : Nat) (w : Nat) (H : Hp) (ys : List Nat) (fs : List Nat) (j : Nat) (ℓ₁ : Loc) (H₃ : Hp) : Prop
  | mk (fs') (k) (h1_ : SubL [("rest", .ref lr), ("b", .ref lb), ("limb", .int (l : Nat)), ("at", .int at_), ("w", .int w), ("base", .int (2 ^ w : Nat)), ("carry", .int (k : Nat))] ℓ₁) (h2_ : InPl w lr (upd H lb (.ro (nats ys))) fs H₃ fs' (at_ + ys.length + 1)) (h3_ : val (2 ^ w) fs' + (2 ^ w) ^ at_ * (l * val (2 ^ w) (ys.take j)) = val (2 ^ w) fs + (2 ^ w) ^ (at_ + j) * k) (h4_ : k < 2 ^ w) : J1_c_take_away lr lb l at_ w H ys fs j ℓ₁ H₃
theorem c_take_away {d : Wd} {c : Cx} {ℓ : Loc} {H : Hp} {r : Nat} (ok : c.Ok (GW d) (r + 1)) {lr lb : Addr} {w b l at_ : Nat} {fs ys : List Nat} (hw : 3 ≤ w) (hw' : w ≤ 8) (hr : H lr = some (.list (nats fs))) (hb : IsL H lb (nats ys)) (hne : lb ≠ lr) (hfb : ∀ x ∈ fs, x < 2 ^ w) (hxb : ∀ x ∈ ys, x < 2 ^ w) (hvb : val (2 ^ w) ys = b) (hlen : at_ + ys.length < fs.length) (hz : fs.length ≤ 100) (hl : l < 2 ^ w) :
    FC (GW d) c ℓ H 240 [.ref lr, .ref lb, .int (l : Nat), .int at_, .int w] (P_c_take_away w lr H fs at_ ys l b) := by
  refine fc_def ["rest", "b", "limb", "at", "w"] [("w", .int w), ("at", .int at_), ("limb", .int (l : Nat)), ("b", .ref lb), ("rest", .ref lr)] ok (by exact rfl) (by kernel_rfl) rfl rfl (fun s vs h => ?hb) (by kernel_rfl) (by decide +kernel) (fun L g ok' => ?hw)
  case hb =>
    obtain ⟨u0, u1, u2, u3, u4, rfl⟩ := len5 h
    exact BindsTo.of_eq rfl
  clear ok
  have hB : 2 ≤ 2 ^ w := by have := eight_le hw; (first | lia | omega)
  have h256 := le_256 hw'
  repeat k_updF
  rw [base_nat]
  obtain ⟨p₁, h3, h4⟩ := hb.cases
  refine ts_enum (J1_c_take_away lr lb l at_ w H ys fs) (by assumption) b_enumerate ?_ (by exact rfl) (by exact rfl)
  repeat k_updF
  refine ⟨lb, _, p₁, rfl, h3, h4, ⟨fs, 0, ⟨rfl, rfl, rfl, rfl, rfl, rfl, rfl, trivial⟩, ⟨.refl _ _, by rw [upd_ne (Ne.symm hne)]; exact hr, rfl, hfb, rfl⟩, by simp [val], by (first | lia | omega)⟩, ?_, ?_, ?_⟩
  · rintro j ℓ₃ H₃ ⟨fs', k, hℓ', ⟨hle', _⟩, _⟩
    exact hle' _ _ hne upd_self
  · rintro j y ℓ₃ H₃ hj ⟨fs', k, hℓ', ⟨hle', hff', hfl', hfb', hdr'⟩, hv', hk'⟩
    obtain ⟨hj', rfl⟩ := nats_get hj
    have hy := hxb _ (getD_mem (xs := ys) (i := j) (by (first | lia | omega)))
    refine ts_weakenC2 ?_ hℓ'
    have h5 : IsL H₃ lr (nats fs') := .inl hff'
    have hd := getD_lt (B := 2 ^ w) (by (first | lia | omega)) hfb' (at_ + j)
    generalize hye : ys.getD j 0 = y at *
    repeat k_updF
    simp only [← Int.natCast_add, Int.toNat_natCast]
    generalize hde : fs'.getD (at_ + j) 0 = d' at *
    have hLb : l * y + k ≤ (2 ^ w - 1) * 2 ^ w := by
      have h1 : l * y ≤ (2 ^ w - 1) * (2 ^ w - 1) := Nat.mul_le_mul (by (first | lia | omega)) (by (first | lia | omega))
      have h2 : (2 ^ w - 1) * 2 ^ w = (2 ^ w - 1) * (2 ^ w - 1) + (2 ^ w - 1) := by
        rw [← Nat.mul_succ]; congr 1; (first | lia | omega)
      (first | lia | omega)
    have hL64 : l * y + k < 2 ^ 60 := by
      have : (2 ^ w - 1) * 2 ^ w ≤ 256 * 256 := Nat.mul_le_mul (by (first | lia | omega)) h256
      (first | lia | omega)
    refine ⟨mulOk_small (by (first | lia | omega)), ?_⟩
    rw [← Int.natCast_mul]
    repeat k_updF
    simp only [← Int.natCast_add, Int.toNat_natCast]
    refine ⟨by (first | lia | omega), ?_⟩
    rw [fmod_nat]
    repeat k_updF
    refine ⟨mulOk_small (by (first | lia | omega)), ?_⟩
    rw [← Int.natCast_mul]
    repeat k_updF
    simp only [← Int.natCast_add, Int.toNat_natCast]
    refine ⟨by (first | lia | omega), log_small (by (first | lia | omega)), ?_⟩
    rw [fdiv_nat]
    generalize hLe : l * y + k = L' at *
    have hqm := Nat.div_add_mod L' (2 ^ w)
    have hm := Nat.mod_lt L' (show 0 < 2 ^ w by (first | lia | omega))
    have hq : L' / 2 ^ w ≤ 2 ^ w - 1 := by
      rw [← Nat.lt_succ_iff, Nat.div_lt_iff_lt_mul (by (first | lia | omega)), Nat.succ_mul]; (first | lia | omega)
    have hq2 : 0 < L' % 2 ^ w → L' / 2 ^ w < 2 ^ w - 1 := fun h => by
      refine Nat.lt_of_mul_lt_mul_right (a := 2 ^ w) ?_
      rw [Nat.mul_comm (L' / 2 ^ w)]
      (first | lia | omega)
    generalize L' / 2 ^ w = q at *
    generalize hme : L' % 2 ^ w = m' at *
    have vs := fun v => val_set (B := 2 ^ w) (fs := fs') (k := at_ + j) (v := v) (by (first | lia | omega))
    refine TE.mono (Q := fun v H' => v = .int ((if d' < m' then 1 else 0 : Nat) : Nat) ∧ H' = H₃) ?_ ?_
    · refine te_ifexp ?_
      repeat k_updF
      refine if_lt (fun h => ?_) (fun h => ?_)
      · repeat k_updF
        rw [if_pos (by (first | lia | omega))]; exact ⟨rfl, rfl⟩
      · repeat k_updF
        rw [if_neg (by (first | lia | omega))]; exact ⟨rfl, rfl⟩
    · rintro _ H' ⟨rfl, e⟩; rw [e]; clear e H'
      repeat k_updF
      simp only [← Int.natCast_add]
      refine TE.mono (Q := fun v H' => v = .int ((if d' < m' then d' + 2 ^ w - m' else d' - m' : Nat) : Nat) ∧ H' = H₃) ?_ ?_
      · refine te_ifexp ?_
        repeat k_updF
        refine if_lt (fun h => ?_) (fun h => ?_)
        · repeat k_updF
          rw [if_pos (by (first | lia | omega))]
          refine ⟨?_, rfl⟩
          congr 1; (first | lia | omega)
        · repeat k_updF
          rw [if_neg (by (first | lia | omega))]
          refine ⟨?_, rfl⟩
          congr 1; (first | lia | omega)
      · rintro _ H' ⟨rfl, e⟩; rw [e]; clear e H'
        repeat k_updF
        simp only [← Int.natCast_add]
        refine ⟨_, _, _, rfl, rfl, hff', by (first | lia | omega), by (first | lia | omega), by rw [nats_len]; (first | lia | omega), ?_⟩
        rw [nats_set]
        simp only [Int.toNat_natCast]
        repeat k_updF
        have hg : (if d' < m' then d' + 2 ^ w - m' else d' - m') < 2 ^ w := by split <;> (first | lia | omega)
        have hg2 : (if d' < m' then d' + 2 ^ w - m' else d' - m') + m' = d' + 2 ^ w * (if d' < m' then 1 else 0) := by split <;> (first | lia | omega)
        have vs := vs (if d' < m' then d' + 2 ^ w - m' else d' - m')
        rw [hde] at vs
        refine ⟨_, _, ⟨rfl, rfl, rfl, rfl, rfl, rfl, rfl, trivial⟩, ⟨hle'.upd, upd_self, by rw [List.length_set, hfl'], mem_set hfb' hg, by rw [drop_set (by (first | lia | omega)), hdr']⟩, ?_, ?_⟩
        · have := take_step vs hg2 hqm.symm hv' hLe.symm
          rw [show at_ + (j + 1) = at_ + j + 1 from rfl, Nat.pow_succ (m := at_ + j), ← this, val_take_succ', hye, Nat.mul_add l, Nat.mul_add, Nat.pow_add, show (2 ^ w) ^ at_ * (l * ((2 ^ w) ^ j * y)) = (2 ^ w) ^ at_ * (2 ^ w) ^ j * (l * y) from by rw [Nat.mul_left_comm l, Nat.mul_assoc]]
        · split <;> (first | lia | omega)
  · rintro ℓ₃ H₃ ⟨fs', k, hℓ', ⟨hle', hff', hfl', hfb', hdr'⟩, hv', hk'⟩
    rw [nats_len, List.take_length, hvb] at hv'
    refine ts_weaken ?_ hℓ'
    have hff2 : upd H₃ lb p₁ lr = some (.list (nats fs')) := by rw [upd_ne (Ne.symm hne)]; exact hff'
    have hle2 := leX_unlock hle' h3
    have hb3 : IsL (upd H₃ lb p₁) lb (nats ys) := by
      rcases h4 with h4 | h4
      · exact .inl (by rw [upd_self, h4])
      · exact .inr (by rw [upd_self, h4])
    have h5 : IsL (upd H₃ lb p₁) lr (nats fs') := .inl hff2
    have hd := getD_lt (B := 2 ^ w) (by (first | lia | omega)) hfb' (at_ + ys.length)
    repeat k_updF
    simp only [← Int.natCast_add, Int.toNat_natCast]
    generalize hde : fs'.getD (at_ + ys.length) 0 = d' at *
    have vs := fun v => val_set (B := 2 ^ w) (fs := fs') (k := at_ + ys.length) (v := v) (by (first | lia | omega))
    refine TE.mono (Q := fun v H' => v = .int ((if d' < k then d' + 2 ^ w - k else d' - k : Nat) : Nat) ∧ H' = upd H₃ lb p₁) ?_ ?_
    · refine te_ifexp ?_
      repeat k_updF
      refine if_lt (fun h => ?_) (fun h => ?_)
      · repeat k_updF
        rw [if_pos (by (first | lia | omega))]
        refine ⟨?_, rfl⟩
        congr 1; (first | lia | omega)
      · repeat k_updF
        rw [if_neg (by (first | lia | omega))]
        refine ⟨?_, rfl⟩
        congr 1; (first | lia | omega)
    · rintro _ H' ⟨rfl, e⟩; rw [e]; clear e H'
      repeat k_updF
      simp only [← Int.natCast_add]
      refine ⟨_, _, _, rfl, rfl, hff2, by (first | lia | omega), by (first | lia | omega), by rw [nats_len]; (first | lia | omega), ?_⟩
      rw [nats_set]
      simp only [Int.toNat_natCast]
      have hg : (if d' < k then d' + 2 ^ w - k else d' - k) < 2 ^ w := by split <;> (first | lia | omega)
      have hg2 : (if d' < k then d' + 2 ^ w - k else d' - k) + k = d' + 2 ^ w * (if d' < k then 1 else 0) := by split <;> (first | lia | omega)
      have vs := vs (if d' < k then d' + 2 ^ w - k else d' - k)
      rw [hde] at vs
      repeat k_updF
      refine TE.mono (Q := fun v H' => v = .int ((if d' < k then 1 else 0 : Nat) : Nat) ∧ H' = upd (upd H₃ lb p₁) lr (.list (nats (fs'.set (at_ + ys.length) (if d' < k then d' + 2 ^ w - k else d' - k))))) ?_ ?_
      · refine te_ifexp ?_
        repeat k_updF
        refine if_lt (fun h => ?_) (fun h => ?_)
        · repeat k_updF
          rw [if_pos (show d' < k by (first | lia | omega))]; exact ⟨rfl, rfl⟩
        · repeat k_updF
          rw [if_neg (show ¬ d' < k by (first | lia | omega))]; exact ⟨rfl, rfl⟩
      · rintro _ H' ⟨rfl, rfl⟩
        refine ⟨_, (if d' < k then 1 else 0), rfl, ⟨hle2.upd, upd_self, by rw [List.length_set, hfl'], mem_set hfb' hg, by rw [drop_set (by (first | lia | omega)), hdr']⟩, ?_, by split <;> (first | lia | omega)⟩
        have := take_step (T := 0) (q := 0) (L := k) vs hg2 (by (first | lia | omega)) hv' (by (first | lia | omega))
        rw [Nat.pow_succ]
        simpa using this

theorem LeX.updF {l f : Addr} {H H' : Hp} {p : PO} (x : LeX l H H') (h : H f = none) : LeX l H (Mine.upd H' f p) := fun a q n e => by
  have : a ≠ f := fun z => by rw [z, h] at e; cases e
  rw [upd_ne this]; exact x a q n e
theorem take3 {fs : List Nat} {k : Nat} (h : k + 2 < fs.length) : (fs.drop k).take 3 = [fs.getD k 0, fs.getD (k + 1) 0, fs.getD (k + 2) 0] := by
  have g : ∀ j (hj : j < fs.length), fs.getD j 0 = fs[j] := fun j hj => by simp [List.getD_eq_getElem?_getD, hj]
  rw [List.drop_eq_getElem_cons (show k < fs.length by (first | lia | omega)), List.drop_eq_getElem_cons (show k + 1 < fs.length by (first | lia | omega)), List.drop_eq_getElem_cons (show k + 1 + 1 < fs.length by (first | lia | omega)), g k (by (first | lia | omega)), g (k + 1) (by (first | lia | omega)), g (k + 2) (by (first | lia | omega))]
  rfl
/-- a two-limb quotient is right or one too much -/
theorem knuth {P D B V b U3 V2 l q : Nat} (hP : 0 < P) (hD : 0 < D) (hB : 0 < B) (h1 : D * V2 ≤ b) (h2 : b < D * (V2 + 1)) (h3 : P * D * U3 ≤ V) (h4 : V < P * D * (U3 + 1)) (h5 : V < P * B * b) (h6 : B ≤ V2)
    (hl : l = min (U3 / V2) (B - 1)) (hq : q = V / (P * b)) : q ≤ l ∧ l ≤ q + 1 := by
  have hV2 : 0 < V2 := by (first | lia | omega)
  have hb : 0 < b := Nat.lt_of_lt_of_le (Nat.mul_pos hD hV2) h1
  have hPb : 0 < P * b := Nat.mul_pos hP hb
  have hPD : 0 < P * D := Nat.mul_pos hP hD
  constructor
  · have hqV : q * (P * b) ≤ V := by rw [hq]; exact Nat.div_mul_le_self _ _
    have a1 : q < B := by
      rw [hq, Nat.div_lt_iff_lt_mul hPb]
      calc V < P * B * b := h5
        _ = B * (P * b) := by rw [Nat.mul_comm P B, Nat.mul_assoc]
    have a2 : q ≤ U3 / V2 := by
      rw [Nat.le_div_iff_mul_le hV2]
      refine Nat.le_of_lt_succ (Nat.lt_of_mul_lt_mul_left (a := P * D) ?_)
      calc P * D * (q * V2) = q * (P * (D * V2)) := by rw [Nat.mul_left_comm, Nat.mul_assoc]
        _ ≤ q * (P * b) := Nat.mul_le_mul_left _ (Nat.mul_le_mul_left _ h1)
        _ ≤ V := hqV
        _ < P * D * (U3 + 1) := h4
    (first | lia | omega)
  · have hlV : l * V2 ≤ U3 := by
      have : l ≤ U3 / V2 := by (first | lia | omega)
      exact (Nat.le_div_iff_mul_le hV2).mp this
    have hlB : l ≤ V2 := by (first | lia | omega)
    have e1 : l * (P * b) ≤ V + P * b := by
      calc l * (P * b) ≤ l * (P * (D * (V2 + 1))) := Nat.mul_le_mul_left _ (Nat.mul_le_mul_left _ (Nat.le_of_lt h2))
        _ = P * D * (l * V2) + P * (D * l) := by
          rw [← Nat.mul_assoc P D, Nat.mul_left_comm, Nat.mul_add, Nat.mul_one, Nat.mul_add, Nat.mul_assoc P D l]
        _ ≤ P * D * U3 + P * (D * V2) := Nat.add_le_add (Nat.mul_le_mul_left _ hlV) (Nat.mul_le_mul_left _ (Nat.mul_le_mul_left _ hlB))
        _ ≤ V + P * b := Nat.add_le_add h3 (Nat.mul_le_mul_left _ h1)
    rcases Nat.eq_zero_or_pos l with h0 | h0
    · (first | lia | omega)
    · have : l - 1 ≤ q := by
        rw [hq, Nat.le_div_iff_mul_le hPb, Nat.sub_mul, Nat.one_mul]
        (first | lia | omega)
      (first | lia | omega)
theorem val_div_pow {B : Nat} (hB : 0 < B) {xs : List Nat} (h : ∀ x ∈ xs, x < B) {k : Nat} (hk : k ≤ xs.length) : B ^ k * val B (xs.drop k) ≤ val B xs ∧ val B xs < B ^ k * (val B (xs.drop k) + 1) := by
  have e := val_split (B := B) xs k hk
  have h1 : val B (xs.take k) < B ^ k := by
    have := val_lt hB (xs := xs.take k) fun x hx' => h x (List.mem_of_mem_take hx')
    rwa [List.length_take, Nat.min_eq_left hk] at this
  rw [Nat.mul_add]
  (first | lia | omega)
theorem val_lt_drop {B : Nat} (hB : 0 < B) {xs : List Nat} (h : ∀ x ∈ xs, x < B) {k : Nat} (hz : val B (xs.drop k) = 0) : val B xs < B ^ k := by
  by_cases hk : k ≤ xs.length
  · have := (val_div_pow hB h hk).2
    rw [hz] at this; simpa using this
  · exact Nat.lt_of_lt_of_le (val_lt hB h) (Nat.pow_le_pow_right hB (by (first | lia | omega)))
theorem knuth_end {P N V b l q v1 k : Nat} (hb : 0 < P * b) (hlq : q ≤ l) (hlq' : l ≤ q + 1) (hq : q = V / (P * b)) (hv : v1 + P * (l * b) = V + N * k) (hk : k ≤ 1) (hN : v1 < N) (hN' : V < N) :
    (k = 0 → l = q ∧ v1 = V % (P * b)) ∧ (k = 1 → l = q + 1 ∧ v1 + P * b = V % (P * b) + N) := by
  have e := Nat.div_add_mod' V (P * b)
  have e2 := Nat.mod_lt V hb
  rw [← hq] at e
  have e3 : P * (l * b) = l * (P * b) := Nat.mul_left_comm ..
  rw [e3] at hv
  rcases Nat.lt_or_ge q l with h | h
  · have : l = q + 1 := by (first | lia | omega)
    subst this
    rw [Nat.add_mul, Nat.one_mul] at hv
    constructor
    · rintro rfl; (first | lia | omega)
    · rintro rfl; exact ⟨rfl, by (first | lia | omega)⟩
  · have : l = q := by (first | lia | omega)
    subst this
    constructor
    · rintro rfl; exact ⟨rfl, by (first | lia | omega)⟩
    · rintro rfl; (first | lia | omega)

inductive P_c_divide_rows (lr : Addr) (H : Hp) (fs : List Nat) (m : Nat) (w : Nat) (b : Nat) (v : PV) (H' : Hp) : Prop
  | mk (f) (qs) (fs') (h1_ : v = .ref f) (h2_ : H' f = some (.list (nats qs))) (h3_ : LeX lr H H') (h4_ : H' lr = some (.list (nats fs'))) (h5_ : fs'.length = fs.length) (h6_ : qs.length = m) (h7_ : (∀ x ∈ qs, x < 2 ^ w)) (h8_ : (∀ x ∈ fs', x < 2 ^ w)) (h9_ : val (2 ^ w) qs = val (2 ^ w) fs / b) (h10_ : val (2 ^ w) fs' = val (2 ^ w) fs % b) : P_c_divide_rows lr H fs m w b v H'
inductive J1_c_divide_rows (lr : Addr) (lb : Addr) (w : Nat) (ys : List Nat) (f : Addr) (m : Nat) (H : Hp) (fs : List Nat) (b : Nat) (i : Nat) (ℓ₁ : Loc) (H₂ : Hp) : Prop
  | mk (qs) (fs') (h1_ : SubL [("rest", .ref lr), ("b", .ref lb), ("w", .int w), ("size", .int ys.length), ("quotient", .ref f)] ℓ₁) (h2_ : H₂ f = some (.list (nats (List.replicate (m - i) 0 ++ qs)))) (h3_ : LeX lr H H₂) (h4_ : H₂ lr = some (.list (nats fs'))) (h5_ : fs'.length = fs.length) (h6_ : qs.length = i) (h7_ : i ≤ m) (h8_ : (∀ x ∈ qs, x < 2 ^ w)) (h9_ : (∀ x ∈ fs', x < 2 ^ w)) (h10_ : val (2 ^ w) fs = val (2 ^ w) qs * ((2 ^ w) ^ (m - i) * b) + val (2 ^ w) fs') (h11_ : val (2 ^ w) fs' < (2 ^ w) ^ (m - i) * b) : J1_c_divide_rows lr lb w ys f m H fs b i ℓ₁ H₂
theorem c_divide_rows {d : Wd} {c : Cx} {ℓ : Loc} {H : Hp} {r : Nat} (ok : c.Ok (GW d) (r + 2)) {lr lb : Addr} {w b m : Nat} {fs ys : List Nat} (hw : 3 ≤ w) (hw' : w ≤ 8) (hr : H lr = some (.list (nats fs))) (hb : IsL H lb (nats ys)) (hne : lb ≠ lr) (hfb : ∀ x ∈ fs, x < 2 ^ w) (hxb : ∀ x ∈ ys, x < 2 ^ w) (hvb : val (2 ^ w) ys = b)
    (hlen : fs.length = m + ys.length) (hy2 : 2 ≤ ys.length) (htop : 0 < ys.getD (ys.length - 1) 0) (hz : fs.length ≤ 100) (hV : val (2 ^ w) fs < (2 ^ w) ^ m * b) :
    FC (GW d) c ℓ H 254 [.ref lr, .ref lb, .int w] (P_c_divide_rows lr H fs m w b) := by
  refine fc_def ["rest", "b", "w"] [("w", .int w), ("b", .ref lb), ("rest", .ref lr)] ok (by exact rfl) (by kernel_rfl) rfl rfl (fun s vs h => ?hb) (by kernel_rfl) (by decide +kernel) (fun L g ok' => ?hw)
  case hb =>
    obtain ⟨u0, u1, u2, rfl⟩ := len3 h
    exact BindsTo.of_eq rfl
  clear ok
  have hB : 2 ≤ 2 ^ w := by have := eight_le hw; (first | lia | omega)
  have h256 := le_256 hw'
  have hr0 : IsL H lr (nats fs) := .inl hr
  repeat k_updF
  refine fun t ht => ?_
  have hle0 : Le H (upd H t (.list [.int 0])) := .upd ht
  have hr1 := hr0.le hle0
  have hb0 := hb.le hle0
  have hrr : upd H t (.list [.int 0]) lr = some (.list (nats fs)) := hle0 _ _ hr
  have ht0 : upd H t (.list [.int 0]) t = some (.list [.int 0]) := upd_self
  generalize upd H t (.list [.int 0]) = H0 at *
  repeat k_updF
  refine ⟨.inl ht0, by (first | lia | omega), by (first | lia | omega), fun f hf => ?_⟩
  rw [show ((fs.length : Int) - ys.length).toNat = m from by (first | lia | omega), show PV.int 0 = .int (0 : Nat) from rfl, nats_replicate]
  have hf' : H f = none := hle0.none hf
  have hnr : lr ≠ f := hr0.ne hf'
  have hnb : lb ≠ f := hb.ne hf'
  have hr2 : IsL (upd H0 f (.list (nats (List.replicate m 0)))) lr (nats fs) := hr1.upd hnr
  repeat k_updF
  have hb1 : 0 < b := by
    rw [← hvb, val_split ys (ys.length - 1) (by (first | lia | omega)), val_drop (by (first | lia | omega))]
    have : 0 < (2 ^ w) ^ (ys.length - 1) * (ys.getD (ys.length - 1) 0 + 2 ^ w * val (2 ^ w) (ys.drop (ys.length - 1 + 1))) := Nat.mul_pos (Nat.pow_pos (by (first | lia | omega))) (by (first | lia | omega))
    (first | lia | omega)
  refine ts_rangeDown (J1_c_divide_rows lr lb w ys f m H fs b) (by assumption) b_range ?_
  repeat k_updF
  refine ⟨rfl, by (first | lia | omega), by (first | lia | omega), by (first | lia | omega), ⟨[], fs, ⟨rfl, rfl, rfl, rfl, rfl, trivial⟩, by rw [upd_self, Nat.sub_zero, List.append_nil], (LeX.of hle0).updF hf', hrr ▸ upd_ne hnr, rfl, rfl, by (first | lia | omega), by simp, hfb, by simp [val], hV⟩, ?_, ?_⟩
  · rintro i ℓ₂ H₂ hi ⟨qs, fs', hℓ, hff, hle, hrr', hfl', hql, him, hqb, hfb', hv, hlt⟩
    have hi' : i < m := by (first | lia | omega)
    obtain ⟨p, hp⟩ : ∃ p, m - i = p + 1 := ⟨m - i - 1, by (first | lia | omega)⟩
    rw [hp] at hff hv hlt
    rw [show (fs.length : Int) - ys.length - 1 - i = p from by (first | lia | omega)]
    refine ts_weakenC ?_ hℓ
    have hb2 : IsL H₂ lb (nats ys) := hb.leX hle hne
    have hr3 : IsL H₂ lr (nats fs') := .inl hrr'
    repeat k_updF
    refine te_call (by assumption) k_guessed_limb ?_ (by exact rfl) (by exact rfl)
    refine te_global g_guessed_limb ?_ (by assumption) (by exact rfl) (by decide)
    refine ⟨rfl, ?_⟩
    repeat k_updF
    refine ⟨lr, _, rfl, hr3, by rw [nats_len]; (first | lia | omega), fun dd hdd => ?_⟩
    obtain ⟨n, hn⟩ : ∃ n, ys.length = n + 2 := ⟨ys.length - 2, by (first | lia | omega)⟩
    rw [pick_run _ (by (first | lia | omega)) (by (first | lia | omega)) (by rw [nats_len]; (first | lia | omega)) (by (first | lia | omega)), nats_drop, nats_take, show ((p : Int) + ys.length - 2).toNat = p + n from by (first | lia | omega), show ((p : Int) + ys.length + 1).toNat - (p + n) = 3 from by (first | lia | omega), take3 (by (first | lia | omega))]
    have hdf : dd ≠ f := fun e => by rw [e, hff] at hdd; cases hdd
    have hdr : dd ≠ lr := fun e => by rw [e, hrr'] at hdd; cases hdd
    have hff3 : upd H₂ dd (.list (nats [fs'.getD (p + n) 0, fs'.getD (p + n + 1) 0, fs'.getD (p + n + 2) 0])) f = some (.list (nats (List.replicate (p + 1) 0 ++ qs))) := by rw [upd_ne (Ne.symm hdf)]; exact hff
    have hrr3 : upd H₂ dd (.list (nats [fs'.getD (p + n) 0, fs'.getD (p + n + 1) 0, fs'.getD (p + n + 2) 0])) lr = some (.list (nats fs')) := by rw [upd_ne (Ne.symm hdr)]; exact hrr'
    have hd3 : IsL (upd H₂ dd (.list (nats [fs'.getD (p + n) 0, fs'.getD (p + n + 1) 0, fs'.getD (p + n + 2) 0]))) dd (nats [fs'.getD (p + n) 0, fs'.getD (p + n + 1) 0, fs'.getD (p + n + 2) 0]) := isL_upd
    have hle3 : Le H₂ (upd H₂ dd (.list (nats [fs'.getD (p + n) 0, fs'.getD (p + n + 1) 0, fs'.getD (p + n + 2) 0]))) := .upd hdd
    have hb3 := hb2.le hle3
    generalize upd H₂ dd (.list (nats [fs'.getD (p + n) 0, fs'.getD (p + n + 1) 0, fs'.getD (p + n + 2) 0])) = H₃ at *
    repeat k_updF
    rw [show ((ys.length : Int) - 1).toNat = n + 1 from by (first | lia | omega), show ((ys.length : Int) - 2).toNat = n from by (first | lia | omega)]
    rw [hn, show n + 2 - 1 = n + 1 from rfl] at htop
    have hBp : 0 < 2 ^ w := by (first | lia | omega)
    refine (c_guessed_limb ok' hw hw' hd3 (getD_lt hBp hfb' _) (getD_lt hBp hfb' _) (getD_lt hBp hfb' _) (getD_lt hBp hxb _) (getD_lt hBp hxb _) htop).mono ?_
    rintro _ H' ⟨rfl, e⟩; rw [e]; clear e H'
    have hpk : (2 ^ w) ^ (p + 1) * b < (2 ^ w) ^ (p + ys.length + 1) := by
      have h1 := val_lt hBp hxb
      rw [hvb] at h1
      rw [show p + ys.length + 1 = (p + 1) + ys.length from by (first | lia | omega), Nat.pow_add (m := p + 1)]
      exact Nat.mul_lt_mul_of_pos_left h1 (Nat.pow_pos hBp)
    have hzero : val (2 ^ w) (fs'.drop (p + ys.length + 1)) = 0 := by
      have h1 := (val_div_pow hBp hfb' (k := p + ys.length + 1) (by (first | lia | omega))).1
      rcases Nat.eq_zero_or_pos (val (2 ^ w) (fs'.drop (p + ys.length + 1))) with h2 | h2
      · exact h2
      · have := Nat.mul_le_mul_left ((2 ^ w) ^ (p + ys.length + 1)) h2
        rw [Nat.mul_one] at this
        (first | lia | omega)
    have hP : 0 < (2 ^ w) ^ p := Nat.pow_pos hBp
    have hU3 : val (2 ^ w) (fs'.drop (p + n)) = (fs'.getD (p + n + 2) 0 * 2 ^ w + fs'.getD (p + n + 1) 0) * 2 ^ w + fs'.getD (p + n) 0 := by
      rw [show p + ys.length + 1 = p + n + 1 + 1 + 1 from by (first | lia | omega)] at hzero
      rw [val_drop', val_drop', val_drop', hzero, Nat.mul_comm (_ + _) (2 ^ w), Nat.mul_comm (fs'.getD (p + n + 2) 0)]
      show _ + 2 ^ w * (fs'.getD (p + n + 1) 0 + 2 ^ w * (fs'.getD (p + n + 2) 0 + _)) = _
      rw [Nat.mul_zero, Nat.add_zero, Nat.add_comm (fs'.getD (p + n) 0), Nat.add_comm (fs'.getD (p + n + 1) 0)]
      simp only [Nat.add_zero]
    have hV2 : val (2 ^ w) (ys.drop n) = ys.getD (n + 1) 0 * 2 ^ w + ys.getD n 0 := by
      rw [val_drop', val_drop', List.drop_of_length_le (by (first | lia | omega))]
      simp only [val]
      rw [Nat.mul_zero, Nat.add_zero, Nat.mul_comm, Nat.add_comm]
    have k1 := val_div_pow hBp hxb (k := n) (by (first | lia | omega))
    have k2 := val_div_pow hBp hfb' (k := p + n) (by (first | lia | omega))
    rw [hvb, hV2] at k1
    rw [hU3, Nat.pow_add] at k2
    generalize hlm : min (((fs'.getD (p + n + 2) 0 * 2 ^ w + fs'.getD (p + n + 1) 0) * 2 ^ w + fs'.getD (p + n) 0) / (ys.getD (n + 1) 0 * 2 ^ w + ys.getD n 0)) (2 ^ w - 1) = l at *
    obtain ⟨lq1, lq2⟩ := knuth (q := val (2 ^ w) fs' / ((2 ^ w) ^ p * b)) hP (Nat.pow_pos hBp) hBp k1.1 k1.2 k2.1 k2.2 (by rw [← Nat.pow_succ]; exact hlt) (by
      have : 1 * 2 ^ w ≤ ys.getD (n + 1) 0 * 2 ^ w := Nat.mul_le_mul_right _ htop
      (first | lia | omega)) hlm.symm rfl
    have hlB : l < 2 ^ w := by (first | lia | omega)
    refine ts_cut (fun ℓ' H' => ∃ fs2, SubL [("rest", .ref lr), ("b", .ref lb), ("w", .int w), ("size", .int ys.length), ("quotient", .ref f), ("at", .int p), ("limb", .int ((val (2 ^ w) fs' / ((2 ^ w) ^ p * b) : Nat)))] ℓ' ∧ LeX lr H₃ H' ∧ H' lr = some (.list (nats fs2)) ∧ fs2.length = fs.length ∧ (∀ x ∈ fs2, x < 2 ^ w) ∧ val (2 ^ w) fs2 = val (2 ^ w) fs' % ((2 ^ w) ^ p * b)) ?_ ?_
    · repeat k_updF
      refine te_call (by assumption) k_take_away ?_ (by exact rfl) (by exact rfl)
      refine te_global g_take_away ?_ (by assumption) (by exact rfl) (by decide)
      refine ⟨rfl, ?_⟩
      repeat k_updF
      refine (c_take_away ok' hw hw' hrr3 hb3 hne hfb' hxb hvb (by (first | lia | omega)) (by (first | lia | omega)) hlB).mono ?_
      rintro v H₄ ⟨fs1, k, rfl, ⟨hle4, hff4, hfl4, hfb4, hdr4⟩, hv4, hk4⟩
      have hN1 := val_lt_drop hBp hfb4 (by rw [hdr4]; exact hzero)
      obtain ⟨w1, w2⟩ := knuth_end (Nat.mul_pos hP hb1) lq1 lq2 rfl hv4 hk4 hN1 (by (first | lia | omega))
      have hb4 : IsL H₄ lb (nats ys) := hb3.leX hle4 hne
      repeat k_updF
      refine if_eq (fun h => ?_) (fun h => ?_)
      · obtain ⟨w3, w4⟩ := w2 (by (first | lia | omega))
        repeat k_updF
        refine te_call (by assumption) k_put_back ?_ (by exact rfl) (by exact rfl)
        refine te_global g_put_back ?_ (by assumption) (by exact rfl) (by decide)
        refine ⟨rfl, ?_⟩
        repeat k_updF
        refine (c_put_back ok' hw hw' hff4 hb4 hne hfb4 hxb hvb (by (first | lia | omega)) (by (first | lia | omega))).mono ?_
        rintro v H₅ ⟨fs2, k2, ⟨hle5, hff5, hfl5, hfb5, hdr5⟩, hv5, hk5⟩
        have hN2 := val_lt_drop hBp hfb5 (by rw [hdr5, hdr4]; exact hzero)
        rw [w4] at hv5
        repeat k_updF
        refine ⟨rfl, fs2, ⟨rfl, rfl, rfl, rfl, rfl, rfl, ?_, trivial⟩, hle4.trans hle5, hff5, by (first | lia | omega), hfb5, ?_⟩
        · show some (PV.int _) = some (PV.int _)
          congr 2; (first | lia | omega)
        · have : k2 = 1 := by
            rcases Nat.eq_zero_or_pos k2 with h0 | h0
            · subst h0; (first | lia | omega)
            · (first | lia | omega)
          subst this
          (first | lia | omega)
      · obtain ⟨w3, w4⟩ := w1 (by (first | lia | omega))
        repeat k_updF
        exact ⟨rfl, fs1, ⟨rfl, rfl, rfl, rfl, rfl, rfl, by rw [← w3]; rfl, trivial⟩, hle4, hff4, by (first | lia | omega), hfb4, w4⟩
    · rintro ℓ₅ H₅ ⟨fs2, hℓ5, hle5, hff5, hfl5, hfb5, hv5⟩
      refine ts_weaken ?_ hℓ5
      have hf5 := hle5 _ _ (Ne.symm hnr) hff3
      repeat k_updF
      refine ⟨_, _, _, rfl, rfl, hf5, by (first | lia | omega), by (first | lia | omega), by rw [nats_len]; simp; (first | lia | omega), ?_⟩
      rw [nats_set, Int.toNat_natCast, set_rep]
      repeat k_updF
      have e := Nat.div_add_mod' (val (2 ^ w) fs') ((2 ^ w) ^ p * b)
      refine ⟨_, fs2, ⟨rfl, rfl, rfl, rfl, rfl, trivial⟩, by rw [upd_self, show m - (i + 1) = p from by (first | lia | omega)], ?_, by rw [upd_ne hnr]; exact hff5, hfl5, by simp [hql], by (first | lia | omega), ?_, hfb5, ?_, ?_⟩
      · exact ((hle.trans (LeX.of hle3)).trans hle5).updF hf'
      · intro x hx
        rcases List.mem_cons.mp hx with rfl | hx
        · (first | lia | omega)
        · exact hqb x hx
      · rw [show m - (i + 1) = p from by (first | lia | omega), hv, hv5, val, Nat.add_mul, Nat.add_assoc, Nat.add_comm _ (_ + _), Nat.pow_succ]
        have e4 : val (2 ^ w) qs * ((2 ^ w) ^ p * 2 ^ w * b) = 2 ^ w * val (2 ^ w) qs * ((2 ^ w) ^ p * b) := by
          rw [Nat.mul_comm ((2 ^ w) ^ p) (2 ^ w), Nat.mul_assoc (2 ^ w), ← Nat.mul_assoc, Nat.mul_comm (val (2 ^ w) qs)]
        (first | lia | omega)
      · rw [show m - (i + 1) = p from by (first | lia | omega), hv5]
        exact Nat.mod_lt _ (Nat.mul_pos hP hb1)
  · rintro ℓ₂ H₂ ⟨qs, fs', hℓ, hff, hle, hrr', hfl', hql, him, hqb, hfb', hv, hlt⟩
    have e0 : ((fs.length : Int) - ys.length - 1 - -1).toNat = m := by (first | lia | omega)
    rw [e0] at hff hql hv hlt
    rw [Nat.sub_self, Nat.pow_zero, Nat.one_mul] at hv hlt
    rw [Nat.sub_self, List.replicate_zero, List.nil_append] at hff
    refine ts_weaken ?_ hℓ
    repeat k_updF
    refine ⟨f, qs, fs', rfl, hff, hle, hrr', hfl', hql, hqb, hfb', ?_, ?_⟩
    · rw [hv, Nat.mul_comm, Nat.mul_add_div hb1, Nat.div_eq_of_lt hlt, Nat.add_zero]
    · rw [hv, Nat.mul_comm, Nat.mul_add_mod, Nat.mod_eq_of_lt hlt]

end
section
-- what differs from part to part
local macro_rules | `(tactic| k_updF) => `(tactic| first
  | ((with_reducible refine' te_itemM1 ?hi9 ?_); (case hi9 => exact rfl))
  | with_reducible refine' te_slice ?_
  | ((with_reducible refine' te_itemN ?_ ?hs); (case hs => (intros; exact rfl)))
  | ((with_reducible refine' te_lenN (by assumption) b_len ?hx ?_ ?he); (case hx => exact rfl); (case he => exact rfl)))

theorem bits_spec {x w : Nat} (h0 : 0 < x) (h : x < 2 ^ w) : ∃ k, Builtin.Int.intBits (x : Int) = k ∧ 1 ≤ k ∧ k ≤ w ∧ x < 2 ^ k := by
  refine ⟨x.log2 + 1, ?_, by (first | lia | omega), ?_, ?_⟩
  · unfold Builtin.Int.intBits
    rw [if_neg (by simp; (first | lia | omega)), Int.natAbs_natCast]
  · have := (Nat.log2_lt (by (first | lia | omega))).mpr h
    (first | lia | omega)
  · exact Nat.lt_log2_self
theorem limbs_top {B n : Nat} (hB : 2 ≤ B) (h : 0 < n) : 0 < (limbs B n).length ∧ 0 < (limbs B n).getD ((limbs B n).length - 1) 0 := by
  have h1 : 0 < (limbs B n).length := by
    rcases Nat.eq_zero_or_pos (limbs B n).length with e | e
    · have := (limbs_nil_iff hB).mp (List.eq_nil_of_length_eq_zero e); (first | lia | omega)
    · exact e
  refine ⟨h1, ?_⟩
  have h2 := limbs_len_ge hB h
  have h3 := limbs_lt hB n
  have h4 := val_limbs hB n
  generalize limbs B n = xs at *
  rw [val_split xs (xs.length - 1) (by (first | lia | omega)), val_drop (by (first | lia | omega))] at h4
  have h5 : val B (xs.take (xs.length - 1)) < B ^ (xs.length - 1) := by
    have := val_lt (show 0 < B by (first | lia | omega)) (xs := xs.take (xs.length - 1)) fun x hx' => h3 x (List.mem_of_mem_take hx')
    rwa [List.length_take, Nat.min_eq_left (by (first | lia | omega))] at this
  rcases Nat.eq_zero_or_pos (xs.getD (xs.length - 1) 0) with e | e
  · rw [e, List.drop_of_length_le (by (first | lia | omega))] at h4
    simp [val] at h4
    (first | lia | omega)
  · exact e
/-- a number below its limbs' count, its top limb shifted -/
theorem shift_fits {w b k : Nat} (hw : 3 ≤ w) (hb : 0 < b) (hk : k ≤ w) (h : (limbs (2 ^ w) b).getD ((limbs (2 ^ w) b).length - 1) 0 < 2 ^ k) : b * 2 ^ (w - k) < (2 ^ w) ^ (limbs (2 ^ w) b).length := by
  have hB : 2 ≤ 2 ^ w := by have := eight_le hw; (first | lia | omega)
  have h1 := (limbs_top hB hb).1
  have h3 := limbs_lt hB b
  have h4 := val_limbs hB b
  generalize limbs (2 ^ w) b = xs at *
  have h5 := (val_div_pow (show 0 < 2 ^ w by (first | lia | omega)) h3 (k := xs.length - 1) (by (first | lia | omega))).2
  rw [val_drop (by (first | lia | omega)), List.drop_of_length_le (show xs.length ≤ xs.length - 1 + 1 by (first | lia | omega)), h4] at h5
  simp only [val, Nat.mul_zero, Nat.add_zero] at h5
  have e1 : (2 ^ w) ^ xs.length = (2 ^ w) ^ (xs.length - 1) * 2 ^ k * 2 ^ (w - k) := by
    rw [Nat.mul_assoc, ← Nat.pow_add 2 k, show k + (w - k) = w from by (first | lia | omega), ← Nat.pow_succ]
    congr 1; (first | lia | omega)
  rw [e1]
  refine Nat.mul_lt_mul_of_pos_right (Nat.lt_of_lt_of_le h5 ?_) (Nat.pow_pos (by decide))
  exact Nat.mul_le_mul_left _ h

theorem cmpN_lt {a b : Nat} : cmpN a b < 0 ↔ a < b := by
  unfold cmpN
  split
  · simp; assumption
  · split <;> simp <;> (first | lia | omega)
theorem nats_last {ys : List Nat} (h : 0 < ys.length) : (nats ys).getLast? = some (.int (ys.getD (ys.length - 1) 0 : Nat)) := by
  rw [List.getLast?_eq_getElem?, nats_len, List.getD_eq_getElem?_getD]
  simp [nats, show ys.length - 1 < ys.length by (first | lia | omega)]
theorem c_divrem_school {d : Wd} {c : Cx} {ℓ : Loc} {H : Hp} {r : Nat} (ok : c.Ok (GW d) (r + 4)) {la lb : Addr} {w a b : Nat} (hw : 3 ≤ w) (hw' : w ≤ 8) (ha : IsL H la (nats (limbs (2 ^ w) a))) (hb : IsL H lb (nats (limbs (2 ^ w) b))) (ha' : a < 2 ^ 50) (hb' : b < 2 ^ 50) (hb0 : 0 < b) :
    FC (GW d) c ℓ H 261 [.ref la, .ref lb, .int w] (DR w a b H) := by
  refine fc_def ["a", "b", "w"] [("w", .int w), ("b", .ref lb), ("a", .ref la)] ok (by exact rfl) (by kernel_rfl) rfl rfl (fun s vs h => ?hb) (by kernel_rfl) (by decide +kernel) (fun L g ok' => ?hw)
  case hb =>
    obtain ⟨u0, u1, u2, rfl⟩ := len3 h
    exact BindsTo.of_eq rfl
  clear ok
  have hB : 2 ≤ 2 ^ w := by have := eight_le hw; (first | lia | omega)
  have h256 := le_256 hw'
  have hzb := limbs_len_small hw (show b < 2 ^ 60 by (first | lia | omega))
  have hza := limbs_len_small hw (show a < 2 ^ 60 by (first | lia | omega))
  obtain ⟨t1, t2⟩ := limbs_top hB hb0
  repeat k_updF
  refine if_eq (fun h => absurd h (by (first | lia | omega))) (fun _ => ?_)
  repeat k_updF
  refine te_call (by assumption) k_compare ?_ (by exact rfl) (by exact rfl)
  refine te_global g_compare ?_ (by assumption) (by exact rfl) (by decide)
  refine ⟨rfl, ?_⟩
  repeat k_updF
  refine (c_compare ok' hw ha hb (by (first | lia | omega)) (by (first | lia | omega))).mono ?_
  rintro _ H' ⟨rfl, e⟩; rw [e]; clear e H'
  repeat k_updF
  refine if_lt (fun hc => ?_) (fun hc => ?_)
  · have hab : a < b := cmpN_lt.mp hc
    repeat k_updF
    refine ⟨Nat.le_of_ble_eq_true rfl, fun q hq => ?_⟩
    have ha1 : IsL (upd H q (.list [])) la _ := ha.upd (ha.ne hq)
    repeat k_updF
    refine ⟨la, _, rfl, ha1, by rw [nats_len]; (first | lia | omega), fun s hs => ?_⟩
    rw [pick_all]
    repeat k_updF
    refine ⟨Nat.le_of_ble_eq_true rfl, fun t ht => ?_⟩
    have hqs : q ≠ s := fun e => by rw [← e, upd_self] at hs; cases hs
    have hqt : q ≠ t := fun e => by rw [← e, upd_ne hqs, upd_self] at ht; cases ht
    have hst : s ≠ t := fun e => by rw [← e, upd_self] at ht; cases ht
    refine ⟨t, .ref q, .ref s, rfl, ((Le.upd hq).trans (.upd hs)).trans (.upd ht), upd_self, ⟨q, rfl, .inl ?_⟩, ⟨s, rfl, .inl ?_⟩, fun _ e => by cases e; exact hq, fun _ e => by cases e; exact (Le.upd hq).none hs⟩
    · rw [upd_ne hqt, upd_ne hqs, upd_self, Nat.div_eq_of_lt hab]; rfl
    · rw [upd_ne hst, upd_self, Nat.mod_eq_of_lt hab]
  · have hab : b ≤ a := by
      rcases Nat.lt_or_ge a b with h | h
      · exact absurd (cmpN_lt.mpr h) hc
      · exact h
    clear hc
    repeat k_updF
    refine if_eq (fun h1 => ?_) (fun h1 => ?_)
    · repeat k_updF
      refine te_call (by assumption) k_divrem_small ?_ (by exact rfl) (by exact rfl)
      refine te_global g_divrem_small ?_ (by assumption) (by exact rfl) (by decide)
      refine ⟨rfl, ?_⟩
      repeat k_updF
      have : b < (2 ^ w) ^ (limbs (2 ^ w) b).length := limbs_len_lt' hB
      rw [show (limbs (2 ^ w) b).length = 1 from by (first | lia | omega), Nat.pow_one] at this
      exact c_divrem_small ok' hw hw' ha hb (by (first | lia | omega)) this hb0
    · have hxb := limbs_lt hB b
      have htb := getD_lt (show 0 < 2 ^ w by (first | lia | omega)) hxb ((limbs (2 ^ w) b).length - 1)
      obtain ⟨k, hk, k1, k2, k3⟩ := bits_spec t2 htb
      have hfit := shift_fits hw hb0 k2 k3
      obtain ⟨s, hs⟩ : ∃ s, s = w - k := ⟨_, rfl⟩
      rw [← hs] at hfit
      have hs8 : 2 ^ s ≤ 256 := le_256 (by (first | lia | omega))
      have hs0 : 0 < 2 ^ s := Nat.pow_pos (by decide)
      have hab2 : a * 2 ^ s ≤ a * 256 := Nat.mul_le_mul_left _ hs8
      have hbb2 : b * 2 ^ s ≤ b * 256 := Nat.mul_le_mul_left _ hs8
      repeat k_updF
      refine te_call (by assumption) k_bits ?_ (by exact rfl) (by exact rfl)
      refine te_global g_bits ?_ (by assumption) (by exact rfl) (by decide)
      refine ⟨rfl, ?_⟩
      repeat k_updF
      refine ⟨lb, _, _, rfl, hb, by rw [nats_len]; (first | lia | omega), nats_last t1, ?_⟩
      repeat k_updF
      refine ⟨Nat.le_of_ble_eq_true rfl, fun e he => ?_⟩
      have hle1 : Le H (upd H e (.list [.int ((limbs (2 ^ w) b).getD ((limbs (2 ^ w) b).length - 1) 0 : Nat)])) := .upd he
      have he1 : IsL (upd H e (.list [.int ((limbs (2 ^ w) b).getD ((limbs (2 ^ w) b).length - 1) 0 : Nat)])) e (nats [(limbs (2 ^ w) b).getD ((limbs (2 ^ w) b).length - 1) 0]) := .inl upd_self
      generalize upd H e (.list [.int ((limbs (2 ^ w) b).getD ((limbs (2 ^ w) b).length - 1) 0 : Nat)]) = H₁ at *
      repeat k_updF
      refine (c_bits ok' hw' he1).mono ?_
      rintro _ H' ⟨rfl, e⟩; rw [e]; clear e H'
      repeat k_updF
      rw [hk, show ((w : Int) - (k : Nat)) = (s : Nat) from by (first | lia | omega)]
      refine te_call (by assumption) k_shift_left ?_ (by exact rfl) (by exact rfl)
      refine te_global g_shift_left ?_ (by assumption) (by exact rfl) (by decide)
      refine ⟨rfl, ?_⟩
      repeat k_updF
      refine (c_shift_left ok' hw hw' (show s < w by (first | lia | omega)) (hb.le hle1) (by (first | lia | omega))).mono ?_
      rintro v H₂ ⟨hle2, dv, rfl, hdv⟩
      have hle2 := hle1.trans hle2
      repeat k_updF
      refine te_call (by assumption) k_shift_left ?_ (by exact rfl) (by exact rfl)
      refine te_global g_shift_left ?_ (by assumption) (by exact rfl) (by decide)
      refine ⟨rfl, ?_⟩
      repeat k_updF
      refine (c_shift_left ok' hw hw' (show s < w by (first | lia | omega)) (ha.le hle2) (by (first | lia | omega))).mono ?_
      rintro v H₃ ⟨hle3, ra, rfl, hra⟩
      have hdv := hdv.le hle3
      have hle3 := hle2.trans hle3
      have hzr := limbs_len_small hw (show a * 2 ^ s < 2 ^ 60 by (first | lia | omega))
      have ha3 := ha.le hle3
      have hBp : 0 < 2 ^ w := by (first | lia | omega)
      have hla := limbs_len_lt' (n := a) hB
      have hlr : (limbs (2 ^ w) (a * 2 ^ s)).length ≤ (limbs (2 ^ w) a).length + 1 := by
        refine limbs_len_lt hB ?_
        rw [Nat.pow_succ]
        have : a * 2 ^ s < (2 ^ w) ^ (limbs (2 ^ w) a).length * 2 ^ s := Nat.mul_lt_mul_of_pos_right hla hs0
        exact Nat.lt_of_lt_of_le this (Nat.mul_le_mul_left _ (Nat.pow_le_pow_right (by decide) (by (first | lia | omega))))
      refine ts_assign (by assumption) ?_ (by exact rfl) (by exact rfl)
      refine te_addL ?_
      repeat k_updF
      refine fun t ht => ?_
      have hle4 : Le H₃ (upd H₃ t (.list [.int 0])) := .upd ht
      have ht4 : upd H₃ t (.list [.int 0]) t = some (.list [.int 0]) := upd_self
      have hra4 := hra.le hle4
      have ha4 := ha3.le hle4
      have hdv4 := hdv.le hle4
      have hle4 := hle3.trans hle4
      generalize upd H₃ t (.list [.int 0]) = H₄ at *
      repeat k_updF
      refine ⟨.inl ht4, by (first | lia | omega), by (first | lia | omega), fun z hz => ?_⟩
      rw [show (((limbs (2 ^ w) a).length : Int) + 1 - (limbs (2 ^ w) (a * 2 ^ s)).length).toNat = (limbs (2 ^ w) a).length + 1 - (limbs (2 ^ w) (a * 2 ^ s)).length from by (first | lia | omega), show PV.int 0 = .int (0 : Nat) from rfl, nats_replicate]
      obtain ⟨zz, hzz⟩ : ∃ zz, zz = (limbs (2 ^ w) a).length + 1 - (limbs (2 ^ w) (a * 2 ^ s)).length := ⟨_, rfl⟩
      rw [← hzz]
      refine ⟨ra, z, _, _, rfl, rfl, hra4.upd (hra4.ne hz), isL_upd, by rw [nats_len, nats_len]; simp; (first | lia | omega), fun lr hlr' => ?_⟩
      rw [← nats_append]
      have hle5 : Le H (upd H₄ z (.list (nats (List.replicate zz 0)))) := hle4.trans (.upd hz)
      have hdv5 : IsL (upd H₄ z (.list (nats (List.replicate zz 0)))) dv _ := hdv4.upd (hdv4.ne hz)
      generalize upd H₄ z (.list (nats (List.replicate zz 0))) = H₅ at *
      have hnlr := hle5.none hlr'
      have hndv := hdv5.ne hlr'
      have hdv6 : IsL (upd H₅ lr (.list (nats (limbs (2 ^ w) (a * 2 ^ s) ++ List.replicate zz 0)))) dv _ := hdv5.upd hndv
      repeat k_updF
      refine te_call (by assumption) k_divide_rows ?_ (by exact rfl) (by exact rfl)
      refine te_global g_divide_rows ?_ (by assumption) (by exact rfl) (by decide)
      refine ⟨rfl, ?_⟩
      repeat k_updF
      have hnb : (limbs (2 ^ w) (b * 2 ^ s)).length = (limbs (2 ^ w) b).length := by
        have x1 := limbs_len_lt hB hfit
        have x2 := limbs_len_mono (B := 2 ^ w) hB (show b ≤ b * 2 ^ s from Nat.le_mul_of_pos_right _ hs0)
        (first | lia | omega)
      have hbs0 : 0 < b * 2 ^ s := Nat.mul_pos hb0 hs0
      have hlab := limbs_len_mono (B := 2 ^ w) hB hab
      refine (c_divide_rows (m := (limbs (2 ^ w) a).length + 1 - (limbs (2 ^ w) b).length) ok' hw hw' upd_self hdv6 hndv ?_ (limbs_lt hB _) (val_limbs hB _) ?_ (by (first | lia | omega)) (limbs_top hB hbs0).2 ?_ ?_).mono ?_
      · intro x hx
        rcases List.mem_append.mp hx with h | h
        · exact limbs_lt hB _ x h
        · rw [List.eq_of_mem_replicate h]; (first | lia | omega)
      · simp; (first | lia | omega)
      · simp; (first | lia | omega)
      · rw [val_append, val_replicate, Nat.mul_zero, Nat.add_zero, val_limbs hB, ← Nat.mul_assoc]
        refine Nat.mul_lt_mul_of_pos_right (Nat.lt_of_lt_of_le hla ?_) hs0
        have x1 := limbs_len_ge hB hb0
        have x2 : (2 ^ w) ^ (limbs (2 ^ w) a).length = (2 ^ w) ^ ((limbs (2 ^ w) a).length + 1 - (limbs (2 ^ w) b).length) * (2 ^ w) ^ ((limbs (2 ^ w) b).length - 1) := by
          rw [← Nat.pow_add]; congr 1; (first | lia | omega)
        rw [x2]
        exact Nat.mul_le_mul_left _ x1
      · rintro v H₆ ⟨f, qs, fs', rfl, hqf, hle6, hrf, hfl6, hql6, hqb6, hfb6, hv1, hv2⟩
        rw [val_append, val_replicate, Nat.mul_zero, Nat.add_zero, val_limbs hB] at hv1 hv2
        rw [Nat.mul_div_mul_right _ _ hs0] at hv1
        rw [Nat.mul_mod_mul_right] at hv2
        have hle7 : Le H H₆ := hle5.trans (leX_fin hle6 hlr')
        have hab3 := Nat.mod_lt a hb0
        have hfl7 : fs'.length ≤ 100 := by rw [hfl6]; simp; (first | lia | omega)
        repeat k_updF
        refine te_call (by assumption) k_normal ?_ (by exact rfl) (by exact rfl)
        refine te_global g_normal ?_ (by assumption) (by exact rfl) (by decide)
        refine ⟨rfl, ?_⟩
        repeat k_updF
        refine (c_normF ok' hB (.inl hqf) (by (first | lia | omega)) hqb6 hv1).mono ?_
        rintro v H₇ ⟨⟨hle8, hq⟩, hfr⟩
        have hr7 := hle8 _ _ hrf
        repeat k_updF
        refine te_call (by assumption) k_shift_right ?_ (by exact rfl) (by exact rfl)
        refine te_global g_shift_right ?_ (by assumption) (by exact rfl) (by decide)
        refine ⟨rfl, ?_⟩
        repeat k_updF
        refine te_call (by assumption) k_normal ?_ (by exact rfl) (by exact rfl)
        refine te_global g_normal ?_ (by assumption) (by exact rfl) (by decide)
        refine ⟨rfl, ?_⟩
        repeat k_updF
        refine (c_norm ok' hB (.refl H₇) (.inl hr7) (by (first | lia | omega)) hfb6 hv2).mono ?_
        rintro v' H₈ ⟨hle9, x, rfl, hx⟩
        repeat k_updF
        have hsz : a % b * 2 ^ s ≤ a % b * 256 := Nat.mul_le_mul_left _ hs8
        refine (c_shift_right ok' hw hw' (show s < w by (first | lia | omega)) hx (by (first | lia | omega))).mono ?_
        rintro v' H₉ ⟨⟨hle10, hv'⟩, hfs⟩
        rw [Nat.mul_div_cancel _ hs0] at hv'
        repeat k_updF
        refine ⟨Nat.le_of_ble_eq_true rfl, fun t ht => ?_⟩
        exact ⟨t, v, v', rfl, (((hle7.trans hle8).trans hle9).trans hle10).trans (.upd ht), upd_self, ((hq.le hle9).le hle10).le (.upd ht), hv'.le (.upd ht), fun a e => hle7.none (hfr a e), fun a e => ((hle7.trans hle8).trans hle9).none (hfs a e)⟩

end
section
-- what differs from part to part
local macro_rules | `(tactic| k_updF) => `(tactic| first
  | with_reducible refine' te_slice ?_
  | ((with_reducible refine' te_itemM1 ?hi9 ?_); (case hi9 => exact rfl))
  | ((with_reducible refine' te_itemT ?_ ?hs); (case hs => (intros; exact rfl)))
  | refine ⟨_, _, _, _, rfl, rfl, by assumption, by (first | ((fail_if_success (exact rfl)); (first | lia | omega)) | omega), by (first | ((fail_if_success (exact rfl)); (first | lia | omega)) | omega), rfl, ?_⟩
  | ((with_reducible refine' te_neB ?_ ?hm9); (case hm9 => exact rfl))
  | ((with_reducible refine' te_lenN (by assumption) b_len ?hx ?_ ?he); (case hx => exact rfl); (case he => exact rfl)))

noncomputable def mkz (b : Bool) (n : Nat) : Int := if b then -n else n
theorem mkz_abs (b : Bool) (n : Nat) : (mkz b n).natAbs = n := by cases b <;> simp [mkz]
theorem mkz_neg (b : Bool) (n : Nat) : decide (mkz b n < 0) = (b && decide (0 < n)) := by
  cases b <;> simp [mkz] <;> (first | lia | omega)
theorem mkz_self (x : Int) : mkz (decide (x < 0)) x.natAbs = x := by
  by_cases h : x < 0 <;> simp [mkz, h] <;> (first | lia | omega)
/-- a number with a sign -/
inductive SV (H : Hp) (v : PV) (z : Int) (w : Nat) : Prop
  | mk (t) (l) (h1_ : v = .ref t) (h2_ : H t = some (.tup [.bool (decide (z < 0)), .ref l])) (h3_ : IsL H l (nats (limbs (2 ^ w) z.natAbs))) : SV H v z w
theorem SV.le {H H' : Hp} {v : PV} {z : Int} {w : Nat} (x : SV H v z w) (l : Le H H') : SV H' v z w := by
  obtain ⟨t, a, e, h, i⟩ := x
  exact ⟨t, a, e, l _ _ h, i.le l⟩
/-- a number with a sign, its list new -/
inductive SVF (H₀ H : Hp) (v : PV) (z : Int) (w : Nat) : Prop
  | mk (t) (l) (h1_ : v = .ref t) (h2_ : H t = some (.tup [.bool (decide (z < 0)), .ref l])) (h3_ : IsL H l (nats (limbs (2 ^ w) z.natAbs))) (h4_ : H₀ l = none) : SVF H₀ H v z w
theorem SVF.sv {H₀ H : Hp} {v : PV} {z : Int} {w : Nat} (x : SVF H₀ H v z w) : SV H v z w := by
  obtain ⟨t, a, e, h, i, _⟩ := x
  exact ⟨t, a, e, h, i⟩
theorem SVF.le {H₀ H H' : Hp} {v : PV} {z : Int} {w : Nat} (x : SVF H₀ H v z w) (l : Le H H') : SVF H₀ H' v z w := by
  obtain ⟨t, a, e, h, i, j⟩ := x
  exact ⟨t, a, e, l _ _ h, i.le l, j⟩
noncomputable def SR (w : Nat) (z : Int) (H : Hp) (v : PV) (H' : Hp) : Prop := Le H H' ∧ SV H' v z w

@[reducible] noncomputable def P_c_signedF (H : Hp) (b : Bool) (n : Nat) (l : Addr) (v : PV) (H' : Hp) : Prop := ∃ t, v = .ref t ∧ Le H H' ∧ H' t = some (.tup [.bool (decide (mkz b n < 0)), .ref l])
theorem c_signedF {d : Wd} {c : Cx} {ℓ : Loc} {H : Hp} {r : Nat} (ok : c.Ok (GW d) (r + 1)) {l : Addr} {w n : Nat} {b : Bool} (hw : 3 ≤ w) (hl : IsL H l (nats (limbs (2 ^ w) n))) (hn : n < 2 ^ 60) :
    FC (GW d) c ℓ H 121 [.bool b, .ref l] (P_c_signedF H b n l) := by
  refine fc_def ["is_below", "nat"] [("nat", .ref l), ("is_below", .bool b)] ok (by exact rfl) (by kernel_rfl) rfl rfl (fun s vs h => ?hb) (by kernel_rfl) (by decide +kernel) (fun L g ok' => ?hw)
  case hb =>
    obtain ⟨u0, u1, rfl⟩ := len2 h
    exact BindsTo.of_eq rfl
  clear ok
  have hz := limbs_len_small hw hn
  have hB : 2 ≤ 2 ^ w := by have := eight_le hw; (first | lia | omega)
  have hpos : decide ((0 : Int) < ((limbs (2 ^ w) n).length : Nat)) = decide (0 < n) := by
    have := limbs_nil_iff (B := 2 ^ w) (n := n) hB
    rcases Nat.eq_zero_or_pos n with h | h
    · rw [this.mpr h]; simp [h]
    · have h2 : (limbs (2 ^ w) n).length ≠ 0 := fun e => by
        have := this.mp (List.eq_nil_of_length_eq_zero e); (first | lia | omega)
      simp [h]; (first | lia | omega)
  repeat k_updF
  refine TE.mono (Q := fun v H' => v = .bool (b && decide (0 < n)) ∧ H' = H) ?_ ?_
  · refine te_andB ?_
    repeat k_updF
    refine if_bool (fun h => ?_) (fun h => ?_)
    · refine te_cmp (by exact rfl) ?_ (by exact rfl)
      repeat k_updF
      refine ⟨?_, rfl⟩
      rw [h, Bool.true_and, ← hpos]; rfl
    · rw [h]; exact ⟨rfl, rfl⟩
  · rintro _ H' ⟨rfl, e⟩; rw [e]; clear e H'
    repeat k_updF
    refine ⟨Nat.le_of_ble_eq_true rfl, fun t ht => ⟨t, rfl, .upd ht, ?_⟩⟩
    rw [upd_self, mkz_neg]
theorem c_signed {d : Wd} {c : Cx} {ℓ : Loc} {H : Hp} {r : Nat} (ok : c.Ok (GW d) (r + 1)) {l : Addr} {w n : Nat} {b : Bool} (hw : 3 ≤ w) (hl : IsL H l (nats (limbs (2 ^ w) n))) (hn : n < 2 ^ 60) :
    FC (GW d) c ℓ H 121 [.bool b, .ref l] (SR w (mkz b n) H) := (c_signedF ok hw hl hn).mono fun v H' ⟨t, e, hle, ht⟩ => ⟨hle, t, l, e, ht, by rw [mkz_abs]; exact hl.le hle⟩

@[reducible] noncomputable def P_c_s_add (H : Hp) (x : Int) (y : Int) (w : Nat) (v : PV) (H' : Hp) : Prop := Le H H' ∧ SVF H H' v (x + y) w
theorem c_s_add {d : Wd} {c : Cx} {ℓ : Loc} {H : Hp} {r : Nat} (ok : c.Ok (GW d) (r + 3)) {vx vy : PV} {w : Nat} {x y : Int} (hw : 3 ≤ w) (hw' : w ≤ 8) (hx : SV H vx x w) (hy : SV H vy y w) (hx' : x.natAbs < 2 ^ 50) (hy' : y.natAbs < 2 ^ 50) :
    FC (GW d) c ℓ H 128 [vx, vy, .int w] (P_c_s_add H x y w) := by
  obtain ⟨tx, ax, rfl, hxt, hxl⟩ := hx
  obtain ⟨ty, ay, rfl, hyt, hyl⟩ := hy
  refine fc_def ["x", "y", "w"] [("w", .int w), ("y", .ref ty), ("x", .ref tx)] ok (by exact rfl) (by kernel_rfl) rfl rfl (fun s vs h => ?hb) (by kernel_rfl) (by decide +kernel) (fun L g ok' => ?hw)
  case hb =>
    obtain ⟨u0, u1, u2, rfl⟩ := len3 h
    exact BindsTo.of_eq rfl
  clear ok
  refine ts_if ?_
  refine tt_eqB ?_ (by exact rfl)
  repeat k_updF
  refine if_bool (fun h => ?_) (fun h => ?_)
  · repeat k_updF
    refine te_call (by assumption) k_signed ?_ (by exact rfl) (by exact rfl)
    refine te_global g_signed ?_ (by assumption) (by exact rfl) (by decide)
    refine ⟨rfl, ?_⟩
    repeat k_updF
    refine te_call (by assumption) k_add ?_ (by exact rfl) (by exact rfl)
    refine te_global g_add ?_ (by assumption) (by exact rfl) (by decide)
    refine ⟨rfl, ?_⟩
    repeat k_updF
    refine (c_add ok' hw hw' hxl hyl (by (first | lia | omega)) (by (first | lia | omega))).mono ?_
    rintro v H₁ ⟨⟨hle, l, rfl, hl⟩, hfr⟩
    repeat k_updF
    refine (c_signedF ok' hw hl (by (first | lia | omega))).mono ?_
    rintro _ H₂ ⟨tv, rfl, hle2, hs⟩
    refine ⟨hle.trans hle2, ?_⟩
    have hs : SVF H H₂ (.ref tv) (mkz (decide (x < 0)) (x.natAbs + y.natAbs)) w := ⟨tv, l, rfl, hs, by rw [mkz_abs]; exact hl.le hle2, hfr _ rfl⟩
    have : mkz (decide (x < 0)) (x.natAbs + y.natAbs) = x + y := by
      have h : decide (x < 0) = decide (y < 0) := by simpa using h
      have h := decide_eq_decide.mp h
      by_cases h0 : x < 0 <;> simp [mkz, h0] <;> (first | lia | omega)
    rw [this] at hs; exact hs
  · have h : decide (x < 0) ≠ decide (y < 0) := by simpa using h
    have h : ¬ (x < 0 ↔ y < 0) := fun z => h (decide_eq_decide.mpr z)
    repeat k_updF
    refine te_call (by assumption) k_compare ?_ (by exact rfl) (by exact rfl)
    refine te_global g_compare ?_ (by assumption) (by exact rfl) (by decide)
    refine ⟨rfl, ?_⟩
    repeat k_updF
    refine (c_compare ok' hw hxl hyl (by (first | lia | omega)) (by (first | lia | omega))).mono ?_
    rintro _ H' ⟨rfl, e⟩; rw [e]; clear e H'
    repeat k_updF
    refine if_lt (fun hc => ?_) (fun hc => ?_)
    · have hc := cmpN_lt.mp hc
      repeat k_updF
      refine te_call (by assumption) k_signed ?_ (by exact rfl) (by exact rfl)
      refine te_global g_signed ?_ (by assumption) (by exact rfl) (by decide)
      refine ⟨rfl, ?_⟩
      repeat k_updF
      refine te_call (by assumption) k_sub ?_ (by exact rfl) (by exact rfl)
      refine te_global g_sub ?_ (by assumption) (by exact rfl) (by decide)
      refine ⟨rfl, ?_⟩
      repeat k_updF
      refine (c_sub ok' hw hw' hyl hxl (by (first | lia | omega)) (by (first | lia | omega))).mono ?_
      rintro v H₁ ⟨⟨hle, l, rfl, hl⟩, hfr⟩
      repeat k_updF
      refine (c_signedF ok' hw hl (by (first | lia | omega))).mono ?_
      rintro _ H₂ ⟨tv, rfl, hle2, hs⟩
      refine ⟨hle.trans hle2, ?_⟩
      have hs : SVF H H₂ (.ref tv) (mkz (decide (y < 0)) (y.natAbs - x.natAbs)) w := ⟨tv, l, rfl, hs, by rw [mkz_abs]; exact hl.le hle2, hfr _ rfl⟩
      have : mkz (decide (y < 0)) (y.natAbs - x.natAbs) = x + y := by
        by_cases h0 : y < 0 <;> simp [mkz, h0] <;> (first | lia | omega)
      rw [this] at hs; exact hs
    · have hc : y.natAbs ≤ x.natAbs := by
        rcases Nat.lt_or_ge x.natAbs y.natAbs with h | h
        · exact absurd (cmpN_lt.mpr h) hc
        · exact h
      repeat k_updF
      refine te_call (by assumption) k_signed ?_ (by exact rfl) (by exact rfl)
      refine te_global g_signed ?_ (by assumption) (by exact rfl) (by decide)
      refine ⟨rfl, ?_⟩
      repeat k_updF
      refine te_call (by assumption) k_sub ?_ (by exact rfl) (by exact rfl)
      refine te_global g_sub ?_ (by assumption) (by exact rfl) (by decide)
      refine ⟨rfl, ?_⟩
      repeat k_updF
      refine (c_sub ok' hw hw' hxl hyl (by (first | lia | omega)) (by (first | lia | omega))).mono ?_
      rintro v H₁ ⟨⟨hle, l, rfl, hl⟩, hfr⟩
      repeat k_updF
      refine (c_signedF ok' hw hl (by (first | lia | omega))).mono ?_
      rintro _ H₂ ⟨tv, rfl, hle2, hs⟩
      refine ⟨hle.trans hle2, ?_⟩
      have hs : SVF H H₂ (.ref tv) (mkz (decide (x < 0)) (x.natAbs - y.natAbs)) w := ⟨tv, l, rfl, hs, by rw [mkz_abs]; exact hl.le hle2, hfr _ rfl⟩
      have : mkz (decide (x < 0)) (x.natAbs - y.natAbs) = x + y := by
        by_cases h0 : x < 0 <;> simp [mkz, h0] <;> (first | lia | omega)
      rw [this] at hs; exact hs

theorem mkz_mul (x y : Int) : mkz (decide (x < 0) != decide (y < 0)) (x.natAbs * y.natAbs) = x * y := by
  have hx := mkz_self x
  have hy := mkz_self y
  generalize x.natAbs = m at *
  generalize y.natAbs = n at *
  generalize decide (x < 0) = bx at *
  generalize decide (y < 0) = by' at *
  subst hx hy
  cases bx <;> cases by' <;> simp [mkz, Int.mul_neg, Int.neg_mul]
theorem mkz_tdiv (x y : Int) : mkz (decide (x < 0) != decide (y < 0)) (x.natAbs / y.natAbs) = x.tdiv y := by
  have hx := mkz_self x
  have hy := mkz_self y
  generalize x.natAbs = m at *
  generalize y.natAbs = n at *
  generalize decide (x < 0) = bx at *
  generalize decide (y < 0) = by' at *
  subst hx hy
  cases bx <;> cases by' <;> simp [mkz]
theorem mkz_tmod (x y : Int) : mkz (decide (x < 0)) (x.natAbs % y.natAbs) = x.tmod y := by
  have hx := mkz_self x
  have hy := mkz_self y
  generalize x.natAbs = m at *
  generalize y.natAbs = n at *
  generalize decide (x < 0) = bx at *
  generalize decide (y < 0) = by' at *
  subst hx hy
  cases bx <;> cases by' <;> simp [mkz] <;> exact (Int.tmod_eq_emod_of_nonneg (by (first | lia | omega))).symm
theorem c_s_mul {d : Wd} {c : Cx} {ℓ : Loc} {H : Hp} {r : Nat} (ok : c.Ok (GW d) (r + 3)) {vx vy : PV} {w : Nat} {x y : Int} (hw : 3 ≤ w) (hw' : w ≤ 8) (hx : SV H vx x w) (hy : SV H vy y w) (hx' : x.natAbs < 2 ^ 25) (hy' : y.natAbs < 2 ^ 25) :
    FC (GW d) c ℓ H 135 [vx, vy, .int w, .ref 219] (SR w (x * y) H) := by
  obtain ⟨tx, ax, rfl, hxt, hxl⟩ := hx
  obtain ⟨ty, ay, rfl, hyt, hyl⟩ := hy
  refine fc_def ["x", "y", "w", "mul"] [("mul", .ref 219), ("w", .int w), ("y", .ref ty), ("x", .ref tx)] ok (by exact rfl) (by kernel_rfl) rfl rfl (fun s vs h => ?hb) (by kernel_rfl) (by decide +kernel) (fun L g ok' => ?hw)
  case hb =>
    obtain ⟨u0, u1, u2, u3, rfl⟩ := len4 h
    exact BindsTo.of_eq rfl
  clear ok
  have hm : x.natAbs * y.natAbs < 2 ^ 50 := by
    have : x.natAbs * y.natAbs ≤ (2 ^ 25 - 1) * (2 ^ 25 - 1) := Nat.mul_le_mul (by (first | lia | omega)) (by (first | lia | omega))
    (first | lia | omega)
  repeat k_updF
  refine te_call (by assumption) k_signed ?_ (by exact rfl) (by exact rfl)
  refine te_global g_signed ?_ (by assumption) (by exact rfl) (by decide)
  refine ⟨rfl, ?_⟩
  repeat k_updF
  refine te_call (by assumption) k_mul_school ?_ (by exact rfl) (by exact rfl)
  k_updF
  refine ⟨rfl, ?_⟩
  repeat k_updF
  refine (c_mul_school ok' hw hw' hxl hyl (by (first | lia | omega)) (by (first | lia | omega))).mono ?_
  rintro v H₁ ⟨hle, l, rfl, hl⟩
  repeat k_updF
  refine (c_signed ok' hw hl (by (first | lia | omega))).mono ?_
  rintro v H₂ ⟨hle2, hs⟩
  refine ⟨hle.trans hle2, ?_⟩
  rw [mkz_mul] at hs; exact hs

inductive P_c_tdiv (H : Hp) (x : Int) (y : Int) (w : Nat) (v : PV) (H' : Hp) : Prop
  | mk (t) (q) (s) (h1_ : v = .ref t) (h2_ : Le H H') (h3_ : H' t = some (.tup [q, s])) (h4_ : SVF H H' q (x.tdiv y) w) (h5_ : SVF H H' s (x.tmod y) w) : P_c_tdiv H x y w v H'
theorem c_tdiv {d : Wd} {c : Cx} {ℓ : Loc} {H : Hp} {r : Nat} (ok : c.Ok (GW d) (r + 5)) {vx vy : PV} {w : Nat} {x y : Int} (hw : 3 ≤ w) (hw' : w ≤ 8) (hx : SV H vx x w) (hy : SV H vy y w) (hx' : x.natAbs < 2 ^ 50) (hy' : y.natAbs < 2 ^ 50) (hy0 : y ≠ 0) :
    FC (GW d) c ℓ H 142 [vx, vy, .int w, .ref 261] (P_c_tdiv H x y w) := by
  obtain ⟨tx, ax, rfl, hxt, hxl⟩ := hx
  obtain ⟨ty, ay, rfl, hyt, hyl⟩ := hy
  refine fc_def ["x", "y", "w", "divrem"] [("divrem", .ref 261), ("w", .int w), ("y", .ref ty), ("x", .ref tx)] ok (by exact rfl) (by kernel_rfl) rfl rfl (fun s vs h => ?hb) (by kernel_rfl) (by decide +kernel) (fun L g ok' => ?hw)
  case hb =>
    obtain ⟨u0, u1, u2, u3, rfl⟩ := len4 h
    exact BindsTo.of_eq rfl
  clear ok
  have hB : 2 ≤ 2 ^ w := by have := eight_le hw; (first | lia | omega)
  have hy1 := (limbs_top hB (show 0 < y.natAbs by (first | lia | omega))).1
  have hz := limbs_len_small hw (show y.natAbs < 2 ^ 60 by (first | lia | omega))
  repeat k_updF
  refine if_eq (fun h => absurd h (by (first | lia | omega))) (fun _ => ?_)
  repeat k_updF
  refine te_call (by assumption) k_divrem_school ?_ (by exact rfl) (by exact rfl)
  k_updF
  refine ⟨rfl, ?_⟩
  repeat k_updF
  refine (c_divrem_school ok' hw hw' hxl hyl hx' hy' (by (first | lia | omega))).mono ?_
  rintro v H₁ ⟨t, q, s, rfl, hle, ht, ⟨lq, rfl, hq⟩, ⟨ls, rfl, hs⟩, hqf, hsf⟩
  repeat k_updF
  refine ⟨t, _, _, rfl, .inl ht, ?_⟩
  have hxt := hle _ _ hxt
  have hyt := hle _ _ hyt
  have hd : x.natAbs / y.natAbs ≤ x.natAbs := Nat.div_le_self _ _
  have hm : x.natAbs % y.natAbs < y.natAbs := Nat.mod_lt _ (by (first | lia | omega))
  repeat k_updF
  refine te_call (by assumption) k_signed ?_ (by exact rfl) (by exact rfl)
  refine te_global g_signed ?_ (by assumption) (by exact rfl) (by decide)
  refine ⟨rfl, ?_⟩
  repeat k_updF
  refine (c_signedF ok' hw hq (by (first | lia | omega))).mono ?_
  rintro _ H₂ ⟨tv, rfl, hle2, hv⟩
  have hv : SVF H H₂ (.ref tv) (mkz (decide (x < 0) != decide (y < 0)) (x.natAbs / y.natAbs)) w := ⟨tv, lq, rfl, hv, by rw [mkz_abs]; exact hq.le hle2, hqf _ rfl⟩
  rw [mkz_tdiv] at hv
  have hxt := hle2 _ _ hxt
  repeat k_updF
  refine te_call (by assumption) k_signed ?_ (by exact rfl) (by exact rfl)
  refine te_global g_signed ?_ (by assumption) (by exact rfl) (by decide)
  refine ⟨rfl, ?_⟩
  repeat k_updF
  refine (c_signedF ok' hw (hs.le hle2) (by (first | lia | omega))).mono ?_
  rintro _ H₃ ⟨tv', rfl, hle3, hv'⟩
  have hv' : SVF H H₃ (.ref tv') (mkz (decide (x < 0)) (x.natAbs % y.natAbs)) w := ⟨tv', ls, rfl, hv', by rw [mkz_abs]; exact (hs.le hle2).le hle3, hsf _ rfl⟩
  rw [mkz_tmod] at hv'
  repeat k_updF
  refine ⟨Nat.le_of_ble_eq_true rfl, fun t ht => ?_⟩
  exact ⟨t, _, _, rfl, ((hle.trans hle2).trans hle3).trans (.upd ht), upd_self, (hv.le hle3).le (.upd ht), hv'.le (.upd ht)⟩

theorem SVF.none_le {H₀ H₁ H : Hp} {v : PV} {z : Int} {w : Nat} (x : SVF H₁ H v z w) (l : Le H₀ H₁) : SVF H₀ H v z w := by
  obtain ⟨t, a, e, h, i, j⟩ := x
  exact ⟨t, a, e, h, i, l.none j⟩
theorem ediv_of {x y q s : Int} (hy : 0 < y) (h : y * q + s = x) (h0 : 0 ≤ s) (h1 : s < y) : x / y = q ∧ x % y = s := by
  refine (Int.ediv_emod_unique hy).mpr ⟨?_, h0, h1⟩
  (first | lia | omega)

inductive P_c_fdiv (H : Hp) (x : Int) (y : Int) (w : Nat) (v : PV) (H' : Hp) : Prop
  | mk (t) (q) (s) (h1_ : v = .ref t) (h2_ : Le H H') (h3_ : H' t = some (.tup [q, s])) (h4_ : SVF H H' q (x / y) w) (h5_ : SVF H H' s (x % y) w) : P_c_fdiv H x y w v H'
theorem c_fdiv {d : Wd} {c : Cx} {ℓ : Loc} {H : Hp} {r : Nat} (ok : c.Ok (GW d) (r + 6)) {vx vy : PV} {w : Nat} {x y : Int} (hw : 3 ≤ w) (hw' : w ≤ 8) (hx : SV H vx x w) (hy : SV H vy y w) (hx' : x.natAbs < 2 ^ 49) (hy' : y.natAbs < 2 ^ 49) (hy0 : 0 < y) :
    FC (GW d) c ℓ H 149 [vx, vy, .int w, .ref 261] (P_c_fdiv H x y w) := by
  obtain ⟨tx, ax, rfl, hxt, hxl⟩ := id hx
  obtain ⟨ty, ay, rfl, hyt, hyl⟩ := id hy
  refine fc_def ["x", "y", "w", "divrem"] [("divrem", .ref 261), ("w", .int w), ("y", .ref ty), ("x", .ref tx)] ok (by exact rfl) (by kernel_rfl) rfl rfl (fun s vs h => ?hb) (by kernel_rfl) (by decide +kernel) (fun L g ok' => ?hw)
  case hb =>
    obtain ⟨u0, u1, u2, u3, rfl⟩ := len4 h
    exact BindsTo.of_eq rfl
  clear ok
  have hB : 2 ≤ 2 ^ w := by have := eight_le hw; (first | lia | omega)
  repeat k_updF
  refine te_call (by assumption) k_tdiv ?_ (by exact rfl) (by exact rfl)
  refine te_global g_tdiv ?_ (by assumption) (by exact rfl) (by decide)
  refine ⟨rfl, ?_⟩
  repeat k_updF
  refine (c_tdiv ok' hw hw' hx hy (by (first | lia | omega)) (by (first | lia | omega)) (by (first | lia | omega))).mono ?_
  rintro v H₁ ⟨t, q, s, rfl, hle, ht, hq, hs⟩
  repeat k_updF
  refine ⟨t, _, _, rfl, .inl ht, ?_⟩
  have e1 : y * x.tdiv y + x.tmod y = x := Int.mul_tdiv_add_tmod x y
  have e2 := mkz_tdiv x y
  have e3 := mkz_tmod x y
  have hm : x.natAbs % y.natAbs < y.natAbs := Nat.mod_lt _ (by (first | lia | omega))
  have hd : x.natAbs / y.natAbs ≤ x.natAbs := Nat.div_le_self _ _
  generalize x.natAbs / y.natAbs = qn at *
  generalize x.natAbs % y.natAbs = rn at *
  obtain ⟨tq, lq, rfl, hqt, hql, hqf⟩ := id hq
  obtain ⟨ts, ls, rfl, hst, hsl, hsf⟩ := id hs
  have hxt := hle _ _ hxt
  have hyt := hle _ _ hyt
  have sz : x.tmod y = -(rn : Int) ∨ x.tmod y = (rn : Int) := by
    rw [← e3]; unfold mkz; split <;> simp
  have hz := limbs_len_small hw (show (x.tmod y).natAbs < 2 ^ 60 by (first | lia | omega))
  refine ts_if ?_
  refine TT.mono (Q := fun b H₂ => H₂ = H₁ ∧ if b = true then x.tmod y ≠ 0 ∧ x < 0 else 0 ≤ x.tmod y) ?_ ?_
  · repeat k_updF
    refine if_gt (fun h => ?_) (fun h => ?_)
    · refine tt_neB ?_ (by exact rfl)
      repeat k_updF
      refine ⟨rfl, if_bool (fun h' => ?_) (fun h' => ?_)⟩
      · have n0 : x.tmod y ≠ 0 := fun e => by
          rw [e] at h; exact absurd h (by simp [limbs_zero])
        refine ⟨n0, ?_⟩
        have : decide (y < 0) = false := by simp; (first | lia | omega)
        rw [this] at h'
        simpa using h'
      · have : decide (y < 0) = false := by simp; (first | lia | omega)
        rw [this] at h'
        have h' : decide (x < 0) = false := by simpa using h'
        rw [h'] at e3
        rw [← e3]
        simp only [mkz]
        exact Int.natCast_nonneg _
    · refine ⟨rfl, if_ff ?_⟩
      have : (limbs (2 ^ w) (x.tmod y).natAbs).length = 0 := by (first | lia | omega)
      have := (limbs_nil_iff hB).mp (List.eq_nil_of_length_eq_zero this)
      (first | lia | omega)
  · rintro b H₂ ⟨rfl, hb⟩
    cases b with
    | true =>
      rw [if_pos rfl] at hb ⊢
      obtain ⟨n0, hx0⟩ := hb
      rw [show decide (x < 0) = true from by simpa using hx0] at e2 e3
      rw [show decide (y < 0) = false from by simp; (first | lia | omega)] at e2
      have e2 : x.tdiv y = -(qn : Int) := by rw [← e2]; rfl
      have e3 : x.tmod y = -(rn : Int) := by rw [← e3]; rfl
      obtain ⟨f1, f2⟩ := ediv_of (x := x) (q := x.tdiv y - 1) (s := x.tmod y + y) hy0 (by rw [Int.mul_sub]; (first | lia | omega)) (by (first | lia | omega)) (by (first | lia | omega))
      repeat k_updF
      refine te_call (by assumption) k_add_limb ?_ (by exact rfl) (by exact rfl)
      refine te_global g_add_limb ?_ (by assumption) (by exact rfl) (by decide)
      refine ⟨rfl, ?_⟩
      repeat k_updF
      refine (c_add_limb (b := 1) ok' hw hw' hql (by (first | lia | omega)) (by (first | lia | omega))).mono ?_
      rintro v H₃ ⟨⟨hle3, l3, rfl, hl3⟩, hfr⟩
      repeat k_updF
      refine ⟨Nat.le_of_ble_eq_true rfl, fun t3 ht3 => ?_⟩
      have hle4 : Le H₂ (upd H₃ t3 (.tup [.bool true, .ref l3])) := hle3.trans (.upd ht3)
      have hsv : SVF H (upd H₃ t3 (.tup [.bool true, .ref l3])) (.ref t3) (x / y) w := by
        refine ⟨t3, l3, rfl, ?_, ?_, hle.none (hfr _ rfl)⟩
        · rw [upd_self, show decide (x / y < 0) = true from by simp only [decide_eq_true_eq]; (first | lia | omega)]
        · rw [show (x / y).natAbs = (x.tdiv y).natAbs + 1 from by (first | lia | omega)]; exact hl3.le (.upd ht3)
      generalize upd H₃ t3 (.tup [.bool true, .ref l3]) = H₄ at *
      repeat k_updF
      refine te_call (by assumption) k_s_add ?_ (by exact rfl) (by exact rfl)
      refine te_global g_s_add ?_ (by assumption) (by exact rfl) (by decide)
      refine ⟨rfl, ?_⟩
      repeat k_updF
      refine (c_s_add ok' hw hw' (hs.sv.le hle4) (hy.le (hle.trans hle4)) (by (first | lia | omega)) (by (first | lia | omega))).mono ?_
      rintro v H₅ ⟨hle5, hv⟩
      repeat k_updF
      refine ⟨Nat.le_of_ble_eq_true rfl, fun t ht => ?_⟩
      rw [← f2] at hv
      have hv := hv.none_le (hle.trans hle4)
      exact ⟨t, _, v, rfl, ((hle.trans hle4).trans hle5).trans (.upd ht), upd_self, (hsv.le hle5).le (.upd ht), hv.le (.upd ht)⟩
    | false =>
      rw [if_neg (by decide)] at hb ⊢
      obtain ⟨f1, f2⟩ := ediv_of (x := x) (q := x.tdiv y) (s := x.tmod y) hy0 e1 hb (by (first | lia | omega))
      repeat k_updF
      refine ⟨Nat.le_of_ble_eq_true rfl, fun t ht => ?_⟩
      rw [← f1] at hq
      rw [← f2] at hs
      exact ⟨t, _, _, rfl, hle.trans (.upd ht), upd_self, hq.le (.upd ht), hs.le (.upd ht)⟩

inductive J1_c_common (w : Nat) (H : Hp) (a : Nat) (b : Nat) (k : Nat) (ℓ₁ : Loc) (H₁ : Hp) : Prop
  | mk (la) (lb) (a') (h1_ : SubL [("a", .ref la), ("b", .ref lb), ("w", .int w), ("divrem", .ref 261)] ℓ₁) (h2_ : Le H H₁) (h3_ : IsL H₁ la (nats (limbs (2 ^ w) a'))) (h4_ : IsL H₁ lb (nats (limbs (2 ^ w) k))) (h5_ : a' < 2 ^ 50) (h6_ : k < 2 ^ 50) (h7_ : Nat.gcd a' k = Nat.gcd a b) : J1_c_common w H a b k ℓ₁ H₁
theorem c_common {d : Wd} {c : Cx} {ℓ : Loc} {H : Hp} {r : Nat} (ok : c.Ok (GW d) (r + 5)) {la lb : Addr} {w a b : Nat} (hw : 3 ≤ w) (hw' : w ≤ 8) (ha : IsL H la (nats (limbs (2 ^ w) a))) (hb : IsL H lb (nats (limbs (2 ^ w) b))) (ha' : a < 2 ^ 50) (hb' : b < 2 ^ 50) :
    FC (GW d) c ℓ H 156 [.ref la, .ref lb, .int w, .ref 261] (NR w (Nat.gcd a b) H) := by
  refine fc_def ["a", "b", "w", "divrem"] [("divrem", .ref 261), ("w", .int w), ("b", .ref lb), ("a", .ref la)] ok (by exact rfl) (by kernel_rfl) rfl rfl (fun s vs h => ?hb) (by kernel_rfl) (by decide +kernel) (fun L g ok' => ?hw)
  case hb =>
    obtain ⟨u0, u1, u2, u3, rfl⟩ := len4 h
    exact BindsTo.of_eq rfl
  clear ok
  have hB : 2 ≤ 2 ^ w := by have := eight_le hw; (first | lia | omega)
  refine ts_while (J1_c_common w H a b) b ⟨la, lb, a, ⟨rfl, rfl, rfl, rfl, trivial⟩, .refl _, ha, hb, ha', hb', rfl⟩ ?_
  clear ha hb la lb
  rintro k ℓ₁ H₁ ⟨la, lb, a', hℓ, hle, ha, hb, ha', hk', hg⟩
  refine ⟨_, hℓ, ?_⟩
  have hz := limbs_len_small hw (show k < 2 ^ 60 by (first | lia | omega))
  have hz2 := limbs_len_small hw (show a' < 2 ^ 60 by (first | lia | omega))
  have hnil := limbs_nil_iff (B := 2 ^ w) (n := k) hB
  repeat k_updF
  refine if_gt (fun h => ?_) (fun h => ?_)
  · have k0 : 0 < k := by
      rcases Nat.eq_zero_or_pos k with e | e
      · rw [e] at h; exact absurd h (by simp [limbs_zero])
      · exact e
    repeat k_updF
    refine te_call (by assumption) k_divrem_school ?_ (by exact rfl) (by exact rfl)
    k_updF
    refine ⟨rfl, ?_⟩
    repeat k_updF
    refine (c_divrem_school ok' hw hw' ha hb ha' hk' k0).mono ?_
    rintro v H₂ ⟨t, q, s, rfl, hle2, ht, _, ⟨ls, rfl, hs⟩, _, _⟩
    repeat k_updF
    have := Nat.mod_lt a' k0
    refine ⟨a' % k, this, lb, ls, k, ⟨rfl, rfl, rfl, rfl, trivial⟩, hle.trans hle2, hb.le hle2, hs, hk', by (first | lia | omega), ?_⟩
    rw [← hg, Nat.gcd_comm, ← Nat.gcd_rec, Nat.gcd_comm]
  · have k0 : k = 0 := hnil.mp (List.eq_nil_of_length_eq_zero (by (first | lia | omega)))
    subst k0
    rw [Nat.gcd_zero_right] at hg
    subst hg
    repeat k_updF
    refine te_call (by assumption) k_normal ?_ (by exact rfl) (by exact rfl)
    refine te_global g_normal ?_ (by assumption) (by exact rfl) (by decide)
    refine ⟨rfl, ?_⟩
    repeat k_updF
    exact c_norm ok' hB hle ha (by (first | lia | omega)) (limbs_lt hB _) (val_limbs hB _)

/-- a rational -/
inductive RV (H : Hp) (v : PV) (n : Int) (m w : Nat) : Prop
  | mk (t) (s) (l) (h1_ : v = .ref t) (h2_ : H t = some (.tup [s, .ref l])) (h3_ : SV H s n w) (h4_ : IsL H l (nats (limbs (2 ^ w) m))) : RV H v n m w
theorem RV.le {H H' : Hp} {v : PV} {n : Int} {m w : Nat} (x : RV H v n m w) (l : Le H H') : RV H' v n m w := by
  obtain ⟨t, s, a, e, h, i, j⟩ := x
  exact ⟨t, s, a, e, l _ _ h, i.le l, j.le l⟩
theorem limbs_1 {w : Nat} (hw : 3 ≤ w) : limbs (2 ^ w) 1 = [1] := limbs_one (by have := eight_le hw; (first | lia | omega)) (by (first | lia | omega)) (by have := eight_le hw; (first | lia | omega))
theorem mkz_cut {n d : Nat} {b : Bool} (hd : d ∣ n) (hb : b = true → 0 < n) : decide (mkz b (n / d) < 0) = b := by
  rw [mkz_neg]
  cases b with
  | false => rfl
  | true =>
    have := Nat.div_pos (Nat.le_of_dvd (hb rfl) hd) (Nat.pos_of_dvd_of_pos hd (hb rfl))
    simpa using this
theorem mkz_cut_mul {x : Int} {d : Nat} (hd : d ∣ x.natAbs) : mkz (decide (x < 0)) (x.natAbs / d) * d = x := by
  conv => rhs; rw [← mkz_self x]
  have e := Nat.div_mul_cancel hd
  conv => rhs; rw [← e]
  unfold mkz
  split <;> simp [Int.neg_mul]

theorem c_cut_signed {d : Wd} {c : Cx} {ℓ : Loc} {H : Hp} {r : Nat} (ok : c.Ok (GW d) (r + 5)) {vx : PV} {ld : Addr} {w e : Nat} {x : Int} (hw : 3 ≤ w) (hw' : w ≤ 8) (hx : SV H vx x w) (he : IsL H ld (nats (limbs (2 ^ w) e))) (hx' : x.natAbs < 2 ^ 50) (he' : e < 2 ^ 50) (he0 : 0 < e) (hd : e ∣ x.natAbs) :
    FC (GW d) c ℓ H 163 [vx, .ref ld, .int w, .ref 261] (SR w (mkz (decide (x < 0)) (x.natAbs / e)) H) := by
  obtain ⟨tx, ax, rfl, hxt, hxl⟩ := hx
  refine fc_def ["x", "d", "w", "divrem"] [("divrem", .ref 261), ("w", .int w), ("d", .ref ld), ("x", .ref tx)] ok (by exact rfl) (by kernel_rfl) rfl rfl (fun s vs h => ?hb) (by kernel_rfl) (by decide +kernel) (fun L g ok' => ?hw)
  case hb =>
    obtain ⟨u0, u1, u2, u3, rfl⟩ := len4 h
    exact BindsTo.of_eq rfl
  clear ok
  repeat k_updF
  refine te_call (by assumption) k_divrem_school ?_ (by exact rfl) (by exact rfl)
  k_updF
  refine ⟨rfl, ?_⟩
  repeat k_updF
  refine (c_divrem_school ok' hw hw' hxl he hx' he' he0).mono ?_
  rintro v H₁ ⟨t, q, s, rfl, hle, ht, ⟨lq, rfl, hq⟩, _⟩
  repeat k_updF
  refine ⟨Nat.le_of_ble_eq_true rfl, fun t ht => ⟨hle.trans (.upd ht), t, lq, rfl, ?_, ?_⟩⟩
  · rw [upd_self, mkz_cut hd (fun h => by simp at h; (first | lia | omega))]
  · rw [mkz_abs]; exact hq.le (.upd ht)

theorem c_signed_of {d : Wd} {c : Cx} {ℓ : Loc} {H : Hp} {r : Nat} (ok : c.Ok (GW d) (r + 1)) {l : Addr} {w n : Nat} (hl : IsL H l (nats (limbs (2 ^ w) n))) :
    FC (GW d) c ℓ H 170 [.ref l] (SR w (n : Int) H) := by
  refine fc_def ["nat"] [("nat", .ref l)] ok (by exact rfl) (by kernel_rfl) rfl rfl (fun s vs h => ?hb) (by kernel_rfl) (by decide +kernel) (fun L g ok' => ?hw)
  case hb =>
    obtain ⟨u0, rfl⟩ := len1 h
    exact BindsTo.of_eq rfl
  clear ok
  repeat k_updF
  refine ⟨Nat.le_of_ble_eq_true rfl, fun t ht => ⟨.upd ht, t, l, rfl, ?_, ?_⟩⟩
  · rw [upd_self, show decide ((n : Int) < 0) = false from by simp]
  · rw [Int.natAbs_natCast]; exact hl.le (.upd ht)

/-- the rational nought -/
theorem rv_zero {w : Nat} (hw : 3 ≤ w) {H : Hp} {e t1 o t2 : Addr} (h1 : H e = none) (h2 : upd H e (.list []) t1 = none) (h3 : upd (upd H e (.list [])) t1 (.tup [.bool false, .ref e]) o = none) (h4 : upd (upd (upd H e (.list [])) t1 (.tup [.bool false, .ref e])) o (.list [.int 1]) t2 = none) :
    Le H (upd (upd (upd (upd H e (.list [])) t1 (.tup [.bool false, .ref e])) o (.list [.int 1])) t2 (.tup [.ref t1, .ref o])) ∧ RV (upd (upd (upd (upd H e (.list [])) t1 (.tup [.bool false, .ref e])) o (.list [.int 1])) t2 (.tup [.ref t1, .ref o])) (.ref t2) 0 1 w := by
  refine ⟨(((Le.upd h1).trans (.upd h2)).trans (.upd h3)).trans (.upd h4), t2, .ref t1, o, rfl, upd_self, ⟨t1, e, rfl, ?_, ?_⟩, ?_⟩
  · exact (Le.upd h4) _ _ ((Le.upd h3) _ _ upd_self)
  · exact .inl ((Le.upd h4) _ _ ((Le.upd h3) _ _ ((Le.upd h2) _ _ upd_self)))
  · rw [limbs_1 hw]
    exact .inl ((Le.upd h4) _ _ upd_self)

inductive P_c_r_make (H : Hp) (w : Nat) (y : Int) (x : Int) (v : PV) (H' : Hp) : Prop
  | mk (h1_ : Le H H') (n) (m) (h2_ : RV H' v n m w) (h3_ : 0 < m) (h4_ : n * y = x * (m : Nat)) (h5_ : n.natAbs ≤ x.natAbs) (h6_ : m ≤ y.natAbs) : P_c_r_make H w y x v H'
theorem c_r_make {d : Wd} {c : Cx} {ℓ : Loc} {H : Hp} {r : Nat} (ok : c.Ok (GW d) (r + 6)) {vx vy : PV} {w : Nat} {x y : Int} (hw : 3 ≤ w) (hw' : w ≤ 8) (hx : SV H vx x w) (hy : SV H vy y w) (hx' : x.natAbs < 2 ^ 49) (hy' : y.natAbs < 2 ^ 49) (hy0 : 0 < y) :
    FC (GW d) c ℓ H 177 [vx, vy, .int w, .ref 261] (P_c_r_make H w y x) := by
  obtain ⟨tx, ax, rfl, hxt, hxl⟩ := id hx
  obtain ⟨ty, ay, rfl, hyt, hyl⟩ := id hy
  refine fc_def ["top", "bottom", "w", "divrem"] [("divrem", .ref 261), ("w", .int w), ("bottom", .ref ty), ("top", .ref tx)] ok (by exact rfl) (by kernel_rfl) rfl rfl (fun s vs h => ?hb) (by kernel_rfl) (by decide +kernel) (fun L g ok' => ?hw)
  case hb =>
    obtain ⟨u0, u1, u2, u3, rfl⟩ := len4 h
    exact BindsTo.of_eq rfl
  clear ok
  have hB : 2 ≤ 2 ^ w := by have := eight_le hw; (first | lia | omega)
  have hy1 := (limbs_top hB (show 0 < y.natAbs by (first | lia | omega))).1
  have hz := limbs_len_small hw (show y.natAbs < 2 ^ 60 by (first | lia | omega))
  have hz2 := limbs_len_small hw (show x.natAbs < 2 ^ 60 by (first | lia | omega))
  repeat k_updF
  refine if_eq (fun h => absurd h (by (first | lia | omega))) (fun _ => ?_)
  repeat k_updF
  refine if_eq (fun h => ?_) (fun h => ?_)
  · have hx0 : x = 0 := by
      have := (limbs_nil_iff hB).mp (List.eq_nil_of_length_eq_zero (by (first | lia | omega) : (limbs (2 ^ w) x.natAbs).length = 0))
      (first | lia | omega)
    subst hx0
    repeat k_updF
    refine ⟨Nat.le_of_ble_eq_true rfl, fun e h1 => ?_⟩
    repeat k_updF
    refine ⟨Nat.le_of_ble_eq_true rfl, fun t1 h2 => ?_⟩
    repeat k_updF
    refine ⟨Nat.le_of_ble_eq_true rfl, fun o h3 => ?_⟩
    repeat k_updF
    refine ⟨Nat.le_of_ble_eq_true rfl, fun t2 h4 => ?_⟩
    obtain ⟨f1, f2⟩ := rv_zero hw h1 h2 h3 h4
    exact ⟨f1, 0, 1, f2, by (first | lia | omega), by simp, by simp, by (first | lia | omega)⟩
  · have hx0 : 0 < x.natAbs := by
      rcases Nat.eq_zero_or_pos x.natAbs with e | e
      · rw [e] at h; exact absurd rfl h
      · exact e
    repeat k_updF
    refine te_call (by assumption) k_common ?_ (by exact rfl) (by exact rfl)
    refine te_global g_common ?_ (by assumption) (by exact rfl) (by decide)
    refine ⟨rfl, ?_⟩
    repeat k_updF
    refine (c_common ok' hw hw' hxl hyl (by (first | lia | omega)) (by (first | lia | omega))).mono ?_
    rintro v H₁ ⟨hle, lg, rfl, hg⟩
    have hgx := Nat.gcd_dvd_left x.natAbs y.natAbs
    have hgy := Nat.gcd_dvd_right x.natAbs y.natAbs
    have hg0 : 0 < Nat.gcd x.natAbs y.natAbs := Nat.gcd_pos_of_pos_left _ hx0
    have hgl := Nat.le_of_dvd hx0 hgx
    generalize Nat.gcd x.natAbs y.natAbs = gg at *
    have hxt := hle _ _ hxt
    have hyt := hle _ _ hyt
    repeat k_updF
    refine te_call (by assumption) k_divrem_school ?_ (by exact rfl) (by exact rfl)
    k_updF
    refine ⟨rfl, ?_⟩
    repeat k_updF
    refine (c_divrem_school ok' hw hw' (hxl.le hle) hg (by (first | lia | omega)) (by (first | lia | omega)) hg0).mono ?_
    rintro v H₂ ⟨t, q, s, rfl, hle2, ht, ⟨lq, rfl, hq⟩, _⟩
    have hle2' := hle.trans hle2
    have hyt := hle2 _ _ hyt
    repeat k_updF
    refine ⟨Nat.le_of_ble_eq_true rfl, fun t1 ht1 => ?_⟩
    have hle3 : Le H₂ (upd H₂ t1 (.tup [.bool (decide (x < 0) != decide (y < 0)), .ref lq])) := .upd ht1
    have hsv : SV (upd H₂ t1 (.tup [.bool (decide (x < 0) != decide (y < 0)), .ref lq])) (.ref t1) (mkz (decide (x < 0)) (x.natAbs / gg)) w := by
      refine ⟨t1, lq, rfl, ?_, ?_⟩
      · rw [upd_self, mkz_cut hgx (fun _ => hx0), show decide (y < 0) = false from by simp; (first | lia | omega), Bool.bne_false]
      · rw [mkz_abs]; exact hq.le hle3
    have hyt := hle3 _ _ hyt
    have hle3 := hle2'.trans hle3
    have hg3 := (hg.le hle2).le (.upd (p := .tup [.bool (decide (x < 0) != decide (y < 0)), .ref lq]) ht1)
    generalize upd H₂ t1 (.tup [.bool (decide (x < 0) != decide (y < 0)), .ref lq]) = H₃ at *
    repeat k_updF
    refine te_call (by assumption) k_divrem_school ?_ (by exact rfl) (by exact rfl)
    k_updF
    refine ⟨rfl, ?_⟩
    repeat k_updF
    refine (c_divrem_school ok' hw hw' (hyl.le hle3) hg3 (by (first | lia | omega)) (by (first | lia | omega)) hg0).mono ?_
    rintro v H₄ ⟨t, q, s, rfl, hle4, ht, ⟨lm, rfl, hm⟩, _⟩
    repeat k_updF
    refine ⟨Nat.le_of_ble_eq_true rfl, fun t2 ht2 => ?_⟩
    have hxm := mkz_cut_mul hgx
    have hym := Nat.div_mul_cancel hgy
    refine ⟨(hle3.trans hle4).trans (.upd ht2), _, y.natAbs / gg, ⟨t2, _, lm, rfl, upd_self, (hsv.le hle4).le (.upd ht2), hm.le (.upd ht2)⟩, Nat.div_pos (Nat.le_of_dvd (by (first | lia | omega)) hgy) hg0, ?_, ?_, Nat.div_le_self _ _⟩
    · have : y = ((y.natAbs / gg : Nat) : Int) * gg := by rw [← Int.natCast_mul, hym]; (first | lia | omega)
      generalize mkz (decide (x < 0)) (x.natAbs / gg) = n at *
      generalize y.natAbs / gg = m at *
      rw [← hxm, this, Int.mul_assoc, Int.mul_comm (m : Int)]
    · rw [mkz_abs]; exact Nat.div_le_self _ _

inductive P_c_r_mul (H : Hp) (w : Nat) (m1 : Nat) (m2 : Nat) (n1 : Int) (n2 : Int) (v : PV) (H' : Hp) : Prop
  | mk (h1_ : Le H H') (n) (m) (h2_ : RV H' v n m w) (h3_ : 0 < m) (h4_ : n * (m1 * m2 : Nat) = n1 * n2 * (m : Nat)) (h5_ : n.natAbs ≤ n1.natAbs * n2.natAbs) (h6_ : m ≤ m1 * m2) : P_c_r_mul H w m1 m2 n1 n2 v H'
theorem c_r_mul {d : Wd} {c : Cx} {ℓ : Loc} {H : Hp} {r : Nat} (ok : c.Ok (GW d) (r + 7)) {vx vy : PV} {w m1 m2 : Nat} {n1 n2 : Int} (hw : 3 ≤ w) (hw' : w ≤ 8) (hx : RV H vx n1 m1 w) (hy : RV H vy n2 m2 w) (b1 : n1.natAbs < 2 ^ 16) (b2 : m1 < 2 ^ 16) (b3 : n2.natAbs < 2 ^ 16) (b4 : m2 < 2 ^ 16) (p1 : 0 < m1) (p2 : 0 < m2) :
    FC (GW d) c ℓ H 191 [vx, vy, .int w, .ref 219, .ref 261] (P_c_r_mul H w m1 m2 n1 n2) := by
  obtain ⟨tx, sx, lx, rfl, hxt, hxs, hxl⟩ := hx
  obtain ⟨ty, sy, ly, rfl, hyt, hys, hyl⟩ := hy
  obtain ⟨ux, ax, rfl, hxu, hxa⟩ := id hxs
  obtain ⟨uy, ay, rfl, hyu, hya⟩ := id hys
  refine fc_def ["x", "y", "w", "mul", "divrem"] [("divrem", .ref 261), ("mul", .ref 219), ("w", .int w), ("y", .ref ty), ("x", .ref tx)] ok (by exact rfl) (by kernel_rfl) rfl rfl (fun s vs h => ?hb) (by kernel_rfl) (by decide +kernel) (fun L g ok' => ?hw)
  case hb =>
    obtain ⟨u0, u1, u2, u3, u4, rfl⟩ := len5 h
    exact BindsTo.of_eq rfl
  clear ok
  have hB : 2 ≤ 2 ^ w := by have := eight_le hw; (first | lia | omega)
  have hz := limbs_len_small hw (show n1.natAbs < 2 ^ 60 by (first | lia | omega))
  have hz2 := limbs_len_small hw (show n2.natAbs < 2 ^ 60 by (first | lia | omega))
  refine ts_if ?_
  refine TT.mono (Q := fun b H' => H' = H ∧ if b = true then n1 = 0 ∨ n2 = 0 else n1 ≠ 0 ∧ n2 ≠ 0) ?_ ?_
  · have z : ∀ n : Int, ((limbs (2 ^ w) n.natAbs).length : Int) = 0 → n = 0 := fun n h => by
      have := (limbs_nil_iff hB).mp (List.eq_nil_of_length_eq_zero (by (first | lia | omega) : (limbs (2 ^ w) n.natAbs).length = 0))
      (first | lia | omega)
    have z' : ∀ n : Int, ¬ ((limbs (2 ^ w) n.natAbs).length : Int) = 0 → n ≠ 0 := fun n h e => by
      subst e; exact h rfl
    repeat k_updF
    refine if_eq (fun h => ⟨rfl, if_tt (.inl (z _ h))⟩) (fun h => ?_)
    repeat k_updF
    exact ⟨rfl, if_eq (fun h' => .inr (z _ h')) (fun h' => ⟨z' _ h, z' _ h'⟩)⟩
  · rintro b H' ⟨e, hb⟩; rw [e]; clear e H'
    cases b with
    | true =>
      rw [if_pos rfl] at hb ⊢
      repeat k_updF
      refine ⟨Nat.le_of_ble_eq_true rfl, fun e h1 => ?_⟩
      repeat k_updF
      refine ⟨Nat.le_of_ble_eq_true rfl, fun t1 h2 => ?_⟩
      repeat k_updF
      refine ⟨Nat.le_of_ble_eq_true rfl, fun o h3 => ?_⟩
      repeat k_updF
      refine ⟨Nat.le_of_ble_eq_true rfl, fun t2 h4 => ?_⟩
      obtain ⟨f1, f2⟩ := rv_zero hw h1 h2 h3 h4
      refine ⟨f1, 0, 1, f2, by (first | lia | omega), ?_, by simp, Nat.mul_pos p1 p2⟩
      rcases hb with rfl | rfl <;> simp
    | false =>
      rw [if_neg (by decide)] at hb ⊢
      obtain ⟨q1, q2⟩ := hb
      repeat k_updF
      refine te_call (by assumption) k_common ?_ (by exact rfl) (by exact rfl)
      refine te_global g_common ?_ (by assumption) (by exact rfl) (by decide)
      refine ⟨rfl, ?_⟩
      repeat k_updF
      refine (c_common ok' hw hw' hxa hyl (by (first | lia | omega)) (by (first | lia | omega))).mono ?_
      rintro v H₁ ⟨hle1, l1, rfl, hl1⟩
      have hxt := hle1 _ _ hxt
      have hyt := hle1 _ _ hyt
      have hyu := hle1 _ _ hyu
      have hxu := hle1 _ _ hxu
      repeat k_updF
      refine te_call (by assumption) k_common ?_ (by exact rfl) (by exact rfl)
      refine te_global g_common ?_ (by assumption) (by exact rfl) (by decide)
      refine ⟨rfl, ?_⟩
      repeat k_updF
      refine (c_common ok' hw hw' (hya.le hle1) (hxl.le hle1) (by (first | lia | omega)) (by (first | lia | omega))).mono ?_
      rintro v H₂ ⟨hle2, l2, rfl, hl2⟩
      have hl1 := hl1.le hle2
      have hle2' := hle1.trans hle2
      have hxt := hle2 _ _ hxt
      have hyt := hle2 _ _ hyt
      have d1 := Nat.gcd_dvd_left n1.natAbs m2
      have d2 := Nat.gcd_dvd_right n1.natAbs m2
      have d3 := Nat.gcd_dvd_left n2.natAbs m1
      have d4 := Nat.gcd_dvd_right n2.natAbs m1
      have g1 : 0 < Nat.gcd n1.natAbs m2 := Nat.gcd_pos_of_pos_right _ p2
      have g2 : 0 < Nat.gcd n2.natAbs m1 := Nat.gcd_pos_of_pos_right _ p1
      have g3 := Nat.le_of_dvd p2 d2
      have g4 := Nat.le_of_dvd p1 d4
      generalize Nat.gcd n1.natAbs m2 = one at *
      generalize Nat.gcd n2.natAbs m1 = other at *
      repeat k_updF
      refine te_call (by assumption) k_s_mul ?_ (by exact rfl) (by exact rfl)
      refine te_global g_s_mul ?_ (by assumption) (by exact rfl) (by decide)
      refine ⟨rfl, ?_⟩
      repeat k_updF
      refine te_call (by assumption) k_cut_signed ?_ (by exact rfl) (by exact rfl)
      refine te_global g_cut_signed ?_ (by assumption) (by exact rfl) (by decide)
      refine ⟨rfl, ?_⟩
      repeat k_updF
      refine (c_cut_signed ok' hw hw' (hxs.le hle2') hl1 (by (first | lia | omega)) (by (first | lia | omega)) g1 d1).mono ?_
      rintro v H₃ ⟨hle3, hs1⟩
      have hyt := hle3 _ _ hyt
      have hxt := hle3 _ _ hxt
      repeat k_updF
      refine te_call (by assumption) k_cut_signed ?_ (by exact rfl) (by exact rfl)
      refine te_global g_cut_signed ?_ (by assumption) (by exact rfl) (by decide)
      refine ⟨rfl, ?_⟩
      repeat k_updF
      refine (c_cut_signed ok' hw hw' ((hys.le hle2').le hle3) (hl2.le hle3) (by (first | lia | omega)) (by (first | lia | omega)) g2 d3).mono ?_
      rintro v' H₄ ⟨hle4, hs2⟩
      have hyt := hle4 _ _ hyt
      have hxt := hle4 _ _ hxt
      have hle4' := (hle2'.trans hle3).trans hle4
      repeat k_updF
      have a1 := Nat.div_le_self n1.natAbs one
      have a2 := Nat.div_le_self n2.natAbs other
      have c1 := mkz_cut_mul d1
      have c2 := mkz_cut_mul d3
      have e1 : (mkz (decide (n1 < 0)) (n1.natAbs / one)).natAbs ≤ n1.natAbs := by rw [mkz_abs]; exact a1
      have e2 : (mkz (decide (n2 < 0)) (n2.natAbs / other)).natAbs ≤ n2.natAbs := by rw [mkz_abs]; exact a2
      generalize mkz (decide (n1 < 0)) (n1.natAbs / one) = k1 at *
      generalize mkz (decide (n2 < 0)) (n2.natAbs / other) = k2 at *
      refine (c_s_mul ok' hw hw' (hs1.le hle4) hs2 (by (first | lia | omega)) (by (first | lia | omega))).mono ?_
      rintro v'' H₅ ⟨hle5, hs3⟩
      have hyt := hle5 _ _ hyt
      have hxt := hle5 _ _ hxt
      have hle5' := hle4'.trans hle5
      have hl1 := ((hl1.le hle3).le hle4).le hle5
      have hl2 := ((hl2.le hle3).le hle4).le hle5
      repeat k_updF
      refine te_call (by assumption) k_mul_school ?_ (by exact rfl) (by exact rfl)
      k_updF
      refine ⟨rfl, ?_⟩
      repeat k_updF
      refine te_call (by assumption) k_divrem_school ?_ (by exact rfl) (by exact rfl)
      k_updF
      refine ⟨rfl, ?_⟩
      repeat k_updF
      refine (c_divrem_school ok' hw hw' (hxl.le hle5') hl2 (by (first | lia | omega)) (by (first | lia | omega)) g2).mono ?_
      rintro v H₆ ⟨t, q, s, rfl, hle6, ht, ⟨lq, rfl, hq⟩, _⟩
      have hyt := hle6 _ _ hyt
      repeat k_updF
      refine te_call (by assumption) k_divrem_school ?_ (by exact rfl) (by exact rfl)
      k_updF
      refine ⟨rfl, ?_⟩
      repeat k_updF
      refine (c_divrem_school ok' hw hw' ((hyl.le hle5').le hle6) (hl1.le hle6) (by (first | lia | omega)) (by (first | lia | omega)) g1).mono ?_
      rintro v H₇ ⟨t, q', s, rfl, hle7, ht, ⟨lq', rfl, hq'⟩, _⟩
      repeat k_updF
      have a3 := Nat.div_le_self m1 other
      have a4 := Nat.div_le_self m2 one
      have o1 := Nat.div_pos g4 g2
      have o2 := Nat.div_pos g3 g1
      have c3 := Nat.div_mul_cancel d4
      have c4 := Nat.div_mul_cancel d2
      generalize m1 / other = k3 at *
      generalize m2 / one = k4 at *
      refine (c_mul_school ok' hw hw' (hq.le hle7) hq' (by (first | lia | omega)) (by (first | lia | omega))).mono ?_
      rintro v H₈ ⟨hle8, lf, rfl, hlf⟩
      repeat k_updF
      refine ⟨Nat.le_of_ble_eq_true rfl, fun t ht => ?_⟩
      refine ⟨(((hle5'.trans hle6).trans hle7).trans hle8).trans (.upd ht), k1 * k2, k3 * k4, ⟨t, _, lf, rfl, upd_self, (((hs3.le hle6).le hle7).le hle8).le (.upd ht), hlf.le (.upd ht)⟩, Nat.mul_pos o1 o2, ?_, ?_, Nat.mul_le_mul a3 a4⟩
      · subst c1 c2 c3 c4
        simp only [Int.natCast_mul]
        grind
      · rw [Int.natAbs_mul]; exact Nat.mul_le_mul e1 e2

inductive P_c_r_add (H : Hp) (w : Nat) (m1 : Nat) (m2 : Nat) (n1 : Int) (n2 : Int) (v : PV) (H' : Hp) : Prop
  | mk (h1_ : Le H H') (n) (m) (h2_ : RV H' v n m w) (h3_ : 0 < m) (h4_ : n * (m1 * m2 : Nat) = (n1 * (m2 : Nat) + n2 * (m1 : Nat)) * (m : Nat)) (h5_ : n.natAbs ≤ n1.natAbs * m2 + n2.natAbs * m1) (h6_ : m ≤ m1 * m2) : P_c_r_add H w m1 m2 n1 n2 v H'
theorem c_r_add {d : Wd} {c : Cx} {ℓ : Loc} {H : Hp} {r : Nat} (ok : c.Ok (GW d) (r + 7)) {vx vy : PV} {w m1 m2 : Nat} {n1 n2 : Int} (hw : 3 ≤ w) (hw' : w ≤ 8) (hx : RV H vx n1 m1 w) (hy : RV H vy n2 m2 w) (b1 : n1.natAbs < 2 ^ 16) (b2 : m1 < 2 ^ 16) (b3 : n2.natAbs < 2 ^ 16) (b4 : m2 < 2 ^ 16) (p1 : 0 < m1) (p2 : 0 < m2) :
    FC (GW d) c ℓ H 184 [vx, vy, .int w, .ref 219, .ref 261] (P_c_r_add H w m1 m2 n1 n2) := by
  obtain ⟨tx, sx, lx, rfl, hxt, hxs, hxl⟩ := hx
  obtain ⟨ty, sy, ly, rfl, hyt, hys, hyl⟩ := hy
  refine fc_def ["x", "y", "w", "mul", "divrem"] [("divrem", .ref 261), ("mul", .ref 219), ("w", .int w), ("y", .ref ty), ("x", .ref tx)] ok (by exact rfl) (by kernel_rfl) rfl rfl (fun s vs h => ?hb) (by kernel_rfl) (by decide +kernel) (fun L g ok' => ?hw)
  case hb =>
    obtain ⟨u0, u1, u2, u3, u4, rfl⟩ := len5 h
    exact BindsTo.of_eq rfl
  clear ok
  have hB : 2 ≤ 2 ^ w := by have := eight_le hw; (first | lia | omega)
  repeat k_updF
  refine te_call (by assumption) k_common ?_ (by exact rfl) (by exact rfl)
  refine te_global g_common ?_ (by assumption) (by exact rfl) (by decide)
  refine ⟨rfl, ?_⟩
  repeat k_updF
  refine (c_common ok' hw hw' hxl hyl (by (first | lia | omega)) (by (first | lia | omega))).mono ?_
  rintro v H₁ ⟨hle1, l1, rfl, hl1⟩
  have hxt := hle1 _ _ hxt
  have hyt := hle1 _ _ hyt
  have d1 := Nat.gcd_dvd_left m1 m2
  have d2 := Nat.gcd_dvd_right m1 m2
  have g1 : 0 < Nat.gcd m1 m2 := Nat.gcd_pos_of_pos_right _ p2
  have g2 := Nat.le_of_dvd p1 d1
  have g3 := Nat.le_of_dvd p2 d2
  generalize Nat.gcd m1 m2 = told at *
  repeat k_updF
  refine te_call (by assumption) k_divrem_school ?_ (by exact rfl) (by exact rfl)
  k_updF
  refine ⟨rfl, ?_⟩
  repeat k_updF
  refine (c_divrem_school ok' hw hw' (hxl.le hle1) hl1 (by (first | lia | omega)) (by (first | lia | omega)) g1).mono ?_
  rintro v H₂ ⟨t, q, s, rfl, hle2, ht, ⟨lh, rfl, hh⟩, _⟩
  have hyt := hle2 _ _ hyt
  have hxt := hle2 _ _ hxt
  repeat k_updF
  refine te_call (by assumption) k_divrem_school ?_ (by exact rfl) (by exact rfl)
  k_updF
  refine ⟨rfl, ?_⟩
  repeat k_updF
  refine (c_divrem_school ok' hw hw' ((hyl.le hle1).le hle2) (hl1.le hle2) (by (first | lia | omega)) (by (first | lia | omega)) g1).mono ?_
  rintro v H₃ ⟨t, q, s, rfl, hle3, ht, ⟨le, rfl, he⟩, _⟩
  have hyt := hle3 _ _ hyt
  have hxt := hle3 _ _ hxt
  have hle3' := (hle1.trans hle2).trans hle3
  have hh := hh.le hle3
  have hl1 := (hl1.le hle2).le hle3
  have hyl := hyl.le hle3'
  have hxs := hxs.le hle3'
  have hys := hys.le hle3'
  have o1 := Nat.div_pos g2 g1
  have o2 := Nat.div_pos g3 g1
  have c1 := Nat.div_mul_cancel d1
  have c2 := Nat.div_mul_cancel d2
  have a1 := Nat.div_le_self m1 told
  have a2 := Nat.div_le_self m2 told
  generalize m1 / told = here at *
  generalize m2 / told = there at *
  repeat k_updF
  refine te_call (by assumption) k_s_add ?_ (by exact rfl) (by exact rfl)
  refine te_global g_s_add ?_ (by assumption) (by exact rfl) (by decide)
  refine ⟨rfl, ?_⟩
  repeat k_updF
  refine te_call (by assumption) k_s_mul ?_ (by exact rfl) (by exact rfl)
  refine te_global g_s_mul ?_ (by assumption) (by exact rfl) (by decide)
  refine ⟨rfl, ?_⟩
  repeat k_updF
  refine te_call (by assumption) k_signed_of ?_ (by exact rfl) (by exact rfl)
  refine te_global g_signed_of ?_ (by assumption) (by exact rfl) (by decide)
  refine ⟨rfl, ?_⟩
  repeat k_updF
  refine (c_signed_of ok' he).mono ?_
  rintro v H₄ ⟨hle4, hs4⟩
  have hyt := hle4 _ _ hyt
  repeat k_updF
  refine (c_s_mul ok' hw hw' (hxs.le hle4) hs4 (by (first | lia | omega)) (by (first | lia | omega))).mono ?_
  rintro v4 H₅ ⟨hle5, hs5⟩
  have hyt := hle5 _ _ hyt
  have hle5' := hle4.trans hle5
  repeat k_updF
  refine te_call (by assumption) k_s_mul ?_ (by exact rfl) (by exact rfl)
  refine te_global g_s_mul ?_ (by assumption) (by exact rfl) (by decide)
  refine ⟨rfl, ?_⟩
  repeat k_updF
  refine te_call (by assumption) k_signed_of ?_ (by exact rfl) (by exact rfl)
  refine te_global g_signed_of ?_ (by assumption) (by exact rfl) (by decide)
  refine ⟨rfl, ?_⟩
  repeat k_updF
  refine (c_signed_of ok' (hh.le hle5')).mono ?_
  rintro v H₆ ⟨hle6, hs6⟩
  have hyt := hle6 _ _ hyt
  repeat k_updF
  refine (c_s_mul ok' hw hw' (hys.le (hle5'.trans hle6)) hs6 (by (first | lia | omega)) (by (first | lia | omega))).mono ?_
  rintro v6 H₇ ⟨hle7, hs7⟩
  have hyt := hle7 _ _ hyt
  have hle7' := (hle5'.trans hle6).trans hle7
  have hs5 := (hs5.le hle6).le hle7
  have x1 : (n1 * (there : Int)).natAbs ≤ n1.natAbs * m2 := by
    rw [Int.natAbs_mul, Int.natAbs_natCast]; exact Nat.mul_le_mul_left _ a2
  have x2 : (n2 * (here : Int)).natAbs ≤ n2.natAbs * m1 := by
    rw [Int.natAbs_mul, Int.natAbs_natCast]; exact Nat.mul_le_mul_left _ a1
  have y1 : n1.natAbs * m2 ≤ 65535 * 65535 := Nat.mul_le_mul (by (first | lia | omega)) (by (first | lia | omega))
  have y2 : n2.natAbs * m1 ≤ 65535 * 65535 := Nat.mul_le_mul (by (first | lia | omega)) (by (first | lia | omega))
  have x3 : (n1 * (there : Int) + n2 * (here : Int)).natAbs ≤ n1.natAbs * m2 + n2.natAbs * m1 := nabs2 x1 x2
  have x4 : (n1 * (there : Int)).natAbs < 2 ^ 50 := by (first | lia | omega)
  have x5 : (n2 * (here : Int)).natAbs < 2 ^ 50 := by (first | lia | omega)
  have x6 : (n1 * (there : Int) + n2 * (here : Int)).natAbs < 2 ^ 49 := by (first | lia | omega)
  have key : (n1 * (there : Int) + n2 * (here : Int)) * told = n1 * (m2 : Nat) + n2 * (m1 : Nat) := by
    rw [← c1, ← c2]; simp only [Int.natCast_mul]; grind
  repeat k_updF
  refine (c_s_add ok' hw hw' hs5 hs7 x4 x5).mono ?_
  rintro v7 H₈ ⟨hle8, hs8⟩
  have hs8 := hs8.sv
  generalize n1 * (there : Int) + n2 * (here : Int) = top at *
  obtain ⟨tt, lt, rfl, htt, htl⟩ := id hs8
  have hyt := hle8 _ _ hyt
  have hle8' := hle7'.trans hle8
  have hle8'' := hle3'.trans hle8'
  have hz := limbs_len_small hw (show top.natAbs < 2 ^ 60 by (first | lia | omega))
  repeat k_updF
  refine if_eq (fun h => ?_) (fun h => ?_)
  · have h0 : top = 0 := by
      have := (limbs_nil_iff hB).mp (List.eq_nil_of_length_eq_zero (by (first | lia | omega) : (limbs (2 ^ w) top.natAbs).length = 0))
      (first | lia | omega)
    subst h0
    repeat k_updF
    refine ⟨Nat.le_of_ble_eq_true rfl, fun o ho => ?_⟩
    repeat k_updF
    refine ⟨Nat.le_of_ble_eq_true rfl, fun t ht => ?_⟩
    refine ⟨(hle8''.trans (.upd ho)).trans (.upd ht), 0, 1, ⟨t, _, o, rfl, upd_self, (hs8.le (.upd ho)).le (.upd ht), ?_⟩, by (first | lia | omega), ?_, by simp, Nat.mul_pos p1 p2⟩
    · rw [limbs_1 hw]; exact .inl ((Le.upd ht) _ _ upd_self)
    · rw [← key]; simp
  · have h0 : 0 < top.natAbs := by
      rcases Nat.eq_zero_or_pos top.natAbs with e | e
      · rw [e] at h; exact absurd rfl h
      · exact e
    repeat k_updF
    refine te_call (by assumption) k_common ?_ (by exact rfl) (by exact rfl)
    refine te_global g_common ?_ (by assumption) (by exact rfl) (by decide)
    refine ⟨rfl, ?_⟩
    repeat k_updF
    refine (c_common ok' hw hw' htl (hl1.le hle8') (by (first | lia | omega)) (by (first | lia | omega))).mono ?_
    rintro v H₉ ⟨hle9, lo, rfl, hlo⟩
    have hyt := hle9 _ _ hyt
    have d3 := Nat.gcd_dvd_left top.natAbs told
    have d4 := Nat.dvd_trans (Nat.gcd_dvd_right top.natAbs told) d2
    have g4 : 0 < Nat.gcd top.natAbs told := Nat.gcd_pos_of_pos_right _ g1
    have g5 := Nat.le_of_dvd p2 d4
    have c3 := mkz_cut_mul d3
    have c4 := Nat.div_mul_cancel d4
    have o3 := Nat.div_pos g5 g4
    have a3 := Nat.div_le_self m2 (Nat.gcd top.natAbs told)
    have a4 := Nat.div_le_self top.natAbs (Nat.gcd top.natAbs told)
    generalize Nat.gcd top.natAbs told = out at *
    have hle9' := hle8'.trans hle9
    repeat k_updF
    refine te_call (by assumption) k_cut_signed ?_ (by exact rfl) (by exact rfl)
    refine te_global g_cut_signed ?_ (by assumption) (by exact rfl) (by decide)
    refine ⟨rfl, ?_⟩
    repeat k_updF
    refine (c_cut_signed ok' hw hw' (hs8.le hle9) hlo (by (first | lia | omega)) (by (first | lia | omega)) g4 d3).mono ?_
    rintro v9 Ha ⟨hlea, hsa⟩
    have hyt := hlea _ _ hyt
    have hlea' := hle9'.trans hlea
    have a5 : (mkz (decide (top < 0)) (top.natAbs / out)).natAbs ≤ top.natAbs := by rw [mkz_abs]; exact a4
    generalize mkz (decide (top < 0)) (top.natAbs / out) = n at *
    repeat k_updF
    refine te_call (by assumption) k_mul_school ?_ (by exact rfl) (by exact rfl)
    k_updF
    refine ⟨rfl, ?_⟩
    repeat k_updF
    refine te_call (by assumption) k_divrem_school ?_ (by exact rfl) (by exact rfl)
    k_updF
    refine ⟨rfl, ?_⟩
    repeat k_updF
    refine (c_divrem_school ok' hw hw' (hyl.le hlea') (hlo.le hlea) (by (first | lia | omega)) (by (first | lia | omega)) g4).mono ?_
    rintro v Hb ⟨t, q, s, rfl, hleb, ht, ⟨lq, rfl, hq⟩, _⟩
    generalize m2 / out = k at *
    repeat k_updF
    refine (c_mul_school ok' hw hw' (hh.le (hlea'.trans hleb)) hq (by (first | lia | omega)) (by (first | lia | omega))).mono ?_
    rintro v Hc ⟨hlec, lf, rfl, hlf⟩
    repeat k_updF
    refine ⟨Nat.le_of_ble_eq_true rfl, fun t ht => ?_⟩
    refine ⟨(((hle3'.trans hlea').trans hleb).trans hlec).trans (.upd ht), n, here * k, ⟨t, _, lf, rfl, upd_self, ((hsa.le hleb).le hlec).le (.upd ht), hlf.le (.upd ht)⟩, Nat.mul_pos o1 o3, ?_, by (first | lia | omega), Nat.mul_le_mul a1 a3⟩
    rw [← key]
    have c1' : (m1 : Int) = here * told := by rw [← c1]; simp
    have c4' : (m2 : Int) = k * out := by rw [← c4]; simp
    simp only [Int.natCast_mul, c1', c4', ← c3]
    grind

@[reducible] noncomputable def P_c_r_inverse (H : Hp) (n : Int) (m : Nat) (w : Nat) (v : PV) (H' : Hp) : Prop := Le H H' ∧ RV H' v (mkz (decide (n < 0)) m) n.natAbs w
theorem c_r_inverse {d : Wd} {c : Cx} {ℓ : Loc} {H : Hp} {r : Nat} (ok : c.Ok (GW d) (r + 1)) {vx : PV} {w m : Nat} {n : Int} (hw : 3 ≤ w) (hx : RV H vx n m w) (b1 : n.natAbs < 2 ^ 16) (hn : n ≠ 0) (hm : 0 < m) :
    FC (GW d) c ℓ H 198 [vx] (P_c_r_inverse H n m w) := by
  obtain ⟨tx, sx, lx, rfl, hxt, hxs, hxl⟩ := hx
  obtain ⟨ux, ax, rfl, hxu, hxa⟩ := id hxs
  refine fc_def ["x"] [("x", .ref tx)] ok (by exact rfl) (by kernel_rfl) rfl rfl (fun s vs h => ?hb) (by kernel_rfl) (by decide +kernel) (fun L g ok' => ?hw)
  case hb =>
    obtain ⟨u0, rfl⟩ := len1 h
    exact BindsTo.of_eq rfl
  clear ok
  have hB : 2 ≤ 2 ^ w := by have := eight_le hw; (first | lia | omega)
  have hz := limbs_len_small hw (show n.natAbs < 2 ^ 60 by (first | lia | omega))
  have hy1 := (limbs_top hB (show 0 < n.natAbs by (first | lia | omega))).1
  repeat k_updF
  refine if_eq (fun h => absurd h (by (first | lia | omega))) (fun _ => ?_)
  repeat k_updF
  refine ⟨Nat.le_of_ble_eq_true rfl, fun t1 h1 => ?_⟩
  have hxt := (Le.upd (p := .tup [.bool (decide (n < 0)), .ref lx]) h1) _ _ hxt
  have hxu := (Le.upd (p := .tup [.bool (decide (n < 0)), .ref lx]) h1) _ _ hxu
  repeat k_updF
  refine ⟨Nat.le_of_ble_eq_true rfl, fun t2 h2 => ?_⟩
  refine ⟨(Le.upd h1).trans (.upd h2), t2, .ref t1, ax, rfl, upd_self, ⟨t1, lx, rfl, ?_, ?_⟩, (hxa.le (.upd h1)).le (.upd h2)⟩
  · rw [(Le.upd h2) _ _ upd_self, mkz_neg, show decide (0 < m) = true from by simpa using hm, Bool.and_true]
  · rw [mkz_abs]; exact (hxl.le (.upd h1)).le (.upd h2)

inductive P_c_r_div (H : Hp) (w : Nat) (m1 : Nat) (n2 : Int) (n1 : Int) (m2 : Nat) (v : PV) (H' : Hp) : Prop
  | mk (h1_ : Le H H') (n) (m) (h2_ : RV H' v n m w) (h3_ : 0 < m) (h4_ : n * (m1 * n2) = n1 * (m2 : Nat) * (m : Nat)) (h5_ : n.natAbs ≤ n1.natAbs * m2) (h6_ : m ≤ m1 * n2.natAbs) : P_c_r_div H w m1 n2 n1 m2 v H'
theorem c_r_div {d : Wd} {c : Cx} {ℓ : Loc} {H : Hp} {r : Nat} (ok : c.Ok (GW d) (r + 8)) {vx vy : PV} {w m1 m2 : Nat} {n1 n2 : Int} (hw : 3 ≤ w) (hw' : w ≤ 8) (hx : RV H vx n1 m1 w) (hy : RV H vy n2 m2 w) (b1 : n1.natAbs < 2 ^ 16) (b2 : m1 < 2 ^ 16) (b3 : n2.natAbs < 2 ^ 16) (b4 : m2 < 2 ^ 16) (p1 : 0 < m1) (p2 : 0 < m2) (hn : n2 ≠ 0) :
    FC (GW d) c ℓ H 205 [vx, vy, .int w, .ref 219, .ref 261] (P_c_r_div H w m1 n2 n1 m2) := by
  refine fc_def ["x", "y", "w", "mul", "divrem"] [("divrem", .ref 261), ("mul", .ref 219), ("w", .int w), ("y", vy), ("x", vx)] ok (by exact rfl) (by kernel_rfl) rfl rfl (fun s vs h => ?hb) (by kernel_rfl) (by decide +kernel) (fun L g ok' => ?hw)
  case hb =>
    obtain ⟨u0, u1, u2, u3, u4, rfl⟩ := len5 h
    exact BindsTo.of_eq rfl
  clear ok
  repeat k_updF
  refine te_call (by assumption) k_r_mul ?_ (by exact rfl) (by exact rfl)
  refine te_global g_r_mul ?_ (by assumption) (by exact rfl) (by decide)
  refine ⟨rfl, ?_⟩
  repeat k_updF
  refine te_call (by assumption) k_r_inverse ?_ (by exact rfl) (by exact rfl)
  refine te_global g_r_inverse ?_ (by assumption) (by exact rfl) (by decide)
  refine ⟨rfl, ?_⟩
  repeat k_updF
  refine (c_r_inverse ok' hw hy (by (first | lia | omega)) hn p2).mono ?_
  rintro v H₁ ⟨hle1, hv⟩
  repeat k_updF
  refine (c_r_mul ok' hw hw' (hx.le hle1) hv b1 b2 (by rw [mkz_abs]; exact b4) b3 p1 (by (first | lia | omega))).mono ?_
  rintro v H₂ ⟨hle2, n, m, hrv, hm, he, hn', hm'⟩
  rw [mkz_abs] at hn'
  refine ⟨hle1.trans hle2, n, m, hrv, hm, ?_, hn', hm'⟩
  by_cases h : n2 < 0
  · simp only [h, decide_true, mkz, if_true] at he
    have : ((n2.natAbs : Nat) : Int) = -n2 := by (first | lia | omega)
    simp only [Int.natCast_mul, this] at he
    grind
  · simp only [h, decide_false, mkz] at he
    have : ((n2.natAbs : Nat) : Int) = n2 := by (first | lia | omega)
    simp only [Int.natCast_mul, this] at he
    simpa using he

noncomputable def cfF : Nat → Int → Nat → List Int
  | 0, _, _ => []
  | f + 1, n, m => if m = 0 then [] else n / (m : Int) :: cfF f m (n % (m : Int)).toNat
/-- the whole parts of n / m -/
noncomputable def cf (n : Int) (m : Nat) : List Int := cfF m n m
theorem cfF_enough : ∀ (f g : Nat) (n : Int) (m : Nat), m ≤ f → m ≤ g → cfF f n m = cfF g n m
  | 0, 0, _, _, _, _ => rfl
  | 0, g + 1, n, m, hf, _ => by
    have : m = 0 := by (first | lia | omega)
    subst this; simp [cfF]
  | f + 1, 0, n, m, _, hg => by
    have : m = 0 := by (first | lia | omega)
    subst this; simp [cfF]
  | f + 1, g + 1, n, m, hf, hg => by
    unfold cfF
    split
    · rfl
    · rename_i h
      have h1 := Int.emod_lt_of_pos n (show (0 : Int) < m by (first | lia | omega))
      have h2 := Int.emod_nonneg n (show (m : Int) ≠ 0 by (first | lia | omega))
      rw [cfF_enough f g m (n % (m : Int)).toNat (by (first | lia | omega)) (by (first | lia | omega))]
theorem cf_zero (n : Int) : cf n 0 = [] := rfl
theorem cf_pos (n : Int) {m : Nat} (h : 0 < m) : cf n m = n / (m : Int) :: cf m (n % (m : Int)).toNat := by
  have h1 := Int.emod_lt_of_pos n (show (0 : Int) < m by (first | lia | omega))
  have h2 := Int.emod_nonneg n (show (m : Int) ≠ 0 by (first | lia | omega))
  unfold cf
  cases m with
  | zero => (first | lia | omega)
  | succ k =>
    rw [cfF, if_neg (by (first | lia | omega)), cfF_enough k _ _ _ (by (first | lia | omega)) (Nat.le_refl _)]
theorem cf_len : ∀ (k : Nat) (n : Int) (m : Nat), m < 2 ^ k → (cf n m).length ≤ 2 * k
  | 0, n, m, h => by
    have : m = 0 := by simp at h; (first | lia | omega)
    subst this; simp [cf_zero]
  | k + 1, n, m, h => by
    rcases Nat.eq_zero_or_pos m with rfl | hm
    · simp [cf_zero]
    · rw [cf_pos n hm, List.length_cons]
      have h1 := Int.emod_lt_of_pos n (show (0 : Int) < m by (first | lia | omega))
      have h2 := Int.emod_nonneg n (show (m : Int) ≠ 0 by (first | lia | omega))
      generalize hm' : (n % (m : Int)).toNat = m' at *
      have hlt : m' < m := by (first | lia | omega)
      rcases Nat.eq_zero_or_pos m' with rfl | hp
      · simp [cf_zero]; (first | lia | omega)
      · rw [cf_pos _ hp, List.length_cons]
        have h3 : ((m : Int) % (m' : Int)).toNat = m % m' := by rw [← Int.natCast_emod, Int.toNat_natCast]
        have h4 : m % m' < 2 ^ k := by
          have e := Nat.div_add_mod m m'
          have h5 := Nat.mod_lt m hp
          have h6 : 1 ≤ m / m' := Nat.div_pos (Nat.le_of_lt hlt) hp
          have h7 : m' * 1 ≤ m' * (m / m') := Nat.mul_le_mul_left _ h6
          rw [Nat.pow_succ] at h
          (first | lia | omega)
        rw [h3]
        have := cf_len k m' (m % m') h4
        (first | lia | omega)

/-- numbers with a sign whose lists are not f -/
inductive SVX (f : Addr) (H : Hp) (v : PV) (z : Int) (w : Nat) : Prop
  | mk (t) (l) (h1_ : v = .ref t) (h2_ : H t = some (.tup [.bool (decide (z < 0)), .ref l])) (h3_ : IsL H l (nats (limbs (2 ^ w) z.natAbs))) (h4_ : l ≠ f) : SVX f H v z w
theorem SVX.sv {f : Addr} {H : Hp} {v : PV} {z : Int} {w : Nat} (x : SVX f H v z w) : SV H v z w := by
  obtain ⟨t, a, e, h, i, _⟩ := x
  exact ⟨t, a, e, h, i⟩
theorem SVX.le {f : Addr} {H H' : Hp} {v : PV} {z : Int} {w : Nat} (x : SVX f H v z w) (l : Le H H') : SVX f H' v z w := by
  obtain ⟨t, a, e, h, i, j⟩ := x
  exact ⟨t, a, e, l _ _ h, i.le l, j⟩
theorem SVX.upd {f : Addr} {H : Hp} {v : PV} {z : Int} {w : Nat} {xs ys : List PV} (x : SVX f H v z w) (hf : H f = some (.list xs)) : SVX f (Mine.upd H f (.list ys)) v z w := by
  obtain ⟨t, a, e, h, i, j⟩ := x
  have ht : t ≠ f := fun z => by rw [z, hf] at h; cases h
  exact ⟨t, a, e, by rw [upd_ne ht]; exact h, i.upd j, j⟩
theorem SVF.x {f : Addr} {H₀ H : Hp} {v : PV} {z : Int} {w : Nat} {p : PO} (x : SVF H₀ H v z w) (hf : H₀ f = some p) : SVX f H v z w := by
  obtain ⟨t, a, e, h, i, j⟩ := x
  exact ⟨t, a, e, h, i, fun z => by rw [z, hf] at j; cases j⟩
theorem SV.x {f : Addr} {H : Hp} {v : PV} {z : Int} {w : Nat} (x : SV H v z w) (hf : H f = none) : SVX f H v z w := by
  obtain ⟨t, a, e, h, i⟩ := x
  exact ⟨t, a, e, h, i, i.ne hf⟩
noncomputable def SVs (f : Addr) (H : Hp) (w : Nat) : List PV → List Int → Prop
  | [], [] => True
  | v :: vs, z :: zs => SVX f H v z w ∧ SVs f H w vs zs
  | _, _ => False
theorem SVs.map {f : Addr} {H H' : Hp} {w : Nat} (h : ∀ v z, SVX f H v z w → SVX f H' v z w) : ∀ {vs : List PV} {zs : List Int}, SVs f H w vs zs → SVs f H' w vs zs
  | [], [], _ => trivial
  | _ :: _, _ :: _, ⟨a, b⟩ => ⟨h _ _ a, SVs.map h b⟩
theorem SVs.len {f : Addr} {H : Hp} {w : Nat} : ∀ {vs : List PV} {zs : List Int}, SVs f H w vs zs → vs.length = zs.length
  | [], [], _ => rfl
  | _ :: _, _ :: _, ⟨_, b⟩ => by rw [List.length_cons, List.length_cons, SVs.len b]
theorem SVs.snoc {f : Addr} {H : Hp} {w : Nat} {v : PV} {z : Int} (h : SVX f H v z w) : ∀ {vs : List PV} {zs : List Int}, SVs f H w vs zs → SVs f H w (vs ++ [v]) (zs ++ [z])
  | [], [], _ => ⟨h, trivial⟩
  | _ :: _, _ :: _, ⟨a, b⟩ => ⟨a, SVs.snoc h b⟩
theorem SVs.get {f : Addr} {H : Hp} {w : Nat} : ∀ {vs : List PV} {zs : List Int}, SVs f H w vs zs → ∀ (i : Nat) v, vs[i]? = some v → ∃ z, zs[i]? = some z ∧ SVX f H v z w
  | [], [], _, i, v, e => by simp at e
  | a :: vs, z :: zs, ⟨x, y⟩, 0, v, e => by
    simp at e; subst e; exact ⟨z, by simp, x⟩
  | a :: vs, z :: zs, ⟨x, y⟩, i + 1, v, e => by
    obtain ⟨z', h1, h2⟩ := SVs.get y i v (by simpa using e)
    exact ⟨z', by simpa using h1, h2⟩

@[reducible] noncomputable def P_c_signed_ofF (H : Hp) (l : Addr) (v : PV) (H' : Hp) : Prop := ∃ t, v = .ref t ∧ Le H H' ∧ H' t = some (.tup [.bool false, .ref l])
theorem c_signed_ofF {d : Wd} {c : Cx} {ℓ : Loc} {H : Hp} {r : Nat} (ok : c.Ok (GW d) (r + 1)) {l : Addr} :
    FC (GW d) c ℓ H 170 [.ref l] (P_c_signed_ofF H l) := by
  refine fc_def ["nat"] [("nat", .ref l)] ok (by exact rfl) (by kernel_rfl) rfl rfl (fun s vs h => ?hb) (by kernel_rfl) (by decide +kernel) (fun L g ok' => ?hw)
  case hb =>
    obtain ⟨u0, rfl⟩ := len1 h
    exact BindsTo.of_eq rfl
  clear ok
  repeat k_updF
  exact ⟨Nat.le_of_ble_eq_true rfl, fun t ht => ⟨t, rfl, .upd ht, upd_self⟩⟩
inductive P_c_continued (H : Hp) (w : Nat) (n : Int) (m : Nat) (v : PV) (H' : Hp) : Prop
  | mk (f) (vs) (h1_ : v = .ref f) (h2_ : Le H H') (h3_ : H f = none) (h4_ : H' f = some (.list vs)) (h5_ : SVs f H' w vs (cf n m)) : P_c_continued H w n m v H'
inductive J1_c_continued (w : Nat) (f : Addr) (H : Hp) (n : Int) (m : Nat) (k : Nat) (ℓ₁ : Loc) (H₂ : Hp) : Prop
  | mk (vt) (vb) (nt) (vs) (zs) (h1_ : SubL [("w", .int w), ("divrem", .ref 261), ("found", .ref f), ("top", vt), ("bottom", vb)] ℓ₁) (h2_ : Le H H₂) (h3_ : H₂ f = some (.list vs)) (h4_ : SVs f H₂ w vs zs) (h5_ : SVX f H₂ vt nt w) (h6_ : SVX f H₂ vb (k : Nat) w) (h7_ : nt.natAbs < 2 ^ 40) (h8_ : k < 2 ^ 40) (h9_ : cf n m = zs ++ cf nt k) : J1_c_continued w f H n m k ℓ₁ H₂
theorem c_continued {d : Wd} {c : Cx} {ℓ : Loc} {H : Hp} {r : Nat} (ok : c.Ok (GW d) (r + 7)) {vx : PV} {w m : Nat} {n : Int} (hw : 3 ≤ w) (hw' : w ≤ 8) (hx : RV H vx n m w) (b1 : n.natAbs < 2 ^ 40) (b2 : m < 2 ^ 40) :
    FC (GW d) c ℓ H 212 [vx, .int w, .ref 261] (P_c_continued H w n m) := by
  obtain ⟨tx, sx, lx, rfl, hxt, hxs, hxl⟩ := hx
  refine fc_def ["x", "w", "divrem"] [("divrem", .ref 261), ("w", .int w), ("x", .ref tx)] ok (by exact rfl) (by kernel_rfl) rfl rfl (fun s vs h => ?hb) (by kernel_rfl) (by decide +kernel) (fun L g ok' => ?hw)
  case hb =>
    obtain ⟨u0, u1, u2, rfl⟩ := len3 h
    exact BindsTo.of_eq rfl
  clear ok
  have hB : 2 ≤ 2 ^ w := by have := eight_le hw; (first | lia | omega)
  have hcl := cf_len 40 n m b2
  repeat k_updF
  refine ⟨Nat.le_of_ble_eq_true rfl, fun f hf => ?_⟩
  have hle0 : Le H (upd H f (.list [])) := .upd hf
  have hxt := hle0 _ _ hxt
  have hff0 : upd H f (.list []) f = some (.list []) := upd_self
  have hsx := (hxs.x hf).le hle0
  have hlx := hxl.upd (p := .list []) (hxl.ne hf)
  have hnx := hxl.ne hf
  generalize upd H f (.list []) = H₀ at *
  repeat k_updF
  refine te_call (by assumption) k_signed_of ?_ (by exact rfl) (by exact rfl)
  refine te_global g_signed_of ?_ (by assumption) (by exact rfl) (by decide)
  refine ⟨rfl, ?_⟩
  repeat k_updF
  refine (c_signed_ofF ok').mono ?_
  rintro _ H₁ ⟨tb, rfl, hle1, hs1⟩
  have hsb : SVX f H₁ (.ref tb) (m : Int) w := ⟨tb, lx, rfl, by rw [hs1, show decide ((m : Int) < 0) = false from by simp], by rw [Int.natAbs_natCast]; exact hlx.le hle1, hnx⟩
  have hle1' := hle0.trans hle1
  refine ts_while (J1_c_continued w f H n m) m ⟨sx, .ref tb, n, [], [], ⟨rfl, rfl, rfl, rfl, rfl, trivial⟩, hle1', hle1 _ _ hff0, trivial, hsx.le hle1, hsb, b1, b2, rfl⟩ ?_
  rintro k ℓ₁ H₂ ⟨vt, vb, nt, vs, zs, hℓ, hle2, hff, hvs, hvt, hvb, q1, q2, hcf⟩
  refine ⟨_, hℓ, ?_⟩
  obtain ⟨tb', lb', rfl, hbt, hbl, hbn⟩ := id hvb
  rw [Int.natAbs_natCast] at hbl
  have hz := limbs_len_small hw (show k < 2 ^ 60 by (first | lia | omega))
  repeat k_updF
  refine if_gt (fun h => ?_) (fun h => ?_)
  · have k0 : 0 < k := by
      rcases Nat.eq_zero_or_pos k with e | e
      · rw [e] at h; exact absurd h (by simp [limbs_zero])
      · exact e
    repeat k_updF
    refine te_call (by assumption) k_fdiv ?_ (by exact rfl) (by exact rfl)
    refine te_global g_fdiv ?_ (by assumption) (by exact rfl) (by decide)
    refine ⟨rfl, ?_⟩
    repeat k_updF
    refine (c_fdiv ok' hw hw' hvt.sv hvb.sv (by (first | lia | omega)) (by (first | lia | omega)) (by (first | lia | omega))).mono ?_
    rintro v H₃ ⟨t, q, s, rfl, hle3, ht, hq, hs⟩
    repeat k_updF
    refine ⟨t, q, s, rfl, .inl ht, ?_⟩
    have hff3 := hle3 _ _ hff
    have h1 := Int.emod_lt_of_pos nt (show (0 : Int) < k by (first | lia | omega))
    have h2 := Int.emod_nonneg nt (show (k : Int) ≠ 0 by (first | lia | omega))
    have hlen := hvs.len
    have hcl2 : zs.length ≤ 80 := by
      have := congrArg List.length hcf
      rw [List.length_append] at this
      (first | lia | omega)
    repeat k_updF
    refine ⟨vs, hff3, by (first | lia | omega), ?_⟩
    repeat k_updF
    have hs := hs.x hff
    rw [show nt % (k : Int) = ((nt % (k : Int)).toNat : Nat) from by (first | lia | omega)] at hs
    refine ⟨(nt % (k : Int)).toNat, by (first | lia | omega), .ref tb', s, k, vs ++ [q], zs ++ [nt / (k : Int)], ⟨rfl, rfl, rfl, rfl, rfl, trivial⟩, (hle2.trans hle3).updX hf, upd_self, ?_, (hvb.le hle3).upd hff3, hs.upd hff3, by (first | lia | omega), by (first | lia | omega), ?_⟩
    · exact SVs.map (fun v z x => x.upd hff3) (SVs.snoc (hq.x hff) (SVs.map (fun v z x => x.le hle3) hvs))
    · rw [hcf, cf_pos _ k0, List.append_assoc]; rfl
  · have k0 : k = 0 := (limbs_nil_iff hB).mp (List.eq_nil_of_length_eq_zero (by (first | lia | omega)))
    subst k0
    rw [cf_zero, List.append_nil] at hcf
    repeat k_updF
    exact ⟨f, vs, rfl, hle2, hf, hff, by rw [hcf]; exact hvs⟩

end
section
-- what differs from part to part
local macro_rules | `(tactic| k_updF) => `(tactic| first
  | with_reducible refine' te_slice ?_
  | ((with_reducible refine' te_itemM1 ?hi9 ?_); (case hi9 => exact rfl))
  | ((with_reducible refine' te_item ?_ ?hs); (case hs => (intros; exact rfl)))
  | refine ⟨_, _, _, _, rfl, rfl, by assumption, by (first | ((fail_if_success (exact rfl)); (first | lia | omega)) | omega), by (first | ((fail_if_success (exact rfl)); (first | lia | omega)) | omega), rfl, ?_⟩
  | ((with_reducible refine' te_lenZ (by assumption) b_len ?hx ?_ ?he); (case hx => exact rfl); (case he => exact rfl)))

theorem intL_len (gs : List Int) : (intL gs).length = gs.length := List.length_map ..
theorem intL_get {gs : List Int} {i : Nat} (h : i < gs.length) : (intL gs)[i]? = some (.int (gs.getD i 0)) := by
  simp [intL, List.getD_eq_getElem?_getD, h]
inductive P_c_law_sifted (many : Int) (H : Hp) (lt : Addr) (k : Int) (li : Addr) (v : PV) (H' : Hp) : Prop
  | mk (g) (h1_ : v = .int g) (h2_ : 0 ≤ g) (h3_ : g < many) (h4_ : H' = upd H lt (.list [.int (k + 1), .ref li])) : P_c_law_sifted many H lt k li v H'
theorem c_law_sifted {d : Wd} {c : Cx} {ℓ : Loc} {H : Hp} {r : Nat} (ok : c.Ok (GW d) (r + 1)) {lt li : Addr} {k many : Int} {gs : List Int} (ht : H lt = some (.list [.int k, .ref li])) (hi : IsL H li (intL gs)) (hk : 0 ≤ k) (hk' : k < 1000) (hm : 0 < many) (hn : li ≠ lt) (hl : gs.length ≤ 100) :
    FC (GW d) c ℓ H 268 [.ref lt, .int many] (P_c_law_sifted many H lt k li) := by
  refine fc_def ["tub", "many"] [("many", .int many), ("tub", .ref lt)] ok (by exact rfl) (by kernel_rfl) rfl rfl (fun s vs h => ?hb) (by kernel_rfl) (by decide +kernel) (fun L g ok' => ?hw)
  case hb =>
    obtain ⟨u0, u1, rfl⟩ := len2 h
    exact BindsTo.of_eq rfl
  clear ok
  have ht1 : IsL H lt [.int k, .ref li] := .inl ht
  repeat k_updF
  refine ⟨lt, 0, _, rfl, rfl, ht, by (first | lia | omega), by (first | lia | omega), by simp, ?_⟩
  rw [show ([.int k, .ref li] : List PV).set (Int.toNat 0) (.int (k + 1)) = [.int (k + 1), .ref li] from rfl]
  have ht2 : IsL (upd H lt (.list [.int (k + 1), .ref li])) lt [.int (k + 1), .ref li] := isL_upd
  have hi2 : IsL (upd H lt (.list [.int (k + 1), .ref li])) li (intL gs) := hi.upd hn
  have fin : ∀ x : Int, 0 ≤ x.fmod many ∧ x.fmod many < many := fun x => ⟨by rw [Int.fmod_eq_emod_of_nonneg _ (by (first | lia | omega))]; exact Int.emod_nonneg _ (by (first | lia | omega)), Int.fmod_lt_of_pos _ hm⟩
  repeat k_updF
  refine if_le (fun h => ?_) (fun h => ?_)
  · repeat k_updF
    refine ⟨li, k + 1 - 1, _, _, rfl, rfl, hi2, by (first | lia | omega), by (first | lia | omega), intL_get (by (first | lia | omega)), ?_⟩
    repeat k_updF
    refine ⟨by (first | lia | omega), ?_⟩
    exact ⟨_, rfl, (fin _).1, (fin _).2, rfl⟩
  · repeat k_updF
    refine ⟨mulOk_small (by (first | lia | omega)), ?_⟩
    repeat k_updF
    refine ⟨by (first | lia | omega), by decide, ?_⟩
    repeat k_updF
    refine ⟨by (first | lia | omega), ?_⟩
    exact ⟨_, rfl, (fin _).1, (fin _).2, rfl⟩

theorem two_pow (w : Nat) : (2 : Int) ^ ((w : Int).toNat) = ((2 ^ w : Nat) : Int) := by
  rw [Int.toNat_natCast]; norm_cast
inductive J1_c_law_limbs (w : Nat) (f : Addr) (H : Hp) (n : Nat) (k : Nat) (ℓ₁ : Loc) (H₁ : Hp) : Prop
  | mk (fs) (h1_ : SubL [("number", .int (k : Nat)), ("w", .int w), ("found", .ref f)] ℓ₁) (h2_ : Le H H₁) (h3_ : H₁ f = some (.list (nats fs))) (h4_ : limbs (2 ^ w) n = fs ++ limbs (2 ^ w) k) : J1_c_law_limbs w f H n k ℓ₁ H₁
theorem c_law_limbs {d : Wd} {c : Cx} {ℓ : Loc} {H : Hp} {r : Nat} (ok : c.Ok (GW d) (r + 1)) {w n : Nat} (hw : 3 ≤ w) (hw' : w ≤ 8) (hn : n < 2 ^ 60) :
    FC (GW d) c ℓ H 275 [.int (n : Nat), .int w] (NRQ w n H) := by
  refine fc_def ["number", "w"] [("w", .int w), ("number", .int (n : Nat))] ok (by exact rfl) (by kernel_rfl) rfl rfl (fun s vs h => ?hb) (by kernel_rfl) (by decide +kernel) (fun L g ok' => ?hw)
  case hb =>
    obtain ⟨u0, u1, rfl⟩ := len2 h
    exact BindsTo.of_eq rfl
  clear ok
  have hB : 2 ≤ 2 ^ w := by have := eight_le hw; (first | lia | omega)
  have h256 := le_256 hw'
  have hz := limbs_len_small hw hn
  repeat k_updF
  refine ⟨Nat.le_of_ble_eq_true rfl, fun f hf => ?_⟩
  repeat k_updF
  refine ts_while (J1_c_law_limbs w f H n) n ⟨[], ⟨rfl, rfl, rfl, trivial⟩, .upd hf, upd_self, rfl⟩ ?_
  rintro k ℓ₁ H₁ ⟨fs, hℓ, hle, hff, he⟩
  refine ⟨_, hℓ, ?_⟩
  repeat k_updF
  refine if_gt (fun h => ?_) (fun h => ?_)
  · have k0 : 0 < k := by (first | lia | omega)
    repeat k_updF
    rw [two_pow]
    refine ⟨by (first | lia | omega), ?_⟩
    rw [fmod_nat]
    have hl := congrArg List.length he
    rw [List.length_append] at hl
    refine ⟨_, hff, by rw [nats_len]; (first | lia | omega), ?_⟩
    repeat k_updF
    rw [two_pow]
    refine ⟨by (first | lia | omega), log_small (by (first | lia | omega)), ?_⟩
    rw [fdiv_nat]
    repeat k_updF
    refine ⟨k / 2 ^ w, Nat.div_lt_self k0 (by (first | lia | omega)), fs ++ [k % 2 ^ w], ⟨rfl, rfl, rfl, trivial⟩, hle.updX hf, upd_snoc, ?_⟩
    rw [he, limbs_pos hB k0, List.append_assoc]; rfl
  · have k0 : k = 0 := by (first | lia | omega)
    subst k0
    rw [limbs_zero, List.append_nil] at he
    repeat k_updF
    exact ⟨⟨hle, f, rfl, .inl (by rw [hff, he])⟩, fun _ e => by cases e; exact hf⟩

@[reducible] noncomputable def P_c_law_signed (H : Hp) (z : Int) (w : Nat) (v : PV) (H' : Hp) : Prop := Le H H' ∧ SVF H H' v z w
theorem c_law_signed {d : Wd} {c : Cx} {ℓ : Loc} {H : Hp} {r : Nat} (ok : c.Ok (GW d) (r + 2)) {w : Nat} {z : Int} (hw : 3 ≤ w) (hw' : w ≤ 8) (hz : z.natAbs < 2 ^ 60) :
    FC (GW d) c ℓ H 282 [.int z, .int w] (P_c_law_signed H z w) := by
  refine fc_def ["number", "w"] [("w", .int w), ("number", .int z)] ok (by exact rfl) (by kernel_rfl) rfl rfl (fun s vs h => ?hb) (by kernel_rfl) (by decide +kernel) (fun L g ok' => ?hw)
  case hb =>
    obtain ⟨u0, u1, rfl⟩ := len2 h
    exact BindsTo.of_eq rfl
  clear ok
  repeat k_updF
  refine te_cmp (by exact rfl) ?_ (by exact rfl)
  repeat k_updF
  refine te_call (by assumption) k_law_limbs ?_ (by exact rfl) (by exact rfl)
  refine te_global g_law_limbs ?_ (by assumption) (by exact rfl) (by decide)
  refine ⟨rfl, ?_⟩
  repeat k_updF
  refine te_abs (by assumption) b_abs (by exact rfl) ?_ (by exact rfl)
  repeat k_updF
  rw [show (if z < 0 then -z else z) = ((z.natAbs : Nat) : Int) from by split <;> (first | lia | omega)]
  refine (c_law_limbs ok' hw hw' hz).mono ?_
  rintro v H₁ ⟨⟨hle, l, rfl, hl⟩, hq⟩
  repeat k_updF
  refine ⟨Nat.le_of_ble_eq_true rfl, fun t ht => ⟨hle.trans (.upd ht), t, l, rfl, ?_, hl.le (.upd ht), hq _ rfl⟩⟩
  rw [upd_self]; rfl

theorem val_rev_step {B : Nat} {xs : List Nat} {i : Nat} (hi : i < xs.length) : val B (xs.drop (xs.length - (i + 1))) = val B (xs.drop (xs.length - i)) * B + xs.getD (xs.length - 1 - i) 0 := by
  rw [show xs.length - (i + 1) = xs.length - 1 - i from by (first | lia | omega), val_drop', show xs.length - 1 - i + 1 = xs.length - i from by (first | lia | omega), Nat.mul_comm, Nat.add_comm]
theorem rev_get {xs : List Nat} {i : Nat} (hi : i < xs.length) : xs.reverse.getD i 0 = xs.getD (xs.length - 1 - i) 0 := by
  simp [List.getD_eq_getElem?_getD, hi, show xs.length - 1 - i < xs.length by (first | lia | omega)]
@[reducible] noncomputable def P_c_law_plain (z : Int) (H : Hp) (v : PV) (H' : Hp) : Prop := v = .int z ∧ Le H H'
@[reducible] noncomputable def J1_c_law_plain (H₀ : Hp) (e : Addr) (xs : List Nat) (tx : Addr) (w : Nat) (i : Nat) (ℓ₁ : Loc) (H₂ : Hp) : Prop := H₂ = upd H₀ e (.ro (nats xs.reverse)) ∧ SubL [("x", .ref tx), ("w", .int w), ("found", .int (val (2 ^ w) (xs.drop (xs.length - i)) : Nat))] ℓ₁
theorem c_law_plain {d : Wd} {c : Cx} {ℓ : Loc} {H : Hp} {r : Nat} (ok : c.Ok (GW d) (r + 1)) {vx : PV} {w : Nat} {z : Int} (hw : 3 ≤ w) (hw' : w ≤ 8) (hx : SV H vx z w) (hz : z.natAbs < 2 ^ 60) :
    FC (GW d) c ℓ H 289 [vx, .int w] (P_c_law_plain z H) := by
  obtain ⟨tx, lx, rfl, hxt, hxl⟩ := hx
  refine fc_def ["x", "w"] [("w", .int w), ("x", .ref tx)] ok (by exact rfl) (by kernel_rfl) rfl rfl (fun s vs h => ?hb) (by kernel_rfl) (by decide +kernel) (fun L g ok' => ?hw)
  case hb =>
    obtain ⟨u0, u1, rfl⟩ := len2 h
    exact BindsTo.of_eq rfl
  clear ok
  have hB : 2 ≤ 2 ^ w := by have := eight_le hw; (first | lia | omega)
  have h256 := le_256 hw'
  have hzl := limbs_len_small hw hz
  have hva := val_limbs hB z.natAbs
  have hxb := limbs_lt hB z.natAbs
  have hself := mkz_self z
  generalize limbs (2 ^ w) z.natAbs = xs at *
  repeat k_updF
  refine ts_forListE (by assumption) ?_
  refine te_sliceRev ?_
  refine te_itemT ?_ (by intros; exact rfl)
  repeat k_updF
  refine ⟨lx, _, rfl, rfl, hxl, by rw [nats_len]; (first | lia | omega), fun e he => ?_⟩
  rw [nats_reverse]
  have hle0 : Le H (upd H e (.list (nats xs.reverse))) := .upd he
  have he0 : upd H e (.list (nats xs.reverse)) e = some (.list (nats xs.reverse)) := upd_self
  generalize upd H e (.list (nats xs.reverse)) = H₀ at *
  refine ⟨J1_c_law_plain H₀ e xs tx w, e, _, _, rfl, he0, .inl rfl, ⟨rfl, ⟨rfl, rfl, by simp [val], trivial⟩⟩, ?_, ?_, ?_⟩
  · rintro i ℓ₁ H₂ ⟨rfl, _⟩
    exact upd_self
  · rintro i y ℓ₁ H₂ hi ⟨rfl, hℓ⟩
    obtain ⟨hi', rfl⟩ := nats_get hi
    rw [List.length_reverse] at hi'
    refine ts_weakenC ?_ hℓ
    rw [rev_get hi']
    have hvl : val (2 ^ w) (xs.drop (xs.length - i)) ≤ val (2 ^ w) xs := by
      have h1 := (val_div_pow (show 0 < 2 ^ w by (first | lia | omega)) hxb (k := xs.length - i) (by (first | lia | omega))).1
      have h2 : 1 * val (2 ^ w) (xs.drop (xs.length - i)) ≤ (2 ^ w) ^ (xs.length - i) * val (2 ^ w) (xs.drop (xs.length - i)) := Nat.mul_le_mul_right _ (Nat.pow_pos (by (first | lia | omega)))
      (first | lia | omega)
    repeat k_updF
    rw [two_pow]
    refine ⟨mulOk_small (by (first | lia | omega)), ?_⟩
    repeat k_updF
    refine ⟨rfl, rfl, rfl, ?_, trivial⟩
    show some (PV.int _) = some (PV.int _)
    rw [val_rev_step hi']
    simp only [Int.natCast_add, Int.natCast_mul]
  · rintro ℓ₁ H₂ ⟨rfl, hℓ⟩
    rw [nats_len, List.length_reverse, Nat.sub_self, List.drop_zero, hva] at hℓ
    refine ts_weaken ?_ hℓ
    have hle1 : Le H (upd (upd H₀ e (.ro (nats xs.reverse))) e (.list (nats xs.reverse))) := fun a p x => by
      by_cases h : a = e
      · subst h; rw [he] at x; cases x
      · rw [upd_ne h, upd_ne h]; exact hle0 _ _ x
    have hxt := hle1 _ _ hxt
    generalize upd (upd H₀ e (.ro (nats xs.reverse))) e (.list (nats xs.reverse)) = H₁ at *
    refine ts_return ?_
    refine te_ifexp ?_
    refine tt_bool ?_ (by intros; exact rfl)
    refine te_itemT ?_ (by intros; exact rfl)
    repeat k_updF
    refine if_bool (fun h => ?_) (fun h => ?_)
    · repeat k_updF
      refine ⟨?_, hle1⟩
      rw [h] at hself
      show PV.int _ = _
      rw [← hself]; congr 1
      simp only [mkz, if_true]
      rw [mkz] at hself
      (first | lia | omega)
    · repeat k_updF
      refine ⟨?_, hle1⟩
      rw [h] at hself
      show PV.int _ = _
      congr 1

noncomputable def foldP (zs : List Int) : Int × Int := zs.foldr (fun p tb => (p * tb.1 + tb.2, tb.1)) (1, 0)
theorem intL_reverse (zs : List Int) : (intL zs).reverse = intL zs.reverse := (List.map_reverse ..).symm
theorem intL_at {zs : List Int} {i : Nat} {y : PV} (h : (intL zs)[i]? = some y) : i < zs.length ∧ y = .int (zs.getD i 0) := by
  unfold intL at h
  rw [List.getElem?_map] at h
  cases e : zs[i]? with
  | none => rw [e] at h; cases h
  | some z =>
    rw [e] at h
    obtain ⟨h1, h2⟩ := List.getElem?_eq_some_iff.mp e
    refine ⟨h1, ?_⟩
    rw [List.getD_eq_getElem?_getD, e]
    cases h; rfl
@[reducible] noncomputable def P_c_law_folded (H : Hp) (zs : List Int) (v : PV) (H' : Hp) : Prop := ∃ t, v = .ref t ∧ Le H H' ∧ H' t = some (.tup [.int (foldP zs).1, .int (foldP zs).2])
@[reducible] noncomputable def J1_c_law_folded (e : Addr) (H₁ : Hp) (zs : List Int) (i : Nat) (ℓ₁ : Loc) (H₂ : Hp) : Prop := LeX e H₁ H₂ ∧ H₂ e = some (.ro (intL zs.reverse)) ∧ SubL [("top", .int (foldP (zs.drop (zs.length - i))).1), ("bottom", .int (foldP (zs.drop (zs.length - i))).2)] ℓ₁
theorem c_law_folded {d : Wd} {c : Cx} {ℓ : Loc} {H : Hp} {r : Nat} (ok : c.Ok (GW d) (r + 1)) {l : Addr} {zs : List Int} (hl : IsL H l (intL zs)) (hz : zs.length ≤ 500) (hb : ∀ z ∈ zs, z.natAbs < 2 ^ 60) :
    FC (GW d) c ℓ H 296 [.ref l] (P_c_law_folded H zs) := by
  refine fc_def ["parts"] [("parts", .ref l)] ok (by exact rfl) (by kernel_rfl) rfl rfl (fun s vs h => ?hb) (by kernel_rfl) (by decide +kernel) (fun L g ok' => ?hw)
  case hb =>
    obtain ⟨u0, rfl⟩ := len1 h
    exact BindsTo.of_eq rfl
  clear ok
  repeat k_updF
  refine ⟨Nat.le_of_ble_eq_true rfl, fun t ht => ?_⟩
  refine ⟨t, _, _, rfl, .inl upd_self, ?_⟩
  have hle0 : Le H (upd H t (.tup [.int 1, .int 0])) := .upd ht
  have hl0 := hl.le hle0
  generalize upd H t (.tup [.int 1, .int 0]) = H₀ at *
  refine ts_forListE (by assumption) ?_
  refine te_sliceRev ?_
  repeat k_updF
  refine ⟨l, _, rfl, rfl, hl0, by rw [intL_len]; (first | lia | omega), fun e he => ?_⟩
  rw [intL_reverse]
  have hle1 : Le H₀ (upd H₀ e (.list (intL zs.reverse))) := .upd he
  have he0 : upd H₀ e (.list (intL zs.reverse)) e = some (.list (intL zs.reverse)) := upd_self
  have hle1 := hle0.trans hle1
  have he := hle0.none he
  generalize upd H₀ e (.list (intL zs.reverse)) = H₁ at *
  refine ⟨J1_c_law_folded e H₁ zs, e, _, _, rfl, he0, .inl rfl, ⟨(LeX.refl _ _).upd, upd_self, by rw [show zs.drop (zs.length - 0) = [] from by simp]; exact ⟨rfl, rfl, trivial⟩⟩, ?_, ?_, ?_⟩
  · rintro i ℓ₁ H₂ ⟨_, h, _⟩
    exact h
  · rintro i y ℓ₁ H₂ hi ⟨hlx, hro, hℓ⟩
    obtain ⟨hi', rfl⟩ := intL_at hi
    rw [List.length_reverse] at hi'
    have hgi : zs.reverse.getD i 0 = zs.getD (zs.length - 1 - i) 0 := by
      simp [List.getD_eq_getElem?_getD, hi', show zs.length - 1 - i < zs.length by (first | lia | omega)]
    have hdr : zs.drop (zs.length - (i + 1)) = zs.getD (zs.length - 1 - i) 0 :: zs.drop (zs.length - i) := by
      rw [show zs.length - (i + 1) = zs.length - 1 - i from by (first | lia | omega), List.drop_eq_getElem_cons (by (first | lia | omega)), show zs.length - 1 - i + 1 = zs.length - i from by (first | lia | omega)]
      simp [List.getD_eq_getElem?_getD, show zs.length - 1 - i < zs.length by (first | lia | omega)]
    have hzb : (zs.getD (zs.length - 1 - i) 0).natAbs < 2 ^ 60 := by
      refine hb _ ?_
      rw [List.getD_eq_getElem?_getD, List.getElem?_eq_getElem (by (first | lia | omega))]; exact List.getElem_mem _
    refine ts_weakenC ?_ hℓ
    rw [hgi]
    repeat k_updF
    refine ⟨mulOk_small hzb, ?_⟩
    repeat k_updF
    refine ⟨hlx, hro, ?_⟩
    rw [hdr]
    exact ⟨rfl, rfl, trivial⟩
  · rintro ℓ₁ H₂ ⟨hlx, hro, hℓ⟩
    rw [intL_len, List.length_reverse, Nat.sub_self, List.drop_zero] at hℓ
    refine ts_weaken ?_ hℓ
    repeat k_updF
    refine ⟨Nat.le_of_ble_eq_true rfl, fun t ht => ⟨t, rfl, ?_, upd_self⟩⟩
    have : Le H (upd H₂ e (.list (intL zs.reverse))) := fun a p x => by
      by_cases h : a = e
      · subst h; rw [he] at x; cases x
      · rw [upd_ne h]; exact hlx _ _ h (hle1 _ _ x)
    exact this.trans (.upd ht)

/-- the machine's giving: the parts told, the state left -/
noncomputable def giv : Nat → Int × Int × Int × Int → List Int × (Int × Int × Int × Int)
  | 0, s => ([], s)
  | n + 1, (a, b, c, d) => if c * (c + d) ≤ 0 ∨ a.fdiv c ≠ (a + b).fdiv (c + d) then ([], (a, b, c, d)) else
    ((a.fdiv c) :: (giv n (c, d, a - a.fdiv c * c, b - a.fdiv c * d)).1, (giv n (c, d, a - a.fdiv c * c, b - a.fdiv c * d)).2)
noncomputable def boxL (s : Int × Int × Int × Int) : List PV := [.int s.1, .int s.2.1, .int s.2.2.1, .int s.2.2.2]
/-- all that the machine's numbers reach -/
noncomputable def Bnd (M : Nat) (s : Int × Int × Int × Int) : Prop := s.1.natAbs ≤ M ∧ (s.1 + s.2.1).natAbs ≤ M ∧ s.2.2.1.natAbs ≤ M ∧ (s.2.2.1 + s.2.2.2).natAbs ≤ M
theorem fmod_abs {a c : Int} (h : c ≠ 0) : (a - a.fdiv c * c).natAbs < c.natAbs := by
  have e := Int.mul_fdiv_add_fmod a c
  rw [Int.mul_comm] at e
  have : a - a.fdiv c * c = a.fmod c := by (first | lia | omega)
  rw [this, Int.fmod_eq_emod]
  have h1 := Int.emod_nonneg a h
  have h2 := Int.emod_lt a h
  split
  · (first | lia | omega)
  · rename_i hn
    have : a % c ≠ 0 := fun e => hn (.inr (Int.dvd_of_emod_eq_zero e))
    (first | lia | omega)
theorem fdiv_small {a c : Int} (h : c ≠ 0) (ha : a.natAbs < 2 ^ 40) (hc : c.natAbs < 2 ^ 40) : (a.fdiv c).natAbs < 2 ^ 60 := by
  have h2 := nabs_of (Nat.le_refl _) (Nat.le_of_lt (fmod_abs (a := a) h))
  rw [Int.natAbs_mul] at h2
  have h3 : (a.fdiv c).natAbs * 1 ≤ (a.fdiv c).natAbs * c.natAbs := Nat.mul_le_mul_left _ (by (first | lia | omega))
  generalize (a.fdiv c).natAbs * c.natAbs = Y at *
  generalize (a.fdiv c).natAbs = X at *
  generalize a.natAbs = U at *
  generalize c.natAbs = W at *
  (first | lia | omega)
theorem Bnd.step {M : Nat} {a b c d : Int} (h : Bnd M (a, b, c, d)) (hc : ¬ (c * (c + d) ≤ 0 ∨ a.fdiv c ≠ (a + b).fdiv (c + d))) : c ≠ 0 ∧ c + d ≠ 0 ∧ Bnd M (c, d, a - a.fdiv c * c, b - a.fdiv c * d) := by
  obtain ⟨h1, h2, h3, h4⟩ := h
  simp only at h1 h2 h3 h4
  have hp : ¬ c * (c + d) ≤ 0 := fun x => hc (.inl x)
  have hq : a.fdiv c = (a + b).fdiv (c + d) := Classical.byContradiction fun x => hc (.inr x)
  have c0 : c ≠ 0 := fun e => hp (by rw [e, Int.zero_mul]; exact Int.le_refl _)
  have d0 : c + d ≠ 0 := fun e => hp (by rw [e, Int.mul_zero]; exact Int.le_refl _)
  refine ⟨c0, d0, h3, h4, ?_, ?_⟩
  · have := fmod_abs (a := a) c0
    show (a - a.fdiv c * c).natAbs ≤ M
    (first | lia | omega)
  · have := fmod_abs (a := a + b) d0
    rw [← hq, Int.mul_add] at this
    show (a - a.fdiv c * c + (b - a.fdiv c * d)).natAbs ≤ M
    (first | lia | omega)
theorem giv_bnd {M : Nat} : ∀ n s, Bnd M s → Bnd M (giv n s).2
  | 0, s, h => h
  | n + 1, (a, b, c, d), h => by
    rw [giv]
    split
    · exact h
    · rename_i hc
      exact giv_bnd n _ (h.step hc).2.2

theorem log_smallI {x : Int} (h : x.natAbs < 2 ^ 64) : x.natAbs.log2 < 9000 := by
  have := log_small h
  rwa [Int.natAbs_natCast] at this
@[reducible] noncomputable def P_c_law_given (lb : Addr) (s : Int × Int × Int × Int) (lt : Addr) (ts : List Int) (H : Hp) (_ : PV) (H' : Hp) : Prop := H' lb = some (.list (boxL (giv 60 s).2)) ∧ H' lt = some (.list (intL (ts ++ (giv 60 s).1))) ∧ ∀ a p, a ≠ lb → a ≠ lt → H a = some p → H' a = some p
inductive J1_c_law_given (lb : Addr) (lt : Addr) (H : Hp) (M : Nat) (ts : List Int) (s : Int × Int × Int × Int) (i : Nat) (ℓ₁ : Loc) (H₂ : Hp) : Prop
  | mk (s') (ts') (h1_ : SubL [("box", .ref lb), ("told", .ref lt)] ℓ₁) (h2_ : H₂ lb = some (.list (boxL s'))) (h3_ : H₂ lt = some (.list (intL ts'))) (h4_ : (∀ a p, a ≠ lb → a ≠ lt → H a = some p → H₂ a = some p)) (h5_ : Bnd M s') (h6_ : ts'.length ≤ ts.length + i) (h7_ : ts ++ (giv 60 s).1 = ts' ++ (giv (60 - i) s').1) (h8_ : (giv 60 s).2 = (giv (60 - i) s').2) : J1_c_law_given lb lt H M ts s i ℓ₁ H₂
theorem c_law_given {d : Wd} {c : Cx} {ℓ : Loc} {H : Hp} {r : Nat} (ok : c.Ok (GW d) (r + 1)) {lb lt : Addr} {s : Int × Int × Int × Int} {ts : List Int} {M : Nat} (hb : H lb = some (.list (boxL s))) (ht : H lt = some (.list (intL ts))) (hne : lb ≠ lt) (hM : M < 2 ^ 40) (hs : Bnd M s) (hz : ts.length ≤ 900) :
    FC (GW d) c ℓ H 303 [.ref lb, .ref lt] (P_c_law_given lb s lt ts H) := by
  refine fc_def ["box", "told"] [("told", .ref lt), ("box", .ref lb)] ok (by exact rfl) (by kernel_rfl) rfl rfl (fun s vs h => ?hb) (by kernel_rfl) (by decide +kernel) (fun L g ok' => ?hw)
  case hb =>
    obtain ⟨u0, u1, rfl⟩ := len2 h
    exact BindsTo.of_eq rfl
  clear ok
  refine ts_range1 (J1_c_law_given lb lt H M ts s) (by assumption) b_range ?_
  repeat k_updF
  refine ⟨by (first | lia | omega), ⟨s, ts, ⟨rfl, rfl, trivial⟩, hb, ht, fun _ _ _ _ h => h, hs, by (first | lia | omega), rfl, rfl⟩, ?_, ?_⟩
  · rintro i ℓ₁ H₂ hi ⟨⟨a, b, c', d'⟩, ts', hℓ, hb2, ht2, hfr, hbn, hlen, e1, e2⟩
    have hi' : i < 60 := by (first | lia | omega)
    refine ts_weakenC ?_ hℓ
    obtain ⟨q1, q2, q3, q4⟩ := id hbn
    simp only at q1 q2 q3 q4
    obtain ⟨k, hk⟩ : ∃ k, 60 - i = k + 1 := ⟨60 - i - 1, by (first | lia | omega)⟩
    rw [hk] at e1 e2
    have hb2' : H₂ lb = some (.list [.int a, .int b, .int c', .int d']) := hb2
    refine ts_un4 (by assumption) ?_ (by exact rfl) (by exact rfl) (by exact rfl) (by exact rfl) (by exact rfl) (by exact rfl)
    repeat k_updF
    refine ⟨lb, _, _, _, _, rfl, .inr (.inl hb2'), ?_⟩
    refine ts_if ?_
    refine TT.mono (Q := fun t H' => H' = H₂ ∧ if t = true then (c' * (c' + d') ≤ 0 ∨ a.fdiv c' ≠ (a + b).fdiv (c' + d')) else ¬ (c' * (c' + d') ≤ 0 ∨ a.fdiv c' ≠ (a + b).fdiv (c' + d'))) ?_ ?_
    · repeat k_updF
      refine ⟨mulOk_small (by (first | lia | omega)), ?_⟩
      repeat k_updF
      refine if_le (fun h => ?_) (fun h => ?_)
      · exact ⟨rfl, if_tt (.inl h)⟩
      · have c0 : c' ≠ 0 := fun e => h (by rw [e, Int.zero_mul]; exact Int.le_refl _)
        have d0 : c' + d' ≠ 0 := fun e => h (by rw [e, Int.mul_zero]; exact Int.le_refl _)
        repeat k_updF
        refine ⟨c0, log_smallI (by (first | lia | omega)), ?_⟩
        repeat k_updF
        refine ⟨d0, log_smallI (by (first | lia | omega)), ?_⟩
        refine ⟨_, _, rfl, rfl, rfl, ?_⟩
        refine if_ne (fun h' => .inr h') (fun h' => ?_)
        rintro (x | x)
        · exact h x
        · exact x h'
    · rintro t H' ⟨e, ht'⟩; rw [e]; clear e H'
      cases t with
      | true =>
        rw [if_pos rfl] at ht' ⊢
        refine ts_return0 ?_
        have g1 : giv (k + 1) (a, b, c', d') = ([], (a, b, c', d')) := by rw [giv, if_pos ht']
        rw [g1] at e1 e2
        rw [List.append_nil] at e1
        exact ⟨by rw [e2]; exact hb2, by rw [e1]; exact ht2, hfr⟩
      | false =>
        rw [if_neg (by decide)] at ht' ⊢
        obtain ⟨c0, d0, hbn'⟩ := hbn.step ht'
        have g1 : giv (k + 1) (a, b, c', d') = (a.fdiv c' :: (giv k (c', d', a - a.fdiv c' * c', b - a.fdiv c' * d')).1, (giv k (c', d', a - a.fdiv c' * c', b - a.fdiv c' * d')).2) := by rw [giv, if_neg ht']
        rw [g1] at e1 e2
        repeat k_updF
        refine ⟨c0, log_smallI (by (first | lia | omega)), ?_⟩
        refine ⟨_, ht2, by rw [intL_len]; (first | lia | omega), ?_⟩
        have hb3 : upd H₂ lt (.list (intL ts' ++ [.int (a.fdiv c')])) lb = some (.list [.int a, .int b, .int c', .int d']) := by rw [upd_ne hne]; exact hb2'
        have ht3 : upd H₂ lt (.list (intL ts' ++ [.int (a.fdiv c')])) lt = some (.list (intL ts' ++ [.int (a.fdiv c')])) := upd_self
        have hfr3 : ∀ x p, x ≠ lb → x ≠ lt → H x = some p → upd H₂ lt (.list (intL ts' ++ [.int (a.fdiv c')])) x = some p := fun x p n1 n2 e => by rw [upd_ne n2]; exact hfr x p n1 n2 e
        generalize upd H₂ lt (.list (intL ts' ++ [.int (a.fdiv c')])) = H₃ at *
        refine ts_unpack ?_ (by rfl) (by rfl) (by rfl)
        have hqa : (a.fdiv c').natAbs < 2 ^ 60 := fdiv_small c0 (Nat.lt_of_le_of_lt q1 hM) (Nat.lt_of_le_of_lt q3 hM)
        repeat k_updF
        refine ⟨c0, log_smallI (by (first | lia | omega)), ?_⟩
        repeat k_updF
        refine ⟨mulOk_small hqa, ?_⟩
        repeat k_updF
        refine ⟨c0, log_smallI (by (first | lia | omega)), ?_⟩
        repeat k_updF
        refine ⟨mulOk_small hqa, ?_⟩
        repeat k_updF
        refine ⟨Nat.le_of_ble_eq_true rfl, fun t ht => ?_⟩
        have htb : lb ≠ t := fun e => by rw [e, ht] at hb3; cases hb3
        have htl : lt ≠ t := fun e => by rw [e, ht] at ht3; cases ht3
        have htH : H t = none := by
          cases e : H t with
          | none => rfl
          | some p => rw [hfr3 t p (Ne.symm htb) (Ne.symm htl) e] at ht; cases ht
        refine ⟨t, _, rfl, .inl upd_self, rfl, ?_⟩
        have hb4 : upd H₃ t (.tup [.int c', .int d', .int (a - a.fdiv c' * c'), .int (b - a.fdiv c' * d')]) lb = some (.list [.int a, .int b, .int c', .int d']) := by rw [upd_ne htb]; exact hb3
        have ht4 : upd H₃ t (.tup [.int c', .int d', .int (a - a.fdiv c' * c'), .int (b - a.fdiv c' * d')]) lt = some (.list (intL ts' ++ [.int (a.fdiv c')])) := by rw [upd_ne htl]; exact ht3
        have hfr4 : ∀ x p, x ≠ lb → x ≠ lt → H x = some p → upd H₃ t (.tup [.int c', .int d', .int (a - a.fdiv c' * c'), .int (b - a.fdiv c' * d')]) x = some p := fun x p n1 n2 e => by
          have : x ≠ t := fun z => by rw [z, htH] at e; cases e
          rw [upd_ne this]; exact hfr3 x p n1 n2 e
        generalize upd H₃ t (.tup [.int c', .int d', .int (a - a.fdiv c' * c'), .int (b - a.fdiv c' * d')]) = H₄ at *
        refine to_item ?_
        repeat k_updF
        refine ⟨lb, 0, _, rfl, rfl, hb4, by (first | lia | omega), by (first | lia | omega), by simp, ?_⟩
        refine to_item ?_
        repeat k_updF
        refine ⟨lb, 1, _, rfl, rfl, upd_self, by (first | lia | omega), by (first | lia | omega), by simp, ?_⟩
        refine to_item ?_
        repeat k_updF
        refine ⟨lb, 2, _, rfl, rfl, upd_self, by (first | lia | omega), by (first | lia | omega), by simp, ?_⟩
        refine to_item ?_
        repeat k_updF
        refine ⟨lb, 3, _, rfl, rfl, upd_self, by (first | lia | omega), by (first | lia | omega), by simp, ?_⟩
        refine to_nil ?_
        repeat k_updF
        refine ⟨(c', d', a - a.fdiv c' * c', b - a.fdiv c' * d'), ts' ++ [a.fdiv c'], ⟨rfl, rfl, trivial⟩, upd_self, ?_, ?_, hbn', by simp; (first | lia | omega), ?_, ?_⟩
        · rw [upd_ne (Ne.symm hne), upd_ne (Ne.symm hne), upd_ne (Ne.symm hne), upd_ne (Ne.symm hne), ht4]
          simp [intL]
        · intro x p n1 n2 e
          rw [upd_ne n1, upd_ne n1, upd_ne n1, upd_ne n1]; exact hfr4 x p n1 n2 e
        · rw [e1, show 60 - (i + 1) = k from by (first | lia | omega), List.append_assoc]; rfl
        · rw [e2, show 60 - (i + 1) = k from by (first | lia | omega)]
  · rintro ℓ₁ H₂ ⟨s', ts', hℓ, hb2, ht2, hfr, hbn, hlen, e1, e2⟩
    refine ts_weaken ?_ hℓ
    repeat k_updF
    rw [show 60 - Int.toNat 60 = 0 from rfl, giv] at e1 e2
    rw [List.append_nil] at e1
    exact ⟨by rw [e2]; exact hb2, by rw [e1]; exact ht2, hfr⟩

/-- a tree, some objects sure to lie in the frame -/
noncomputable def XT {α : Type} (G : Glo) (c : Cx) (fz : List (Addr × Obj)) (ℓ : Loc) (H : Hp) (t : Sem α) (Q : α → Hp → Prop) : Prop :=
  ∀ fr s m news, (∀ q ∈ fz, q ∈ fr) → St c ℓ H fr s m news → wpAny (model G.prog G.w) c.A t (fun a s' => ∃ H', Out c ℓ H' fr s s' ∧ Q a H') (fun _ _ => False) s
theorem XT.seq {α : Type} {G : Glo} {c : Cx} {fz : List (Addr × Obj)} {ℓ : Loc} {H : Hp} {fr s m news} {t : Sem α} {Q : α → Hp → Prop} (hz : ∀ q ∈ fz, q ∈ fr) (S : St c ℓ H fr s m news) (h : XT G c fz ℓ H t Q) {R : α → Shared → Prop}
    (k : ∀ a s' H' m' news', (∃ h tk, s' = { s with heap := h, toks := tk }) → St c ℓ H' fr s' m' news' → Q a H' → R a s') : wpAny (model G.prog G.w) c.A t R (fun _ _ => False) s :=
  wpAny_mono (h fr s m news hz S) (fun a s' ⟨H', ⟨e, m', news', S'⟩, x⟩ => k a s' H' m' news' e S' x) fun _ _ x => x
noncomputable def XE (G : Glo) (c : Cx) (fz : List (Addr × Obj)) (env : Env) (ℓ : Loc) (H : Hp) (e : Expr) (Q : PV → Hp → Prop) : Prop := XT G c fz ℓ H (eval e env) fun v => Q (pv v)
noncomputable def XA (G : Glo) (c : Cx) (fz : List (Addr × Obj)) (env : Env) (ℓ : Loc) (H : Hp) (pos : Pos) (es : List Expr) (Q : List PV → Hp → Prop) : Prop := XT G c fz ℓ H (spliced (backTo pos (starEach es env))) fun vs => Q (vs.map pv)
section
variable {G : Glo} {c : Cx} {fz : List (Addr × Obj)} {env : Env} {ℓ : Loc} {H : Hp} {Q : PV → Hp → Prop} {r : Nat} {pos : Pos}
theorem xe_int {i : Int} {k : Nat} (h : Q (.int i) H) : XE G c fz env ℓ H (.Constant (.int i) k pos) Q := fun fr s m news _ S =>
  wpAny_Constant_int ⟨H, ⟨⟨_, _, rfl⟩, _, _, S.toks _⟩, h⟩
theorem xe_binop {l r : Expr} {op : Operator} (h : XE G c fz env ℓ H l fun a H₁ => XE G c fz env ℓ H₁ r fun b H₂ => ∀ u v, pv u = a → pv v = b → Vx G c ℓ H₂ (binaryOp op u v) Q) : XE G c fz env ℓ H (.BinOp l op r pos) Q := fun fr s m news hz S => by
  refine wpAny_BinOp (XT.seq hz S h fun u s₁ H₁ m₁ n₁ e₁ S₁ h₁ => XT.seq hz S₁ h₁ fun v s₂ H₂ m₂ n₂ e₂ S₂ h₂ => Tx.seq S₂ (h₂ u v rfl rfl) fun x s₃ H₃ m₃ n₃ e₃ S₃ h₃ => ?_)
  obtain ⟨_, _, rfl⟩ := e₁; obtain ⟨_, _, rfl⟩ := e₂; obtain ⟨_, _, rfl⟩ := e₃
  exact ⟨H₃, ⟨⟨_, _, rfl⟩, _, _, S₃⟩, h₃⟩
theorem xe_mono {e : Expr} {Q' : PV → Hp → Prop} (h : XE G c fz env ℓ H e Q) (q : ∀ a H', Q a H' → Q' a H') : XE G c fz env ℓ H e Q' := fun fr s m news hz S =>
  wpAny_mono (h fr s m news hz S) (fun a s' ⟨H', o, x⟩ => ⟨H', o, q _ H' x⟩) fun _ _ x => x
theorem xe_sub {l r : Expr} (h : XE G c fz env ℓ H l fun a H₁ => XE G c fz env ℓ H₁ r fun b H₂ => ∃ x y, a = .int x ∧ b = .int y ∧ Q (.int (x - y)) H₂) : XE G c fz env ℓ H (.BinOp l .Sub r pos) Q :=
  xe_binop (xe_mono h fun a H₁ h₁ => xe_mono h₁ fun b H₂ ⟨x, y, ea, eb, q⟩ u v eu ev => by
    subst ea eb
    obtain ⟨t, rfl⟩ := pv_int eu; obtain ⟨t', rfl⟩ := pv_int ev
    exact fun fr s m n S => sub_int ⟨_, ⟨⟨_, _, rfl⟩, _, _, S.toks _⟩, q⟩)
theorem xa_nil {Q : List PV → Hp → Prop} (h : Q [] H) : XA G c fz env ℓ H pos [] Q := fun fr s m n _ S => args_nil ⟨H, .refl S, h⟩
theorem xa_cons {e : Expr} {rest : List Expr} {Q : List PV → Hp → Prop} (h : XE G c fz env ℓ H e fun v H₁ => XA G c fz env ℓ H₁ pos rest fun vs H₂ => Q (v :: vs) H₂) (he : starEach (e :: rest) env = (false, eval e env) :: starEach rest env) :
    XA G c fz env ℓ H pos (e :: rest) Q := fun fr s m n hz S =>
  args_cons (XT.seq hz S h fun u s₁ H₁ m₁ n₁ e₁ S₁ h₁ => XT.seq hz S₁ h₁ fun v s₂ H₂ m₂ n₂ e₂ S₂ h₂ => by
    obtain ⟨_, _, rfl⟩ := e₁; obtain ⟨_, _, rfl⟩ := e₂
    exact ⟨_, ⟨⟨_, _, rfl⟩, _, _, S₂⟩, h₂⟩) he
theorem xe_tuple {es : List Expr} {k : Nat} (h : XA G c fz env ℓ H pos es fun vs H₁ => vs.length ≤ 1000 ∧ ∀ a, H₁ a = none → Q (.ref a) (upd H₁ a (.tup vs))) : XE G c fz env ℓ H (.Tuple es k pos) Q := fun fr s m n hz S =>
  Tuple_ (XT.seq hz S h fun vs s₁ H₁ m₁ n₁ e₁ S₁ h₁ => by
    obtain ⟨_, _, rfl⟩ := e₁
    exact newTuple_N S₁.F S₁.N (fun h' F' N' => ⟨_, ⟨⟨h', _, rfl⟩, _, _, S₁.alloc (p := .tup (vs.map pv)) (Nat.le_refl _) F' N' ⟨vs, 0, rfl, rfl⟩⟩, h₁.2 _ (S₁.none_of_size (Nat.le_refl _))⟩) (by
      have := h₁.1; simp only [List.length_map] at this; show _ ≤ 2 ^ 24; (first | lia | omega)))
theorem xe_list {es : List Expr} (h : XA G c fz env ℓ H pos es fun vs H₁ => vs.length ≤ 1000 ∧ ∀ a, H₁ a = none → Q (.ref a) (upd H₁ a (.list vs))) : XE G c fz env ℓ H (.List es pos) Q := fun fr s m n hz S =>
  List_ (XT.seq hz S h fun vs s₁ H₁ m₁ n₁ e₁ S₁ h₁ => by
    obtain ⟨_, _, rfl⟩ := e₁
    exact newList_N S₁.F S₁.N (fun h' F' N' => ⟨_, ⟨⟨h', _, rfl⟩, _, _, S₁.alloc (p := .list (vs.map pv)) (Nat.le_refl _) F' N' ⟨vs, 0, rfl, rfl⟩⟩, h₁.2 _ (S₁.none_of_size (Nat.le_refl _))⟩) (by
      have := h₁.1; simp only [List.length_map] at this; show _ ≤ 2 ^ 24; (first | lia | omega)))
theorem xe_loc {x : Str} {C : Addr} {oC : Obj} {m₂ : Str → Option Value} {v : Value} (hz : (C, oC) ∈ fz) (hn : LCg.NsObj oC m₂) (hv : m₂ x = some v) (h : Q (pv v) H) (hk : env.scope.kind = .function) (hx : env.kindOf x = some .local) (hL : env.locals = C) (hd : (x == ("__debug__" : Str)) = false) :
    XE G c fz env ℓ H (.Name x pos) Q := fun fr s m news hzf S => by
  subst hL
  exact wpAny_Name (wpAny_loadName_local hk hx (hn.ns (S.N _ (S.fs _ (hzf _ hz))).1) hv ⟨H, .refl S, h⟩) hd
theorem xe_cell {x : Str} {a : Addr} {v : PV} (ha : H a = some (.cell v)) (h : Q v H) (hk : env.scope.kind = .function) (hx : env.kindOf x = some .cell) (hc : env.cells.lookup x = some a) (hd : (x == ("__debug__" : Str)) = false) :
    XE G c fz env ℓ H (.Name x pos) Q := fun fr s m news hzf S => by
  obtain ⟨o, ⟨u, e, eu⟩, hm⟩ := S.mem ha (fun _ e => by cases e)
  subst eu
  exact wpAny_Name (wpAny_loadName_cell hk hx hc ⟨o, S.N.get hm, e⟩ ⟨H, .refl S, h⟩) hd
theorem xe_call {x : Str} {np : Pos} {fa : Addr} {e : Expr} {rest : List Expr} (ok : c.Ok G r) (hk : keepIn G.K (.ref fa) = true) (g : nsIn G.K mainGlobals x = some (some (.ref fa)))
    (h : XA G c fz env ℓ H pos (e :: rest) fun vs H₂ => FC G c ℓ H₂ fa vs Q)
    (hs : env.scope.kind = .function) (hx : env.kindOf x = some .globalImplicit) (hgl : env.globals = mainGlobals) (hd : (x == ("__debug__" : Str)) = false)
    (he : starEach (e :: rest) env = (false, eval e env) :: starEach rest env) (hplain : (backTo pos (starEach rest env)).any (·.1) = false) :
    XE G c fz env ℓ H (.Call (.Name x np) (e :: rest) [] pos) Q := fun fr s m n hz S =>
  Call_ (Name_function_global hs hx (loadGlobal_global (by rw [hgl]; exact (topRead_of ok.T).g.keeps S.F.keep) (mg_of ok.X (topRead_of ok.T).g g) (by
    refine callWith_K ok.X hk (XT.seq hz S h fun vs s₂ H₂ m₂ n₂ e₂ S₂ h₂ => ⟨ok.X.keeps S₂.F.keep, Tx.seq S₂ (h₂ vs rfl) fun v s₃ H₃ m₃ n₃ e₃ S₃ h₃ => ?_⟩) he hplain
    obtain ⟨_, _, rfl⟩ := e₂; obtain ⟨_, _, rfl⟩ := e₃
    exact ⟨_, ⟨⟨_, _, rfl⟩, _, _, S₃⟩, h₃⟩)) hd)
end

section
variable {G : Glo} {c : Cx} {fz : List (Addr × Obj)} {env : Env} {ℓ : Loc} {H : Hp} {Q : PV → Hp → Prop} {r : Nat} {pos : Pos}
theorem xe_nameB {x : Str} {v : Value} {fr s m news} {R : Value → Shared → Prop} (ok : c.Ok G r) (S : St c ℓ H fr s m news) (e : nsIn G.K mainGlobals x = some none) (hv : bootBuiltins x = some v) (hn : x ≠ "__name__") (h : R v s)
    (hs : env.scope.kind = .function) (hx : env.kindOf x = some .globalImplicit) (hgl : env.globals = mainGlobals) (hbl : env.builtins = builtinsNs) (hd : (x == ("__debug__" : Str)) = false) : wpAny (model G.prog G.w) c.A (eval (.Name x pos) env) R (fun _ _ => False) s :=
  Name_function_global hs hx (loadGlobal_builtin (by rw [hgl]; exact (topRead_of ok.T).g.keeps S.F.keep) (mg_none_of ok.X (topRead_of ok.T).g e) (by rw [hbl]; exact (topRead_of ok.T).b.keeps S.F.keep) (((topRead_of ok.T).builtins x hn).trans hv) h) hd
theorem xe_int1 {np : Pos} {e : Expr} (ok : c.Ok G r) (hb : nsIn G.K mainGlobals "int" = some none) (h : XE G c fz env ℓ H e fun a H₁ => ∃ z, a = .int z ∧ Q (.int z) H₁)
    (hs : env.scope.kind = .function) (hx : env.kindOf "int" = some .globalImplicit) (hgl : env.globals = mainGlobals) (hbl : env.builtins = builtinsNs)
    (he : starEach [e] env = (false, eval e env) :: starEach [] env) (hplain : (backTo pos (starEach [] env)).any (·.1) = false) :
    XE G c fz env ℓ H (.Call (.Name "int" np) [e] [] pos) Q := fun fr s m n hz S =>
  Call_ (xe_nameB ok S hb (by boot_fast) (by decide) (by
    exact callWith_type1 (args_cons (XT.seq hz S h fun u s₁ H₁ m₁ n₁ e₁ S₁ h₁ => args_nil (by
      obtain ⟨_, _, rfl⟩ := e₁
      obtain ⟨z, eu, q⟩ := h₁
      obtain ⟨t, rfl⟩ := pv_int eu
      exact call_int_int ⟨_, ⟨⟨_, _, rfl⟩, _, _, S₁⟩, q⟩)) he) he hplain) hs hx hgl hbl (by decide))
theorem xe_abs {np : Pos} {e : Expr} (ok : c.Ok G r) (hb : nsIn G.K mainGlobals "abs" = some none) (h : XE G c fz env ℓ H e fun a H₁ => ∃ z, a = .int z ∧ Q (.int (if z < 0 then -z else z)) H₁)
    (hs : env.scope.kind = .function) (hx : env.kindOf "abs" = some .globalImplicit) (hgl : env.globals = mainGlobals) (hbl : env.builtins = builtinsNs)
    (he : starEach [e] env = (false, eval e env) :: starEach [] env) (hplain : (backTo pos (starEach [] env)).any (·.1) = false) :
    XE G c fz env ℓ H (.Call (.Name "abs" np) [e] [] pos) Q := fun fr s m n hz S =>
  Call_ (xe_nameB ok S hb (by boot_fast) (by decide) (by
    exact callWith_builtin1 (args_cons (XT.seq hz S h fun u s₁ H₁ m₁ n₁ e₁ S₁ h₁ => args_nil (by
      obtain ⟨_, _, rfl⟩ := e₁
      obtain ⟨z, eu, q⟩ := h₁
      obtain ⟨t, rfl⟩ := pv_int eu
      exact call_abs_int fun u tk => ⟨_, ⟨⟨_, _, rfl⟩, _, _, S₁.toks _⟩, q⟩)) he) he hplain) hs hx hgl hbl (by decide))
end

theorem upd_upd {H : Hp} {a : Addr} {p q : PO} : upd (upd H a p) a q = upd H a q := by
  funext b
  by_cases h : b = a
  · subst h; rw [upd_self, upd_self]
  · rw [upd_ne h, upd_ne h, upd_ne h]
section
variable {G : Glo} {c : Cx} {ℓ : Loc} {H : Hp}
theorem St.put2 {fr s m news} {a : Addr} {xs : List PV} {o' : Obj} {p : PO} {h' : Heap} {tk : Nat} (S : St c ℓ H fr s m news) (h : H a = some (.list xs)) (hs : Heap.SameBut a s.heap h') (ho : h'.get? a = some o') (hp : oIs o' p) :
    St c ℓ (upd H a p) fr { s with heap := h', toks := tk } m (news.map fun q => if q.1 = a then (a, o') else q) := by
  obtain ⟨o, x, hm⟩ := S.mem h (fun _ e => by cases e)
  refine ⟨S.F.update S.N hm hs, S.N.update hm hs ho, S.l, fun b q eb => ?_, S.bs, fun q hq => ?_, fun q hq => ?_⟩
  · by_cases hb : b = a
    · subst hb; rw [upd_self] at eb; cases eb
      exact ⟨o', hp, .inl (List.mem_map.mpr ⟨_, hm, by simp⟩)⟩
    · rw [upd_ne hb] at eb
      obtain ⟨o, x, hm'⟩ := S.h _ _ eb
      exact ⟨o, x, hm'.imp (fun hm' => List.mem_map.mpr ⟨_, hm', by simp [hb]⟩) id⟩
  · have : q.1 ≠ a := fun e => by
      rcases S.ap q hq with z | ⟨ys, z⟩ <;> (rw [e, h] at z; cases z)
    exact List.mem_map.mpr ⟨q, S.fs q hq, by simp [this]⟩
  · have : q.1 ≠ a := fun e => by
      rcases S.ap q hq with z | ⟨ys, z⟩ <;> (rw [e, h] at z; cases z)
    rw [upd_ne this]; exact S.ap q hq
theorem ns_not_ro {o : Obj} {m₂ : Str → Option Value} (h : LCg.NsObj o m₂) (xs : List PV) : ¬ oIs o (.ro xs) := fun ⟨vs, k, e, _⟩ => by
  obtain ⟨es, ep, hd, _⟩ := h
  rw [e] at hd; cases hd

theorem comp_core {elt iter : Expr} {x : Str} {px : Pos} {scope : Scope} {cl : List (Str × Addr)} {pos : Pos} {I : Addr} {fp : List Addr} {n : Nat} {P : Nat → Value → Prop} {Wst : Nat → Heap → Prop} {src : List (Addr × Obj)} {RR : Value → Addr → Result → Shared → Prop}
    (J : Nat → List PV → Addr → Hp → Prop) {fr s₂ m news} (S : St c ℓ H fr s₂ m news) (W : Walks G.prog G.w c.A I fp [I] n P Wst) (hn : n ≤ 1000)
    (hIL : c.L ≠ I) (hI₀ : c.h₀.get? I = none) (hIn : ∀ p ∈ news, p.1 ≠ I) (hfp : ∀ b ∈ fp, b < s₂.heap.objs.size)
    (hsrc : ∀ b ∈ fp, b = I ∨ ∃ o, (b, o) ∈ src) (hsn : ∀ q ∈ src, q ∈ news) (hro : ∀ q ∈ src, ∀ i ys D H', J i ys D H' → ∃ xs, H' q.1 = some (.ro xs))
    (hst : Wst 0 s₂.heap) (hIo : ∀ i h, Wst i h → ∃ o, h.get? I = some o ∧ ∀ xs, ¬ oIs o (.ro xs))
    (hcell : ∀ y ∈ scope.names, y.2 ≠ .cell) (hkind : scope.kind = .function) (hx : scope.names.lookup x = some .local)
    (h0 : ∀ D, H D = none → J 0 [] D (upd H D (.list [])))
    (hD : ∀ i ys D H', J i ys D H' → H' D = some (.list ys))
    (turn : ∀ i v ys H₁ C oC m₂ D, i < n → ys.length = i → P i v → J i ys D H₁ → LCg.NsObj oC m₂ → m₂ x = some v → XE G c [(C, oC)] (compEnvC scope cl C c.env) ℓ (upd H₁ D (.ro ys)) elt fun y H₂ => H₂ D = some (.ro ys) ∧ J (i + 1) (ys ++ [y]) D (upd H₂ D (.list (ys ++ [y]))))
    (hRR : ∀ ys H₁ D C h tk m' m₂ news', J n ys D H₁ → ys.length = n → St c ℓ H₁ fr { s₂ with heap := h, toks := tk } m' news' → h.Ns C m₂ → C ≠ c.L → c.h₀.get? C = none → (∀ p ∈ news', p.1 ≠ C) → RR (.ref D) C (.ok .next) { s₂ with heap := h, toks := tk }) :
    wpAny (model G.prog G.w) c.A (newList []) (fun acc s₃ => wpAny (model G.prog G.w) c.A (newFunctionEnv scope c.env.globals cl [] c.env.qual none .none (some c.env)) (fun cenv s₄ =>
      codeAny (model G.prog G.w) c.A (.compStart (.ListComp elt [⟨.Name x px, iter, [], 0⟩] scope pos) 0 (.ref I) acc { cenv with scope := relabel scope c.env }) (RR acc cenv.locals) s₄) (fun _ _ => False) s₃) (fun _ _ => False) s₂ := by
  refine wpAny_newObj_type (wpAny_newFunctionEnv hcell (by intro y hy; simp at hy) (fun h₁ hns₁ hsb₁ => ?_) hkind)
  dsimp only at hns₁ hsb₁ ⊢
  generalize hH2 : s₂.heap.push { cls := .type "list", dict := none, data := .seq ([] : List Value).toArray } = H2 at hns₁ hsb₁ ⊢
  obtain ⟨D, hDe⟩ : ∃ D, D = s₂.heap.objs.size := ⟨_, rfl⟩
  obtain ⟨C, hCe⟩ : ∃ C, C = H2.objs.size := ⟨_, rfl⟩
  have hC : C = D + 1 := by rw [hCe, ← hH2, Heap.size_push, hDe]
  have hDC : D ≠ C := by rw [hC]; exact Nat.ne_of_lt (Nat.lt_succ_self _)
  have below : ∀ b, b < s₂.heap.objs.size → b ≠ C ∧ b ≠ D := fun b hb => by
    rw [← hDe] at hb
    exact ⟨by rw [hC]; exact Nat.ne_of_lt (Nat.lt_succ_of_lt hb), Nat.ne_of_lt hb⟩
  rw [← hCe] at hns₁ hsb₁ ⊢
  rw [← hDe]
  have old : ∀ b o, s₂.heap.get? b = some o → h₁.get? b = some o := fun b o e => hsb₁.extBut b o (below b (Heap.lt_size e)).1 (by rw [← hH2]; exact Heap.get?_push_of_some _ (Heap.get?_push_of_some _ e))
  have hacc : h₁.get? D = some (listObj [] 0) := hsb₁.extBut _ _ hDC (by rw [← hH2, hDe]; exact Heap.get?_push_of_some _ (Heap.get?_push_size _ rfl))
  have hIf : I ∈ fp := W.sub I (List.mem_singleton.mpr rfl)
  have hDf : D ∉ fp := fun hm => (below D (hfp _ hm)).2 rfl
  have hCf : C ∉ fp := fun hm => (below C (hfp _ hm)).1 rfl
  have hCI : I ≠ C := (below I (hfp _ hIf)).1
  have hDI : I ≠ D := (below I (hfp _ hIf)).2
  have hst₁ : Wst 0 h₁ := W.frame _ _ _ hst fun b _ o e => old b o e
  have fresh : ∀ a, s₂.heap.objs.size ≤ a → s₂.heap.get? a = none := fun a ha => by
    cases e : s₂.heap.get? a with
    | none => rfl
    | some o' => exact absurd (Heap.lt_size e) (Nat.not_lt.mpr ha)
  have fresh₀ : ∀ a, s₂.heap.objs.size ≤ a → c.h₀.get? a = none := fun a ha => by
    cases e : c.h₀.get? a with
    | none => rfl
    | some o' => have := S.F.keep a o' e; rw [fresh a ha] at this; cases this
  have hD₀ : c.h₀.get? D = none := fresh₀ _ (by rw [hDe]; exact Nat.le_refl _)
  have hC₀ : c.h₀.get? C = none := fresh₀ _ (by rw [hC, hDe]; exact Nat.le_succ _)
  have hLlt : c.L < s₂.heap.objs.size := S.F.ns.lt
  have hDL : D ≠ c.L := Ne.symm (below c.L hLlt).2
  have hCL : C ≠ c.L := Ne.symm (below c.L hLlt).1
  have hHD : H D = none := S.none_of_size (by rw [hDe]; exact Nat.le_refl _)
  have N₁ : News c.h₀ c.L h₁ ((D, listObj [] 0) :: news) := fun p hp => by
    rcases List.mem_cons.mp hp with rfl | hp
    · exact ⟨hacc, hDL, hD₀⟩
    · exact ⟨old _ _ (S.N p hp).1, (S.N p hp).2⟩
  have Sa := S.alloc (a := D) (p := .list []) (tk := s₂.toks + ([] : List (Str × Value)).length) (by rw [hDe]; exact Nat.le_refl _) (S.F.keeps old) N₁ ⟨[], 0, rfl, rfl⟩
  have loop : ∀ s₃ : Shared, s₃ = { s₂ with heap := h₁, toks := s₂.toks + ([] : List (Str × Value)).length } →
      codeAny (model G.prog G.w) c.A (.compLoop (.ListComp elt [⟨.Name x px, iter, [], 0⟩] scope pos) 0 (.ref I) (.ref D) (compEnvC scope cl C c.env)) (RR (.ref D) C) s₃ := by
    rintro s₃ rfl
    refine codeAny_compLoop_tests
      (fun k s' => ∃ h' tk i ys m' m₂ news' H₁, s' = { s₂ with heap := h', toks := tk } ∧ i ≤ n ∧ k = n + 1 - i ∧ ys.length = i ∧ Wst i h' ∧ St c ℓ H₁ fr s' m' news' ∧ h'.Ns C m₂ ∧
        (∀ p ∈ news', p.1 ≠ I ∧ p.1 ≠ C) ∧ (∀ q ∈ src, q ∈ news') ∧ J i ys D H₁) ?_ (n + 1)
      ⟨h₁, _, 0, [], _, _, _, _, rfl, Nat.zero_le _, rfl, rfl, hst₁, Sa, hns₁, fun p hp => ?_, fun q hq => List.mem_cons_of_mem _ (hsn q hq), h0 D hHD⟩
    · rintro k s' ⟨h', tk, i, ys, m', m₂, news', H₁, rfl, hi, rfl, hyl, hst', S', hn', off', hs', hJ⟩
      by_cases hlt : i < n
      · refine W.item i _ _ _ hlt hst' fun v h₂ tk₂ hPv hst₂ hk₂ => ?_
        refine wpAny_assign_Name (wpAny_storeName_local (lookup_relabel_local hx) (hn'.at' fun o e => hk₂ _ o (by simpa using Ne.symm hCI) e) (fun h₃ hn₃ hs₃ => ?_) (by simp [compEnvC, relabel, hkind]))
        refine wpAny_tests_nil ?_
        simp only [if_true]
        have hst₃ : Wst (i + 1) h₃ := W.frame _ _ _ hst₂ fun b hb o e => hs₃.extBut b o (fun q => hCf (by have q' : b = C := q; rw [← q']; exact hb)) e
        obtain ⟨oI, heI, hoI⟩ := hIo _ _ hst₃
        obtain ⟨oC, heC, hoC⟩ := LCg.ns_obj hn₃
        have F₃ : Fr c.h₀ c.L h₃ m' := (LCg.fr_but S'.F hk₂ hIL hI₀).change hs₃ hCL hC₀
        have N₂ : News c.h₀ c.L h₂ news' := LCg.news_but S'.N hk₂ fun p hp => (off' p hp).1
        have N₃ : News c.h₀ c.L h₃ ((C, oC) :: (I, oI) :: news') := fun p hp => by
          rcases List.mem_cons.mp hp with rfl | hp
          · exact ⟨heC, hCL, hC₀⟩
          · rcases List.mem_cons.mp hp with rfl | hp
            · exact ⟨heI, Ne.symm hIL, hI₀⟩
            · exact ⟨hs₃.extBut _ _ (off' p hp).2 (N₂ p hp).1, (N₂ p hp).2⟩
        have hnone : ∀ a, c.h₀.get? a = none → (∀ p ∈ news', p.1 ≠ a) → H₁ a = none := fun a ha ho => by
          cases e : H₁ a with
          | none => rfl
          | some p =>
            obtain ⟨o, _, hm | ⟨hm, _⟩⟩ := S'.h _ _ e
            · exact absurd rfl (ho _ hm)
            · have := S'.bs _ _ hm; rw [ha] at this; cases this
        have hJD := hD _ _ _ _ hJ
        have hID : I ≠ D := hDI
        have S₃ : St c ℓ (upd H₁ D (.ro ys)) ((C, oC) :: (I, oI) :: (src ++ fr)) { s₂ with heap := h₃, toks := tk₂ + 1 } m' ((C, oC) :: (I, oI) :: news') := by
          refine ⟨F₃, N₃, S'.l, fun a p e => ?_, S'.bs, fun q hq => ?_, fun q hq => ?_⟩
          · obtain ⟨o, x, hm⟩ := (S'.lock hJD (.inl rfl)).h a p e
            exact ⟨o, x, hm.imp (fun hm => .tail _ (.tail _ hm)) id⟩
          · rcases List.mem_cons.mp hq with rfl | hq
            · exact .head _
            · rcases List.mem_cons.mp hq with rfl | hq
              · exact .tail _ (.head _)
              · rcases List.mem_append.mp hq with hq | hq
                · exact .tail _ (.tail _ (hs' q hq))
                · exact .tail _ (.tail _ (S'.fs q hq))
          · rcases List.mem_cons.mp hq with rfl | hq
            · left; rw [upd_ne (Ne.symm hDC)]; exact hnone _ hC₀ fun p hp => (off' p hp).2
            · rcases List.mem_cons.mp hq with rfl | hq
              · left; rw [upd_ne hID]; exact hnone _ hI₀ fun p hp => (off' p hp).1
              · by_cases hqD : q.1 = D
                · exact .inr ⟨ys, by rw [hqD, upd_self]⟩
                · rw [upd_ne hqD]
                  rcases List.mem_append.mp hq with hq | hq
                  · exact .inr (hro q hq _ _ _ _ hJ)
                  · exact S'.ap q hq
        refine wpAny_mono (turn i v ys H₁ C oC _ D hlt hyl hPv hJ hoC (by simp) _ _ _ _ (fun q hq => by rw [List.mem_singleton.mp hq]; exact .head _) S₃) (fun y s₄ ⟨H₂, ⟨⟨h₄, tk₄, e₄⟩, m₄, news₄, S₄⟩, hD₂, hJ₂⟩ => ?_) fun _ _ e => e.elim
        subst e₄
        have fC : (C, oC) ∈ news₄ := S₄.fs _ (.head _)
        have fI : (I, oI) ∈ news₄ := S₄.fs _ (.tail _ (.head _))
        have zC := (S₄.N _ fC).1
        have zI := (S₄.N _ fI).1
        have S₅ : St c ℓ H₂ fr { s₂ with heap := h₄, toks := tk₄ } m₄ (news₄.filter fun p => decide (p.1 ≠ I ∧ p.1 ≠ C)) := by
          refine ⟨S₄.F, fun p hp => S₄.N p (List.mem_filter.mp hp).1, S₄.l, fun a p e => ?_, S₄.bs, fun q hq => ?_, fun q hq => S₄.ap q (.tail _ (.tail _ (List.mem_append_right _ hq)))⟩
          · obtain ⟨o, x, hm | hm⟩ := S₄.h _ _ e
            · refine ⟨o, x, .inl (List.mem_filter.mpr ⟨hm, decide_eq_true ⟨fun ha => ?_, fun ha => ?_⟩⟩)⟩
              · have ha : a = I := ha
                subst ha
                have := (S₄.N _ hm).1
                rw [zI] at this; cases this
                rcases S₄.ap _ (.tail _ (.head _)) with z | ⟨xs, z⟩ <;> (rw [e] at z; cases z)
                exact hoI _ x
              · have ha : a = C := ha
                subst ha
                have := (S₄.N _ hm).1
                rw [zC] at this; cases this
                rcases S₄.ap _ (.head _) with z | ⟨xs, z⟩ <;> (rw [e] at z; cases z)
                exact ns_not_ro hoC _ x
            · exact ⟨o, x, .inr hm⟩
          · exact List.mem_filter.mpr ⟨S₄.fs _ (.tail _ (.tail _ (List.mem_append_right _ hq))), decide_eq_true (off' q (S'.fs q hq))⟩
        have S₆ := St.unlock S' hJD (.inl rfl) S₅ hD₂
        obtain ⟨vs, j, hg, e⟩ := S₆.list (.inl upd_self)
        have hlen := len_of_map e
        refine append_at (its := vs.toArray) (n := j) hg (fun h₅ hs₅ hD₅ => ?_) (by rw [List.size_toArray, hlen, hyl]; show _ ≤ 2 ^ 24; (first | lia | omega))
        have S₇ := S₆.put2 (p := .list (ys ++ [pv y])) (o' := listObj (vs ++ [y]) (j + 1)) (tk := tk₄) upd_self hs₅ (by rw [hD₅]; simp [listObj]) ⟨_, _, rfl, by rw [List.map_append, e]; rfl⟩
        rw [upd_upd] at S₇
        refine ⟨n + 1 - (i + 1), by (first | lia | omega), h₅, tk₄, i + 1, ys ++ [pv y], m₄, _, _, _, rfl, hlt, rfl, by rw [List.length_append, List.length_singleton, hyl], ?_, S₇, (hoC.ns zC).sameBut hs₅ (Ne.symm hDC), fun p hp => ?_, fun q hq => ?_, hJ₂⟩
        · refine W.frame _ _ _ hst₃ fun b hb o e => ?_
          rcases hsrc b hb with rfl | ⟨o', hm⟩
          · rw [heI] at e; cases e
            exact hs₅.extBut _ _ hID zI
          · have z := (S₃.N _ (.tail _ (.tail _ (hs' _ hm)))).1
            rw [e] at z; cases z
            have z2 := (S₄.N _ (S₄.fs _ (.tail _ (.tail _ (List.mem_append_left _ hm))))).1
            refine hs₅.extBut _ _ (fun q => ?_) z2
            obtain ⟨xs, z3⟩ := hro _ hm _ _ _ _ hJ
            have q : b = D := q
            rw [show ((b, o') : Addr × Obj).1 = D from q, hJD] at z3; cases z3
        · obtain ⟨q, hq, rfl⟩ := List.mem_map.mp hp
          have := of_decide_eq_true (List.mem_filter.mp hq).2
          split
          · exact ⟨Ne.symm hID, hDC⟩
          · exact this
        · obtain ⟨xs, z3⟩ := hro _ hq _ _ _ _ hJ
          have hne : q.1 ≠ D := fun z => by rw [z, hJD] at z3; cases z3
          refine List.mem_map.mpr ⟨q, List.mem_filter.mpr ⟨S₄.fs _ (.tail _ (.tail _ (List.mem_append_left _ hq))), decide_eq_true (off' q (hs' q hq))⟩, by simp [hne]⟩
      · obtain rfl : i = n := Nat.le_antisymm hi (Nat.not_lt.mp hlt)
        refine W.done _ _ _ hst' fun h₂ tk₂ hk₂ => ?_
        exact hRR ys H₁ D C h₂ tk₂ m' _ news' hJ hyl (S'.grown (LCg.fr_but S'.F hk₂ hIL hI₀) (LCg.news_but S'.N hk₂ fun p hp => (off' p hp).1)) (hn'.at' fun o e => hk₂ _ o (by simpa using Ne.symm hCI) e) hCL hC₀ fun p hp => (off' p hp).2
    · rcases List.mem_cons.mp hp with rfl | hp
      · exact ⟨Ne.symm hDI, hDC⟩
      · exact ⟨hIn p hp, (below _ (Heap.lt_size (S.N p hp).1)).1⟩
  exact codeAny_compStart_list (loop _ rfl) (W.self 0 _ _ _ hst₁ (loop _ rfl))
end

section
variable {G : Glo} {c : Cx} {ℓ : Loc} {H : Hp} {r : Nat} {pos : Pos}
theorem St.butC {fr s m news} {C : Addr} {h' : Heap} {tk : Nat} (S : St c ℓ H fr s m news) (hs : Heap.SameBut C s.heap h') (hC₀ : c.h₀.get? C = none) (hCL : C ≠ c.L) (off : ∀ p ∈ news, p.1 ≠ C) : St c ℓ H fr { s with heap := h', toks := tk } m news :=
  ⟨S.F.change hs hCL hC₀, fun p hp => ⟨hs.extBut _ _ (off p hp) (S.N p hp).1, (S.N p hp).2⟩, S.l, S.h, S.bs, S.fs, S.ap⟩
/-- what a comprehension over a list must bring -/
noncomputable def CompL (G : Glo) (c : Cx) (ℓ : Loc) (scope : Scope) (cl : List (Str × Addr)) (x : Str) (elt : Expr) (v : PV) (H₁ : Hp) (Fin : PV → Hp → Prop) : Prop :=
  ∃ (J : Nat → List PV → Addr → Hp → Prop) (l : Addr) (xs : List PV), v = .ref l ∧ H₁ l = some (.list xs) ∧ xs.length ≤ 1000 ∧
    (∀ D, D ≠ l → H₁ D = none → J 0 [] D (upd (upd H₁ l (.ro xs)) D (.list []))) ∧ (∀ i ys D H', J i ys D H' → H' D = some (.list ys) ∧ H' l = some (.ro xs)) ∧
    (∀ i u ys H' C oC m₂ D, xs[i]? = some (pv u) → ys.length = i → J i ys D H' → LCg.NsObj oC m₂ → m₂ x = some u → XE G c [(C, oC)] (compEnvC scope cl C c.env) ℓ (upd H' D (.ro ys)) elt fun y H₂ => H₂ D = some (.ro ys) ∧ J (i + 1) (ys ++ [y]) D (upd H₂ D (.list (ys ++ [y])))) ∧
    (∀ ys D H', J xs.length ys D H' → ys.length = xs.length → Fin (.ref D) (upd H' l (.list xs)))
theorem compL_core {elt iter : Expr} {x : Str} {px : Pos} {scope : Scope} {cl : List (Str × Addr)} {v : Value} {Fin : PV → Hp → Prop} {RR : Value → Addr → Result → Shared → Prop} {fr s₁ m news} {H₁ : Hp}
    (S₁ : St c ℓ H₁ fr s₁ m news) (h : CompL G c ℓ scope cl x elt (pv v) H₁ Fin)
    (hcell : ∀ y ∈ scope.names, y.2 ≠ .cell) (hkind : scope.kind = .function) (hx : scope.names.lookup x = some .local)
    (hRR : ∀ D C h tk m' m₂ news' H', Fin (.ref D) H' → St c ℓ H' fr { s₁ with heap := h, toks := tk } m' news' → h.Ns C m₂ → C ≠ c.L → c.h₀.get? C = none → (∀ p ∈ news', p.1 ≠ C) → RR (.ref D) C (.ok .next) { s₁ with heap := h, toks := tk }) :
    wpAny (model G.prog G.w) c.A (pyIter v) (fun it s₂ => wpAny (model G.prog G.w) c.A (newList []) (fun acc s₃ => wpAny (model G.prog G.w) c.A (newFunctionEnv scope c.env.globals cl [] c.env.qual none .none (some c.env)) (fun cenv s₄ =>
      codeAny (model G.prog G.w) c.A (.compStart (.ListComp elt [⟨.Name x px, iter, [], 0⟩] scope pos) 0 it acc { cenv with scope := relabel scope c.env }) (RR acc cenv.locals) s₄) (fun _ _ => False) s₃) (fun _ _ => False) s₂) (fun _ _ => False) s₁ := by
  obtain ⟨J, l, xs, eu, hl, hz, j0, jd, turn, fin⟩ := h
  cases pv_ref eu
  obtain ⟨vs, k, hg, e⟩ := S₁.list (.inl hl)
  have hlen := len_of_map e
  obtain ⟨o, ho, hm⟩ := S₁.mem hl (fun _ e => by cases e)
  refine wpAny_pyIter_list (isList_of hg) ?_
  have hlt : l < s₁.heap.objs.size := Heap.lt_size hg
  have S₂ := (S₁.lock hl (.inl rfl)).pushAny (o := { cls := .type "list_iterator", data := .fields #[.ref l, .int 0 0] }) (tk := s₁.toks)
  have W := Walks.list (prog := G.prog) (w := G.w) (A := c.A) rfl s₁.heap.objs.size l (Nat.ne_of_lt hlt) vs.toArray
  have hsz : vs.toArray.size = xs.length := by simp [hlen]
  rw [hsz] at W
  refine comp_core (src := [(l, o)]) J S₂ W hz (Nat.ne_of_lt S₁.F.ns.lt) (next_is_new S₁.F) (fun p hp => Nat.ne_of_lt (Heap.lt_size (S₁.N p hp).1)) (fun b hb => ?_) (fun b hb => ?_) (fun q hq => by rw [List.mem_singleton.mp hq]; exact hm) (fun q hq i ys D H' hj => by rw [List.mem_singleton.mp hq]; exact ⟨xs, (jd _ _ _ _ hj).2⟩)
    ⟨⟨_, Heap.get?_push_size _ rfl, rfl, rfl⟩, (isList_of hg).push _⟩ (fun i h st => ?_) hcell hkind hx (fun D hD => ?_) (fun i ys D H' hj => (jd _ _ _ _ hj).1) (fun i u ys H' C oC m₂ D hi hyl hP hj hn hm' => ?_) (fun ys H' D C h tk m' m₂ news' hj hyl S' hn hCL hC₀ off => ?_)
  · show b < (s₁.heap.push _).objs.size
    rw [Heap.size_push]
    rcases List.mem_cons.mp hb with rfl | hb
    · exact Nat.lt_succ_self _
    · rw [List.mem_singleton.mp hb]; exact Nat.lt_succ_of_lt hlt
  · rcases List.mem_cons.mp hb with rfl | hb
    · exact .inl rfl
    · rw [List.mem_singleton.mp hb]; exact .inr ⟨o, List.mem_singleton.mpr rfl⟩
  · obtain ⟨⟨o', ho', hc, _⟩, _⟩ := st
    exact ⟨o', ho', fun xs ⟨vs, k, e, _⟩ => by rw [e] at hc; simp [listObj] at hc⟩
  · by_cases hDl : D = l
    · rw [hDl, upd_self] at hD; cases hD
    · rw [upd_ne hDl] at hD; exact j0 D hDl hD
  · refine turn i u ys H' C oC m₂ D ?_ hyl hj hn hm'
    have hv : vs[i]? = some u := by simpa using hP
    rw [← e, List.getElem?_map, hv]; rfl
  · exact hRR D C h tk m' m₂ news' _ (fin ys D H' hj hyl) (S₁.unlock hl (.inl rfl) S' (jd _ _ _ _ hj).2) hn hCL hC₀ off
theorem te_compL {elt iter : Expr} {x : Str} {px : Pos} {scope : Scope} (cl : List (Str × Addr)) {Q : PV → Hp → Prop} (h : TE G c ℓ H iter fun v H₁ => CompL G c ℓ scope cl x elt v H₁ Q)
    (hclos : closureFor scope c.env = pure cl) (hcell : ∀ y ∈ scope.names, y.2 ≠ .cell) (hkind : scope.kind = .function)
    (hnames : ∀ y ∈ scope.names, y.2 = .local → scope.names.lookup y.1 = some .local) (hx : scope.names.lookup x = some .local) (hs : ∀ x, foldedSetIterable iter c.env x = pure x) :
    TE G c ℓ H (.ListComp elt [⟨.Name x px, iter, [], 0⟩] scope pos) Q := fun fr s m n S => by
  rw [eval_ListComp]
  refine wpAny_comprehension_free (use := none) rfl hs hclos hkind hnames (Tx.seq S h fun u s₁ H₁ m₁ n₁ e₁ S₁ h₁ => ?_)
  refine compL_core S₁ h₁ hcell hkind hx fun D C h tk m' m₂ news' H' hf S' hn hCL hC₀ off => ?_
  exact ⟨m₂, hn, fun h'' hs'' => ⟨H', .of (same_trans e₁ ⟨h'', tk, rfl⟩) (S'.butC hs'' hC₀ hCL off), hf⟩⟩
theorem ts_compL {elt iter : Expr} {x y : Str} {px py : Pos} {scope : Scope} {spos : Pos} {rest : List Stmt} (cl : List (Str × Addr)) {Q : PF → Loc → Hp → Prop} (ok : c.Ok G r) (h : TE G c ℓ H iter fun v H₁ => CompL G c ℓ scope cl x elt v H₁ fun v H' => TS G c ((y, v) :: ℓ) H' rest Q)
    (hsw : swapsWith (.ListComp elt [⟨.Name x px, iter, [], 0⟩] scope pos) (some (.Name y py)) spos.line c.env = pure true)
    (hclos : closureFor scope c.env = pure cl) (hcell : ∀ y ∈ scope.names, y.2 ≠ .cell) (hkind : scope.kind = .function)
    (hnames : ∀ y ∈ scope.names, y.2 = .local → scope.names.lookup y.1 = some .local) (hx : scope.names.lookup x = some .local) (hy : c.env.kindOf y = some .local) (hs : ∀ x, foldedSetIterable iter c.env x = pure x) :
    TS G c ℓ H (.Assign [.Name y py] (.ListComp elt [⟨.Name x px, iter, [], 0⟩] scope pos) spos :: rest) Q := ts_cons fun fr s m n S => by
  rw [exec_Assign_Name_used _ _ _ _ hsw]
  refine wpAny_bind (wpAny_standAt (wpAny_bind ?_))
  show wpAny _ c.A (do let _ ← comprehension (.ListComp elt [⟨.Name x px, iter, [], 0⟩] scope pos) scope c.env _ (newList []) false (eval iter c.env) (some (assign (.Name y py) c.env))) _ _ s
  refine wpAny_bind (wpAny_mono (wpAny_comprehension_free (use := some (assign (.Name y py) c.env)) (Q := fun _ s' => ∃ ℓ' H', Out c ℓ' H' fr s s' ∧ Then G c rest Q .next ℓ' H') rfl hs hclos hkind hnames
    (Tx.seq S h fun u s₁ H₁ m₁ n₁ e₁ S₁ h₁ => ?_)) (fun _ s' hq => wpAny_pure (wpAny_pure hq)) fun _ _ e => e)
  refine compL_core S₁ h₁ hcell hkind hx fun D C h tk m' m₂ news' H' hf S' hn hCL hC₀ off => ?_
  show wpAny _ c.A (assign (.Name y py) c.env (.ref D)) _ _ _
  refine wpAny_assign_Name (wpAny_storeName_local hy S'.F.ns (fun h₂ hn₂ hs₂ => ?_) (by show (c.cs.kind == .class || (c.cs.kind == .module && c.L != mainGlobals)) = false; rw [ok.k]; rfl))
  have S₂ := S'.store (v := .ref D) (tk := tk + 1) (S'.F.set hn₂ hs₂) (S'.N.set hs₂)
  exact ⟨m₂, hn.sameBut hs₂ hCL, fun h'' hs'' => ⟨_, H', .of (same_trans e₁ ⟨h'', _, rfl⟩) (S₂.butC hs'' hC₀ hCL off), hf⟩⟩
end

section
variable {G : Glo} {c : Cx} {ℓ : Loc} {H : Hp} {r : Nat} {pos : Pos}
/-- y = [elt for x in range(k)] -/
theorem ts_compR {elt e : Expr} {x y : Str} {px py np rp : Pos} {scope : Scope} {spos : Pos} {rest : List Stmt} (cl : List (Str × Addr)) {Q : PF → Loc → Hp → Prop} (ok : c.Ok G r) (hb : nsIn G.K mainGlobals "range" = some none)
    (h : TE G c ℓ H e fun v H₁ => ∃ (J : Nat → List PV → Addr → Hp → Prop) (k : Nat), v = .int (k : Nat) ∧ k ≤ 1000 ∧ (∀ D, H₁ D = none → J 0 [] D (upd H₁ D (.list []))) ∧ (∀ i ys D H', J i ys D H' → H' D = some (.list ys)) ∧
      (∀ i u ys H' C oC m₂ D, i < k → pv u = .int (i : Nat) → ys.length = i → J i ys D H' → LCg.NsObj oC m₂ → m₂ x = some u → XE G c [(C, oC)] (compEnvC scope cl C c.env) ℓ (upd H' D (.ro ys)) elt fun y H₂ => H₂ D = some (.ro ys) ∧ J (i + 1) (ys ++ [y]) D (upd H₂ D (.list (ys ++ [y])))) ∧
      (∀ ys D H', J k ys D H' → ys.length = k → TS G c ((y, .ref D) :: ℓ) H' rest Q))
    (hr : c.env.kindOf "range" = some .globalImplicit) (he : starEach [e] c.env = [(false, eval e c.env)])
    (hsw : swapsWith (.ListComp elt [⟨.Name x px, .Call (.Name "range" np) [e] [] rp, [], 0⟩] scope pos) (some (.Name y py)) spos.line c.env = pure true)
    (hclos : closureFor scope c.env = pure cl) (hcell : ∀ y ∈ scope.names, y.2 ≠ .cell) (hkind : scope.kind = .function)
    (hnames : ∀ y ∈ scope.names, y.2 = .local → scope.names.lookup y.1 = some .local) (hx : scope.names.lookup x = some .local) (hy : c.env.kindOf y = some .local) :
    TS G c ℓ H (.Assign [.Name y py] (.ListComp elt [⟨.Name x px, .Call (.Name "range" np) [e] [] rp, [], 0⟩] scope pos) spos :: rest) Q := ts_cons fun fr s m n S => by
  rw [exec_Assign_Name_used _ _ _ _ hsw]
  refine wpAny_bind (wpAny_standAt (wpAny_bind ?_))
  show wpAny _ c.A (do let _ ← comprehension (.ListComp elt [⟨.Name x px, .Call (.Name "range" np) [e] [] rp, [], 0⟩] scope pos) scope c.env _ (newList []) false (eval (.Call (.Name "range" np) [e] [] rp) c.env) (some (assign (.Name y py) c.env))) _ _ s
  refine wpAny_bind (wpAny_mono (wpAny_comprehension_free (use := some (assign (.Name y py) c.env)) (Q := fun _ s' => ∃ ℓ' H', Out c ℓ' H' fr s s' ∧ Then G c rest Q .next ℓ' H') rfl (fun _ => rfl) hclos hkind hnames
    (callT ok S hb (by boot_fast) (by decide) hr (by decide) (ta_cons (h.mono fun v H₁ h₁ => ta_nil fun us eu s₁ m₁ n₁ e₁ S₁ => ?_) he) he rfl)) (fun _ s' hq => wpAny_pure (wpAny_pure hq)) fun _ _ e => e)
  obtain ⟨J, k, rfl, hk, j0, jd, turn, fin⟩ := h₁
  obtain ⟨u, rfl, e2⟩ := map1 eu
  obtain ⟨t, rfl⟩ := pv_int e2
  refine call_range_1 ?_
  have Sr := S₁.pushAny (o := { cls := .type "range", data := .fields #[.int 0 s₁.toks, .int (k : Nat) t, .int 1 (s₁.toks + 1)] }) (tk := s₁.toks + 1 + 1)
  have hR : IsRange (s₁.heap.push { cls := .type "range", data := .fields #[.int 0 s₁.toks, .int (k : Nat) t, .int 1 (s₁.toks + 1)] }) s₁.heap.objs.size 0 (k : Nat) 1 s₁.toks t (s₁.toks + 1) := IsRange.new ..
  have es : ∃ h tk, ({ s₁ with heap := s₁.heap.push { cls := .type "range", data := .fields #[.int 0 s₁.toks, .int (k : Nat) t, .int 1 (s₁.toks + 1)] }, toks := s₁.toks + 1 + 1 } : Shared) = { s with heap := h, toks := tk } := by obtain ⟨_, _, rfl⟩ := e₁; exact ⟨_, _, rfl⟩
  generalize hrr : s₁.heap.objs.size = rr at hR ⊢
  have hR' : IsRange ({ s₁ with heap := s₁.heap.push { cls := .type "range", data := .fields #[.int 0 s₁.toks, .int (k : Nat) t, .int 1 (s₁.toks + 1)] }, toks := s₁.toks + 1 + 1 } : Shared).heap rr 0 (k : Nat) 1 s₁.toks t (s₁.toks + 1) := hR
  generalize ({ s₁ with heap := s₁.heap.push { cls := .type "range", data := .fields #[.int 0 s₁.toks, .int (k : Nat) t, .int 1 (s₁.toks + 1)] }, toks := s₁.toks + 1 + 1 } : Shared) = sr at Sr es hR' ⊢
  have hsz : Builtin.Range.rangeSize 0 (k : Nat) 1 = ((k : Nat) : Int) := by rw [size_up (by (first | lia | omega))]; congr 1
  refine wpAny_pyIter_range hR' (small_one (by (first | lia | omega)) (by (first | lia | omega)) (by (first | lia | omega)) (by (first | lia | omega))) ?_
  have Si := Sr.pushAny (o := { cls := .type "range_iterator", data := .fields #[rawInt 0, rawInt (Builtin.Range.rangeSize 0 (k : Nat) 1), rawInt 1] }) (tk := sr.toks)
  refine comp_core (src := []) J Si (Walks.range rfl sr.heap.objs.size 0 1 k) hk (Nat.ne_of_lt Sr.F.ns.lt) (next_is_new Sr.F) (fun p hp => Nat.ne_of_lt (Heap.lt_size (Sr.N p hp).1)) (fun b hb => ?_) (fun b hb => .inl (List.mem_singleton.mp hb)) (fun q hq => nomatch hq) (fun q hq => nomatch hq)
    ?_ (fun i h st => ⟨_, st, fun xs ⟨vs, k, e, _⟩ => by simp [listObj] at e⟩) hcell hkind hx j0 jd (fun i u ys H' C oC m₂ D hi hyl hP hj hn hm' => ?_) (fun ys H' D C h tk m' m₂ news' hj hyl S' hn hCL hC₀ off => ?_)
  · rw [List.mem_singleton.mp hb]
    show sr.heap.objs.size < (sr.heap.push _).objs.size
    rw [Heap.size_push]; exact Nat.lt_succ_self _
  · show IsRangeIter _ _ _ _ _
    rw [hsz]; simpa using Heap.get?_push_size _ rfl
  · obtain ⟨t', rfl⟩ := hP
    exact turn i _ ys H' C oC m₂ D hi (by show PV.int _ = PV.int _; congr 1; (first | lia | omega)) hyl hj hn hm'
  · show wpAny _ c.A (assign (.Name y py) c.env (.ref D)) _ _ _
    refine wpAny_assign_Name (wpAny_storeName_local hy S'.F.ns (fun h₂ hn₂ hs₂ => ?_) (by show (c.cs.kind == .class || (c.cs.kind == .module && c.L != mainGlobals)) = false; rw [ok.k]; rfl))
    have S₂ := S'.store (v := .ref D) (tk := tk + 1) (S'.F.set hn₂ hs₂) (S'.N.set hs₂)
    exact ⟨m₂, hn.sameBut hs₂ hCL, fun h'' hs'' => ⟨_, H', .of (same_trans es ⟨h'', _, rfl⟩) (S₂.butC hs'' hC₀ hCL off), fin ys D H' hj hyl⟩⟩
end

section
variable {G : Glo} {c : Cx} {ℓ : Loc} {H : Hp} {r : Nat}
/-- a call of a def one of whose parameters is a cell -/
theorem fc_defC1 {f : Addr} {args : List PV} {Q : PV → Hp → Prop} {name qual : Str} {params : Arguments} {body : List Stmt} {scope : Scope} {dV kV doc pm cdv ct oc : Value} {an od : Option Addr} {osl : Array (Option Value)} (names : List Str) (ℓ₀ : Loc) (xc : Str) (vc : PV)
    (ok : c.Ok G (r + 1)) (ho : G.K.lookup f = some ⟨oc, od, .func (fnOf name qual params body scope dV kV doc pm an cdv ct), osl⟩) (hcd : codeIn G.K cdv qual = true)
    (hn : args.length = names.length) (hbind : ∀ s vs, vs.length = names.length → BindsTo s (fnOf name qual params body scope dV kV doc pm an cdv ct) ⟨vs, []⟩ (names.zip vs))
    (hkind : ∀ vs : List Value, vs.length = names.length → ((names.zip vs).all fun y => scope.names.lookup y.1 == some .local || scope.names.lookup y.1 == some .cell) = true)
    (hnd : ((cellsFrom 0 scope.names []).map (·.1)).Nodup) (hc1 : ∀ L, cellsFrom (L + 1) scope.names [] = [(xc, L + 1)])
    (hl : ∀ L vs, vs.map pv = args → LIs (bindL (envOfC qual scope L f cdv).kindOf (names.zip vs) fun _ => none) ℓ₀)
    (hb : ∀ L vs, vs.map pv = args → ∃ u, bindC (envOfC qual scope L f cdv).kindOf (names.zip vs) (fun _ => none) xc = some u ∧ pv u = vc)
    (h : ∀ L g, H (L + 1) = none → (mkC c qual scope f cdv (cellsFrom (L + 1) scope.names []) L g).Ok G r → TS G (mkC c qual scope f cdv (cellsFrom (L + 1) scope.names []) L g) ℓ₀ (upd H (L + 1) (.cell vc)) body fun fl _ H' => Q (retOf fl) H')
    (hco : scope.isCoroutine = false) (hgen : scope.isGenerator = false) (hk : scope.kind = .function) :
    FC G c ℓ H f args Q := fun vs ev fr s m news S => by
  refine wpAny_call ?_
  have hvl : vs.length = names.length := by rw [← hn, ← ev, List.length_map]
  refine code_defC ok.B S.F ok.X S.N ok.T rfl rfl ok.k ho hcd (by have := ok.dp; show c.dp < recursionLimit; (first | lia | omega)) (hbind _ vs hvl) (hkind vs hvl) hnd (fun g L' h₁ tk cells FG F' N' Y B' X' T' lt => ?_) hco hgen hk
  rw [hc1 L'] at Y
  obtain ⟨o, rfl, ho'⟩ := Y.one
  obtain ⟨u, hu, eu⟩ := hb L' vs ev
  rw [hu] at ho'
  have hno : H (L' + 1) = none := by
    cases e : H (L' + 1) with
    | none => rfl
    | some p =>
      obtain ⟨o', _, hm | ⟨hm, _⟩⟩ := S.h _ _ e
      · have := lt _ hm
        exact absurd this (Nat.not_lt.mpr (Nat.le_succ L'))
      · have h1 := (N' _ (List.mem_append_left _ (List.mem_singleton.mpr rfl))).2.2
        have h2 := B'.stays _ _ hm
        rw [h1] at h2; cases h2
  have ok' : (mkC c qual scope f cdv (cellsFrom (L' + 1) scope.names []) L' g).Ok G r := ⟨B', X', T', hk, by have := ok.dp; show c.dp + 1 + r < recursionLimit; (first | lia | omega), by have := ok.un; show c.un + 3 + 8 * r + 8 < cLine; (first | lia | omega)⟩
  have S' : St (mkC c qual scope f cdv (cellsFrom (L' + 1) scope.names []) L' g) ℓ₀ (upd H (L' + 1) (.cell vc)) fr { s with heap := h₁, toks := tk } (bindL (envOfC qual scope L' f cdv).kindOf (names.zip vs) fun _ => none) ([(L' + 1, o)] ++ news) := by
    refine ⟨F', N', hl L' vs ev, fun a p e => ?_, B'.stays, fun q hq => List.mem_append_right _ (S.fs q hq), fun q hq => ?_⟩
    · by_cases ha : a = L' + 1
      · subst ha; rw [upd_self] at e; cases e
        exact ⟨o, ⟨u, ho', eu⟩, .inl (List.mem_append_left _ (List.mem_singleton.mpr rfl))⟩
      · rw [upd_ne ha] at e
        obtain ⟨o', x, hm⟩ := S.h _ _ e
        exact ⟨o', x, hm.imp (List.mem_append_right _) id⟩
    · have : q.1 ≠ L' + 1 := fun z => by
        have := lt _ (S.fs q hq)
        rw [z] at this
        exact absurd this (Nat.not_lt.mpr (Nat.le_succ L'))
      rw [upd_ne this]; exact S.ap q hq
  refine wpAny_mono (h L' g hno ok' fr _ _ _ S') (fun fl s' ⟨ℓ', H', ⟨e', m', n', S''⟩, q⟩ => ?_) fun _ _ x => x.elim
  refine leaveK_ S''.F S''.N fun F'' N'' => ?_
  refine ⟨H', .of (same_trans ⟨_, _, rfl⟩ e') ⟨F'', N'', S.l, S''.h, S.bs, S''.fs, S''.ap⟩, ?_⟩
  cases fl <;> exact q
end

section
variable {G : Glo} {c : Cx} {ℓ : Loc} {H : Hp} {r : Nat} {pos : Pos}
theorem te_cell {x : Str} {a : Addr} {v : PV} {Q : PV → Hp → Prop} (ha : H a = some (.cell v)) (hc : c.cl.lookup x = some a) (h : Q v H) (ok : c.Ok G r) (hx : c.env.kindOf x = some .cell) (hd : (x == ("__debug__" : Str)) = false) :
    TE G c ℓ H (.Name x pos) Q := fun fr s m n S => by
  obtain ⟨o, ⟨u, e, eu⟩, hm⟩ := S.mem ha (fun _ e => by cases e)
  subst eu
  exact nameX_C S.N hc hm e ⟨H, .refl S, h⟩ ok.k hx hd
end
/-- a rational made of a number, no part of it D -/
inductive RVX (D : Addr) (H : Hp) (v : PV) (n : Int) (w : Nat) : Prop
  | mk (t) (s) (l) (h1_ : v = .ref t) (h2_ : H t = some (.tup [s, .ref l])) (h3_ : SVX D H s n w) (h4_ : IsL H l (nats [1])) (h5_ : l ≠ D) : RVX D H v n w
theorem RVX.le {D : Addr} {H H' : Hp} {v : PV} {n : Int} {w : Nat} (x : RVX D H v n w) (l : Le H H') : RVX D H' v n w := by
  obtain ⟨t, s, a, e, h, i, j, k⟩ := x
  exact ⟨t, s, a, e, l _ _ h, i.le l, j.le l, k⟩
theorem RVX.rv {D : Addr} {H : Hp} {v : PV} {n : Int} {w : Nat} (hw : 3 ≤ w) (x : RVX D H v n w) : RV H v n 1 w := by
  obtain ⟨t, s, a, e, h, i, j, k⟩ := x
  exact ⟨t, s, a, e, h, i.sv, by rw [limbs_1 hw]; exact j⟩
theorem SVX.updA {f : Addr} {H : Hp} {v : PV} {z : Int} {w : Nat} {xs : List PV} {p : PO} (x : SVX f H v z w) (hf : H f = some (.list xs) ∨ H f = some (.ro xs)) : SVX f (Mine.upd H f p) v z w := by
  obtain ⟨t, a, e, h, i, j⟩ := x
  have ht : t ≠ f := fun z => by rcases hf with hf | hf <;> (rw [z, hf] at h; cases h)
  exact ⟨t, a, e, by rw [upd_ne ht]; exact h, i.upd j, j⟩
theorem RVX.updA {D : Addr} {H : Hp} {v : PV} {n : Int} {w : Nat} {xs : List PV} {p : PO} (x : RVX D H v n w) (hf : H D = some (.list xs) ∨ H D = some (.ro xs)) : RVX D (Mine.upd H D p) v n w := by
  obtain ⟨t, s, a, e, h, i, j, k⟩ := x
  have ht : t ≠ D := fun z => by rcases hf with hf | hf <;> (rw [z, hf] at h; cases h)
  exact ⟨t, s, a, e, by rw [upd_ne ht]; exact h, i.updA hf, j.upd k, k⟩

theorem isL_relock {H : Hp} {l ln : Addr} {xs ys : List PV} (x : IsL H l ys) (h : H ln = some (.ro xs)) : IsL (upd H ln (.list xs)) l ys := by
  by_cases e : l = ln
  · subst e
    rcases x with x | x <;> (rw [h] at x; cases x)
    exact isL_upd
  · exact x.upd e
theorem RVX.relock {D ln : Addr} {H : Hp} {v : PV} {n : Int} {w : Nat} {xs : List PV} (x : RVX D H v n w) (h : H ln = some (.ro xs)) : RVX D (upd H ln (.list xs)) v n w := by
  obtain ⟨t, s, a, e, h1, ⟨t', l', e', h1', i', j'⟩, i, j⟩ := x
  have n1 : t ≠ ln := fun z => by rw [z, h] at h1; cases h1
  have n2 : t' ≠ ln := fun z => by rw [z, h] at h1'; cases h1'
  exact ⟨t, s, a, e, by rw [upd_ne n1]; exact h1, ⟨t', l', e', by rw [upd_ne n2]; exact h1', isL_relock i' h, j'⟩, isL_relock i h, j⟩
theorem led_alg {p q a b m1 n1 m2 n2 : Int} (hm1 : m1 ≠ 0) (h1 : n1 * q = a * p * m1) (h2 : n2 * m1 = (n1 + b * m1) * m2) : n2 * q = (a * p + b * q) * m2 := by
  refine Int.eq_of_mul_eq_mul_right hm1 ?_
  have : n2 * q * m1 = n2 * m1 * q := by rw [Int.mul_assoc, Int.mul_comm q, ← Int.mul_assoc]
  rw [this, h2]
  have e : (n1 + b * m1) * m2 * q = (n1 * q + b * q * m1) * m2 := by grind
  rw [e, h1]; grind
theorem led_end {X Y n5 m5 n2 m2 n4 m4 q : Int} (hq : q ≠ 0) (h2 : m2 ≠ 0) (h4 : m4 ≠ 0) (e2 : n2 * q = Y * m2) (e4 : n4 * q = X * m4) (e5 : n5 * (m2 * n4) = n2 * m4 * m5) : n5 * X = Y * m5 := by
  refine Int.eq_of_mul_eq_mul_right h2 (Int.eq_of_mul_eq_mul_right h4 ?_)
  have a1 : n5 * X * m2 * m4 = n5 * m2 * (X * m4) := by grind
  have a2 : Y * m5 * m2 * m4 = (Y * m2) * m4 * m5 := by grind
  rw [a1, a2, ← e4, ← e2]
  have a3 : n5 * m2 * (n4 * q) = n5 * (m2 * n4) * q := by grind
  rw [a3, e5]; grind
theorem getD_all {P : Int → Prop} (h0 : P 0) : ∀ {l : List Int}, (∀ x ∈ l, P x) → ∀ i : Nat, P (l.getD i 0)
  | [], _, _ => h0
  | x :: _, h, 0 => h x (List.mem_cons_self ..)
  | _ :: _, h, i + 1 => getD_all h0 (fun x hx => h x (List.mem_cons_of_mem _ hx)) i
inductive P_c_law_led (H : Hp) (w : Nat) (c' : Int) (p' : Int) (d' : Int) (q' : Nat) (a : Int) (b : Int) (v : PV) (H' : Hp) : Prop
  | mk (h1_ : Le H H') (n) (m) (h2_ : RV H' v n m w) (h3_ : 0 < m) (h4_ : n * (c' * p' + d' * q') = (a * p' + b * q') * (m : Nat)) (h5_ : n.natAbs < 2 ^ 40) (h6_ : m < 2 ^ 40) : P_c_law_led H w c' p' d' q' a b v H'
inductive J1_c_law_led (H₀ : Hp) (ln : Addr) (a : Int) (b : Int) (c' : Int) (d' : Int) (w : Nat) (i : Nat) (ys : List PV) (D : Addr) (H' : Hp) : Prop
  | mk (h1_ : H₀ D = none) (h2_ : H' D = some (.list ys)) (h3_ : LeX D (upd H₀ ln (.ro (boxL (a, b, c', d')))) H') (h4_ : ys.length = i) (h5_ : ∀ (j : Nat) v, ys[j]? = some v → RVX D H' v ([a, b, c', d'].getD j 0) w) : J1_c_law_led H₀ ln a b c' d' w i ys D H'
theorem c_law_led {d : Wd} {c : Cx} {ℓ : Loc} {H : Hp} {r : Nat} (ok : c.Ok (GW d) (r + 9)) {ln : Addr} {vx : PV} {w q' : Nat} {p' a b c' d' : Int} (hw : 3 ≤ w) (hw' : w ≤ 8) (hnl : H ln = some (.list (boxL (a, b, c', d')))) (hx : RV H vx p' q' w)
    (ba : a.natAbs ≤ 3) (bb : b.natAbs ≤ 3) (bc : c'.natAbs ≤ 3) (bd : d'.natAbs ≤ 4) (bp : p'.natAbs ≤ 80) (bq : q' ≤ 40) (q0 : 0 < q') (hne : c' * p' + d' * q' ≠ 0) :
    FC (GW d) c ℓ H 308 [.ref ln, vx, .int w] (P_c_law_led H w c' p' d' q' a b) := by
  refine fc_defC1 ["numbers", "x", "w"] [("x", vx), ("numbers", .ref ln)] "w" (.int w) ok (by exact rfl) (by kernel_rfl) rfl (fun s vs h => ?hb) (fun vs h => ?hk) (by decide) (fun L => rfl) (fun L vs e => ?hl) (fun L vs e => ?hc) (fun L g hL ok' => ?hw) rfl rfl rfl
  case hb =>
    obtain ⟨u0, u1, u2, rfl⟩ := len3 h
    exact BindsTo.of_eq rfl
  case hk =>
    obtain ⟨u0, u1, u2, rfl⟩ := len3 h
    rfl
  case hl =>
    obtain ⟨u, v, x, rfl, e1, e2, e3⟩ := map3 e
    intro y p ey
    rw [List.lookup_cons] at ey
    cases h : y == "x" with
    | true =>
      rw [h] at ey; cases ey
      rw [beq_iff_eq.mp h]
      exact ⟨v, rfl, e2⟩
    | false =>
      rw [h] at ey
      rw [List.lookup_cons] at ey
      cases h' : y == "numbers" with
      | true =>
        rw [h'] at ey; cases ey
        rw [beq_iff_eq.mp h']
        exact ⟨u, rfl, e1⟩
      | false => rw [h'] at ey; cases ey
  case hc =>
    obtain ⟨u, v, x, rfl, e1, e2, e3⟩ := map3 e
    exact ⟨x, rfl, e3⟩
  case hw =>
    clear ok
    have hle0 : Le H (upd H (L + 1) (.cell (.int w))) := .upd hL
    have hnl0 := hle0 _ _ hnl
    have hx0 := hx.le hle0
    have hw0 : upd H (L + 1) (.cell (.int w)) (L + 1) = some (.cell (.int w)) := upd_self
    generalize upd H (L + 1) (.cell (.int w)) = H₀ at *
    refine ts_un4 (by assumption) ?_ (by exact rfl) (by exact rfl) (by exact rfl) (by exact rfl) (by exact rfl) (by exact rfl)
    refine te_compL [("w", L + 1)] ?_ (by exact rfl) (by decide) rfl (by decide) (by exact rfl) (by intros; exact rfl)
    repeat k_updF
    have hnum := fun (i : Nat) (y : PV) (h : (boxL (a, b, c', d'))[i]? = some y) => intL_at (zs := [a, b, c', d']) h
    have hnb : ∀ i : Nat, ([a, b, c', d'].getD i 0).natAbs ≤ 4 := getD_all (P := fun x : Int => x.natAbs ≤ 4) (Nat.zero_le _) (fun x hx => by
      simp only [List.mem_cons, List.not_mem_nil, or_false] at hx
      rcases hx with rfl | rfl | rfl | rfl
      · exact Nat.le_succ_of_le ba
      · exact Nat.le_succ_of_le bb
      · exact Nat.le_succ_of_le bc
      · exact bd)
    refine ⟨J1_c_law_led H₀ ln a b c' d' w, ln, _, rfl, hnl0, by simp [boxL], ?_, ?_, ?_, ?_⟩
    · intro D hDl hD
      exact ⟨hD, upd_self, fun x p n e => by rw [upd_ne n]; exact e, rfl, fun j v e => by simp at e⟩
    · rintro i ys D H' ⟨h1, h2, h3, h4, h5⟩
      refine ⟨h2, h3 _ _ (fun z => ?_) upd_self⟩
      rw [← z, hnl0] at h1; cases h1
    · rintro i u ys H' C oC m₂ D hi hyl ⟨h1, h2, h3, h4, h5⟩ hoC hm
      obtain ⟨hi4, hu⟩ := hnum _ _ hi
      have hne1 : L + 1 ≠ D := fun z => by rw [← z, hw0] at h1; cases h1
      have hne2 : ln ≠ D := fun z => by rw [← z, hnl0] at h1; cases h1
      have hne3 : L + 1 ≠ ln := fun z => by rw [z, hnl0] at hw0; cases hw0
      have hcell : upd H' D (.ro ys) (L + 1) = some (.cell (.int w)) := by
        rw [upd_ne hne1]; exact h3 _ _ hne1 (by rw [upd_ne hne3]; exact hw0)
      refine xe_tuple (xa_cons ?_ (by exact rfl))
      refine xe_call (by assumption) k_law_signed g_law_signed ?_ (by exact rfl) (by exact rfl) (by exact rfl) (by decide) (by exact rfl) (by exact rfl)
      refine xa_cons (xe_loc (List.mem_singleton.mpr rfl) hoC hm ?_ (by exact rfl) (by exact rfl) (by exact rfl) (by decide)) (by exact rfl)
      refine xa_cons (xe_cell hcell ?_ (by exact rfl) (by exact rfl) (by exact rfl) (by decide)) (by exact rfl)
      refine xa_nil ?_
      rw [hu]
      have hnbi := hnb i
      refine (c_law_signed ok' hw hw' (by (first | lia | omega))).mono ?_
      rintro v H₂ ⟨hle2, hs⟩
      refine xa_cons (xe_list (xa_cons (xe_int (xa_nil ⟨Nat.le_of_ble_eq_true rfl, fun la hla => ?_⟩)) (by exact rfl))) (by exact rfl)
      refine xa_nil ⟨Nat.le_of_ble_eq_true rfl, fun t ht => ?_⟩
      have hD2 : H₂ D = some (.ro ys) := hle2 _ _ upd_self
      have hle3 : Le H₂ (upd (upd H₂ la (.list [.int 1])) t (.tup [v, .ref la])) := (Le.upd hla).trans (.upd ht)
      have hrv : RVX D (upd (upd H₂ la (.list [.int 1])) t (.tup [v, .ref la])) (.ref t) ([a, b, c', d'].getD i 0) w := ⟨t, v, la, rfl, upd_self, (hs.x upd_self).le hle3, .inl ((Le.upd ht) _ _ upd_self), fun z => by rw [z, hD2] at hla; cases hla⟩
      generalize upd (upd H₂ la (.list [.int 1])) t (.tup [v, .ref la]) = H₃ at *
      have hD3 := hle3 _ _ hD2
      refine ⟨hD3, h1, upd_self, fun x p n e => ?_, by simp [h4], fun j y hj => ?_⟩
      · rw [upd_ne n]
        exact hle3 _ _ (hle2 _ _ (by rw [upd_ne n]; exact h3 _ _ n e))
      · by_cases hji : j < ys.length
        · rw [List.getElem?_append_left hji] at hj
          exact (((h5 j y hj).updA (p := .ro ys) (.inl h2)).le (hle2.trans hle3)).updA (.inr hD3)
        · have : j = i := by
            have := (List.getElem?_eq_some_iff.mp hj).1
            simp at this; (first | lia | omega)
          subst this
          rw [List.getElem?_append_right (by (first | lia | omega)), h4, Nat.sub_self] at hj
          cases hj
          exact hrv.updA (.inr hD3)
    · rintro ys D H' ⟨h1, h2, h3, h4, h5⟩ hyl
      have hne2 : ln ≠ D := fun z => by rw [← z, hnl0] at h1; cases h1
      have hne3 : L + 1 ≠ ln := fun z => by rw [z, hnl0] at hw0; cases hw0
      have hln := h3 _ _ hne2 upd_self
      have hle1 : Le H₀ (upd H' ln (.list (boxL (a, b, c', d')))) := fun x p e => by
        by_cases hx : x = ln
        · subst hx; rw [upd_self]; rw [hnl0] at e; exact e
        · have : x ≠ D := fun z => by rw [z, h1] at e; cases e
          rw [upd_ne hx]; exact h3 _ _ this (by rw [upd_ne hx]; exact e)
      obtain ⟨y0, y1, y2, y3, rfl⟩ : ∃ y0 y1 y2 y3, ys = [y0, y1, y2, y3] := by
        exact len4 hyl
      have ra := ((h5 0 y0 rfl).relock hln).rv hw
      have rb := ((h5 1 y1 rfl).relock hln).rv hw
      have rc := ((h5 2 y2 rfl).relock hln).rv hw
      have rd := ((h5 3 y3 rfl).relock hln).rv hw
      have hDl : IsL (upd H' ln (.list (boxL (a, b, c', d')))) D [y0, y1, y2, y3] := .inl (by rw [upd_ne (Ne.symm hne2)]; exact h2)
      have hw1 := hle1 _ _ hw0
      have hx1 := hx0.le hle1
      have hle1 := hle0.trans hle1
      generalize upd H' ln (.list (boxL (a, b, c', d'))) = H₁ at *
      refine ⟨D, y0, y1, y2, y3, rfl, .inr hDl, ?_⟩
      repeat k_updF
      refine te_call (by assumption) k_r_add ?_ (by exact rfl) (by exact rfl)
      refine te_global g_r_add ?_ (by assumption) (by exact rfl) (by decide)
      refine ⟨rfl, ?_⟩
      repeat k_updF
      refine te_call (by assumption) k_r_mul ?_ (by exact rfl) (by exact rfl)
      refine te_global g_r_mul ?_ (by assumption) (by exact rfl) (by decide)
      refine ⟨rfl, ?_⟩
      repeat k_updF
      refine te_cell hw1 (by exact rfl) ?_ (by assumption) (by exact rfl) (by decide)
      repeat k_updF
      refine te_global g_mul_school ?_ (by assumption) (by exact rfl) (by decide)
      repeat k_updF
      refine te_global g_divrem_school ?_ (by assumption) (by exact rfl) (by decide)
      repeat k_updF
      refine (c_r_mul ok' hw hw' ra hx1 (by show a.natAbs < _; (first | lia | omega)) (by (first | lia | omega)) (by (first | lia | omega)) (by (first | lia | omega)) (by (first | lia | omega)) q0).mono ?_
      rintro v1 H₂ ⟨hle2, n1, m1, r1, p1, e1, k1, k1'⟩
      have hw2 := hle2 _ _ hw1
      repeat k_updF
      refine te_cell hw2 (by exact rfl) ?_ (by assumption) (by exact rfl) (by decide)
      repeat k_updF
      refine te_global g_mul_school ?_ (by assumption) (by exact rfl) (by decide)
      repeat k_updF
      refine te_global g_divrem_school ?_ (by assumption) (by exact rfl) (by decide)
      repeat k_updF
      have j1 : n1.natAbs ≤ 3 * 80 := Nat.le_trans k1 (Nat.mul_le_mul ba bp)
      have j1' : m1 ≤ 1 * 40 := Nat.le_trans k1' (Nat.mul_le_mul_left _ bq)
      refine (c_r_add ok' hw hw' r1 (rb.le hle2) (by (first | lia | omega)) (by (first | lia | omega)) (by show b.natAbs < _; (first | lia | omega)) (by (first | lia | omega)) p1 (by (first | lia | omega))).mono ?_
      rintro v2 H₃ ⟨hle3, n2, m2, r2, p2, e2, k2, k2'⟩
      have hw3 := hle3 _ _ hw2
      have hle3' := hle2.trans hle3
      have j2 : n2.natAbs ≤ 3 * 80 * 1 + 3 * 40 := Nat.le_trans k2 (Nat.add_le_add (Nat.mul_le_mul_right _ j1) (Nat.mul_le_mul bb (by (first | lia | omega))))
      have j2' : m2 ≤ 40 := by (first | lia | omega)
      repeat k_updF
      refine te_call (by assumption) k_r_add ?_ (by exact rfl) (by exact rfl)
      refine te_global g_r_add ?_ (by assumption) (by exact rfl) (by decide)
      refine ⟨rfl, ?_⟩
      repeat k_updF
      refine te_call (by assumption) k_r_mul ?_ (by exact rfl) (by exact rfl)
      refine te_global g_r_mul ?_ (by assumption) (by exact rfl) (by decide)
      refine ⟨rfl, ?_⟩
      repeat k_updF
      refine te_cell hw3 (by exact rfl) ?_ (by assumption) (by exact rfl) (by decide)
      repeat k_updF
      refine te_global g_mul_school ?_ (by assumption) (by exact rfl) (by decide)
      repeat k_updF
      refine te_global g_divrem_school ?_ (by assumption) (by exact rfl) (by decide)
      repeat k_updF
      refine (c_r_mul ok' hw hw' (rc.le hle3') (hx1.le hle3') (by show c'.natAbs < _; (first | lia | omega)) (by (first | lia | omega)) (by (first | lia | omega)) (by (first | lia | omega)) (by (first | lia | omega)) q0).mono ?_
      rintro v3 H₄ ⟨hle4, n3, m3, r3, p3, e3, k3, k3'⟩
      have hw4 := hle4 _ _ hw3
      repeat k_updF
      refine te_cell hw4 (by exact rfl) ?_ (by assumption) (by exact rfl) (by decide)
      repeat k_updF
      refine te_global g_mul_school ?_ (by assumption) (by exact rfl) (by decide)
      repeat k_updF
      refine te_global g_divrem_school ?_ (by assumption) (by exact rfl) (by decide)
      repeat k_updF
      have j3 : n3.natAbs ≤ 3 * 80 := Nat.le_trans k3 (Nat.mul_le_mul bc bp)
      have j3' : m3 ≤ 1 * 40 := Nat.le_trans k3' (Nat.mul_le_mul_left _ bq)
      refine (c_r_add ok' hw hw' r3 ((rd.le hle3').le hle4) (by (first | lia | omega)) (by (first | lia | omega)) (by show d'.natAbs < _; (first | lia | omega)) (by (first | lia | omega)) p3 (by (first | lia | omega))).mono ?_
      rintro v4 H₅ ⟨hle5, n4, m4, r4, p4, e4, k4, k4'⟩
      have hw5 := hle5 _ _ hw4
      have j4 : n4.natAbs ≤ 3 * 80 * 1 + 4 * 40 := Nat.le_trans k4 (Nat.add_le_add (Nat.mul_le_mul_right _ j3) (Nat.mul_le_mul bd (by (first | lia | omega))))
      have j4' : m4 ≤ 40 := by (first | lia | omega)
      have f2 := led_alg (p := p') (q := q') (a := a) (b := b) (m1 := m1) (n1 := n1) (m2 := m2) (n2 := n2) (by (first | lia | omega)) (by simpa using e1) (by simpa using e2)
      have f4 := led_alg (p := p') (q := q') (a := c') (b := d') (m1 := m3) (n1 := n3) (m2 := m4) (n2 := n4) (by (first | lia | omega)) (by simpa using e3) (by simpa using e4)
      have hn4 : n4 ≠ 0 := fun z => by
        rw [z, Int.zero_mul] at f4
        rcases Int.mul_eq_zero.mp f4.symm with z | z
        · exact hne z
        · (first | lia | omega)
      repeat k_updF
      refine te_call (by assumption) k_r_div ?_ (by exact rfl) (by exact rfl)
      refine te_global g_r_div ?_ (by assumption) (by exact rfl) (by decide)
      refine ⟨rfl, ?_⟩
      repeat k_updF
      refine te_cell hw5 (by exact rfl) ?_ (by assumption) (by exact rfl) (by decide)
      repeat k_updF
      refine te_global g_mul_school ?_ (by assumption) (by exact rfl) (by decide)
      repeat k_updF
      refine te_global g_divrem_school ?_ (by assumption) (by exact rfl) (by decide)
      repeat k_updF
      refine (c_r_div ok' hw hw' ((r2.le hle4).le hle5) r4 (by (first | lia | omega)) (by (first | lia | omega)) (by (first | lia | omega)) (by (first | lia | omega)) p2 p4 hn4).mono ?_
      rintro v5 H₆ ⟨hle6, n5, m5, r5, p5, e5, k5, k5'⟩
      refine ⟨(((hle1.trans hle3').trans hle4).trans hle5).trans hle6, n5, m5, r5, p5, led_end (q := q') (by (first | lia | omega)) (by (first | lia | omega)) (by (first | lia | omega)) f2 f4 e5, ?_, ?_⟩
      · have : n2.natAbs * m4 ≤ (3 * 80 * 1 + 3 * 40) * 40 := Nat.mul_le_mul j2 j4'
        (first | lia | omega)
      · have : m2 * n4.natAbs ≤ 40 * (3 * 80 * 1 + 4 * 40) := Nat.mul_le_mul j2' j4
        (first | lia | omega)

section
variable {G : Glo} {c : Cx} {ℓ : Loc} {H : Hp} {r : Nat} {pos : Pos} {rest : List Stmt}
/-- an empty cell stored into -/
theorem tu_cell0 {x : Str} {a : Addr} {u : Value} {Q : Loc → Hp → Prop} (ok : c.Ok G r) (hx : c.env.kindOf x = some .cell) (hc : c.cl.lookup x = some a) (h0 : H a = some .ecell) (h : Q ℓ (upd H a (.cell (pv u)))) : TU G c ℓ H (storeName c.env x u) Q := fun fr s m n S => by
  obtain ⟨o, hd, hm⟩ := S.mem h0 (fun _ e => by cases e)
  have hne : ∀ q ∈ fr, q.1 ≠ a := fun q hq e => by rcases S.ap q hq with z | ⟨xs, z⟩ <;> (rw [e, h0] at z; cases z)
  refine wpAny_storeName_cell ok.k hx hc ⟨o, S.N.get hm, hd⟩ fun h' hv hs => ?_
  obtain ⟨o', ho', hd'⟩ := hv
  refine ⟨ℓ, _, ⟨⟨h', _, rfl⟩, m, n.map fun q => if q.1 = a then (a, o') else q, S.F.update S.N hm hs, S.N.update hm hs ho', S.l, fun b q eb => ?_, S.bs, fun q hq => ?_, fun q hq => ?_⟩, h⟩
  · by_cases hb : b = a
    · subst hb; rw [upd_self] at eb; cases eb
      exact ⟨o', ⟨u, hd', rfl⟩, .inl (List.mem_map.mpr ⟨_, hm, by simp⟩)⟩
    · rw [upd_ne hb] at eb
      obtain ⟨o, x, hm'⟩ := S.h _ _ eb
      exact ⟨o, x, hm'.imp (fun hm' => List.mem_map.mpr ⟨_, hm', by simp [hb]⟩) id⟩
  · exact List.mem_map.mpr ⟨q, S.fs q hq, by simp [hne q hq]⟩
  · rw [upd_ne (hne q hq)]; exact S.ap q hq
theorem ts_assignC0 {x : Str} {a : Addr} {np : Pos} {e : Expr} {Q : PF → Loc → Hp → Prop} (ok : c.Ok G r) (hc : c.cl.lookup x = some a) (h : TE G c ℓ H e fun v H₁ => H₁ a = some .ecell ∧ TS G c ℓ (upd H₁ a (.cell v)) rest Q) (hx : c.env.kindOf x = some .cell)
    (hs : swapsWith e (some (.Name x np)) pos.line c.env = pure false) : TS G c ℓ H (.Assign [.Name x np] e pos :: rest) Q := ts_cons fun fr s m n S =>
  wpAny_Assign_Name (Tx.seq S h fun u s₁ H₁ m₁ n₁ e₁ S₁ h₁ => by
    obtain ⟨h0, h₁⟩ := h₁
    exact TU.seq S₁ (tu_cell0 ok hx hc h0 h₁) fun s' ℓ' H' m' n' e' S' q => ⟨_, _, .of (same_trans e₁ e') S', q⟩) hs
theorem to_cell0 {x : Str} {a : Addr} {p : Pos} {ns : List (Value → Sem Unit)} {v : PV} {xs : List PV} {Q : Loc → Hp → Prop} (ok : c.Ok G r) (hx : c.env.kindOf x = some .cell) (hc : c.cl.lookup x = some a) (h0 : H a = some .ecell) (h : TO G c ℓ (upd H a (.cell v)) ns xs Q) : TO G c ℓ H (assign (.Name x p) c.env :: ns) (v :: xs) Q :=
  to_cons fun u eu fr s m n S => assign_Name (by
    refine tu_cell0 ok hx hc h0 ?_ fr s m n S
    rw [eu]; exact h)
end

theorem foldP_cons (z : Int) (zs : List Int) : foldP (z :: zs) = (z * (foldP zs).1 + (foldP zs).2, (foldP zs).1) := rfl
theorem foldP_cf : ∀ (k : Nat) (n : Int) (m : Nat), m ≤ k → (0 < m ∨ 0 < n) → ∃ g : Int, 0 < g ∧ (foldP (cf n m)).1 * g = n ∧ (foldP (cf n m)).2 * g = m
  | k, n, 0, _, h => ⟨n, by (first | lia | omega), by rw [cf_zero]; simp [foldP], by rw [cf_zero]; simp [foldP]⟩
  | 0, n, m + 1, hk, _ => by (first | lia | omega)
  | k + 1, n, m + 1, hk, _ => by
    have h1 := Int.emod_lt_of_pos n (show (0 : Int) < (m + 1 : Nat) by (first | lia | omega))
    have h2 := Int.emod_nonneg n (show ((m + 1 : Nat) : Int) ≠ 0 by (first | lia | omega))
    obtain ⟨g, g0, e1, e2⟩ := foldP_cf k ((m + 1 : Nat) : Int) (n % ((m + 1 : Nat) : Int)).toNat (by (first | lia | omega)) (.inr (by (first | lia | omega)))
    rw [cf_pos n (show 0 < m + 1 by (first | lia | omega)), foldP_cons]
    refine ⟨g, g0, ?_, e1⟩
    show (n / ((m + 1 : Nat) : Int) * _ + _) * g = n
    rw [Int.add_mul, Int.mul_assoc, e1, e2, Int.toNat_of_nonneg h2, Int.mul_comm]
    exact Int.mul_ediv_add_emod n _

theorem cf_scale : ∀ (f : Nat) (n : Int) (m k : Nat), m ≤ f → 0 < k → cf (n * k) (m * k) = cf n m
  | f, n, 0, k, _, _ => by rw [Nat.zero_mul, cf_zero, cf_zero]
  | 0, n, m + 1, k, hf, _ => by (first | lia | omega)
  | f + 1, n, m + 1, k, hf, hk => by
    have h1 := Int.emod_lt_of_pos n (show (0 : Int) < (m + 1 : Nat) by (first | lia | omega))
    have h2 := Int.emod_nonneg n (show ((m + 1 : Nat) : Int) ≠ 0 by (first | lia | omega))
    have hp : 0 < (m + 1) * k := Nat.mul_pos (by (first | lia | omega)) hk
    rw [cf_pos (n * k) hp, cf_pos n (show 0 < m + 1 by (first | lia | omega))]
    have e1 : n * (k : Int) / (((m + 1) * k : Nat) : Int) = n / ((m + 1 : Nat) : Int) := by
      rw [Int.natCast_mul]; exact Int.mul_ediv_mul_of_pos_left _ _ (by (first | lia | omega))
    have e2 : (n * (k : Int) % (((m + 1) * k : Nat) : Int)).toNat = (n % ((m + 1 : Nat) : Int)).toNat * k := by
      rw [Int.natCast_mul, Int.mul_comm n, Int.mul_comm ((m + 1 : Nat) : Int), Int.mul_emod_mul_of_pos _ _ (by (first | lia | omega))]
      have : n % ((m + 1 : Nat) : Int) = ((n % ((m + 1 : Nat) : Int)).toNat : Int) := by (first | lia | omega)
      rw [this]
      rw [← Int.natCast_mul, Int.toNat_natCast, Int.toNat_natCast, Nat.mul_comm]
    rw [e1, e2]
    congr 1
    have := cf_scale f ((m + 1 : Nat) : Int) (n % ((m + 1 : Nat) : Int)).toNat k (by (first | lia | omega)) hk
    rw [← this, Int.natCast_mul]

theorem cf_eq {n n' : Int} {m m' : Nat} (hm : 0 < m) (hm' : 0 < m') (h : n * (m' : Int) = n' * (m : Int)) : cf n m = cf n' m' := by
  rw [← cf_scale m n m m' (Nat.le_refl _) hm', ← cf_scale m' n' m' m (Nat.le_refl _) hm, h, Nat.mul_comm]
/-- the whole parts of N / D, D of any sign, none where D is nought -/
noncomputable def cfR (N D : Int) : List Int := if 0 < D then cf N D.toNat else if D < 0 then cf (-N) (-D).toNat else []
theorem cfR_pos {N D : Int} (h : 0 < D) : cfR N D = cf N D.toNat := if_pos h
theorem cfR_neg {N D : Int} (h : D < 0) : cfR N D = cf (-N) (-D).toNat := by rw [cfR, if_neg (by (first | lia | omega)), if_pos h]
theorem cfR_zero (N : Int) : cfR N 0 = [] := rfl
theorem cfR_flip (N D : Int) : cfR (-N) (-D) = cfR N D := by
  rcases Int.lt_trichotomy D 0 with h | h | h
  · rw [cfR_pos (by (first | lia | omega)), cfR_neg h]
  · subst h; rfl
  · rw [cfR_neg (by (first | lia | omega)), cfR_pos h, Int.neg_neg, Int.neg_neg]
theorem cfR_step_pos {N D : Int} (h : 0 < D) : cfR N D = N.fdiv D :: cfR D (N - N.fdiv D * D) := by
  have e := Int.fdiv_eq_ediv_of_nonneg N (show 0 ≤ D by (first | lia | omega))
  have h1 := Int.emod_lt_of_pos N h
  have h2 := Int.emod_nonneg N (show D ≠ 0 by (first | lia | omega))
  have h3 : N - N.fdiv D * D = N % D := by
    rw [e, Int.mul_comm]
    have := Int.mul_ediv_add_emod N D
    (first | lia | omega)
  have hD : ((D.toNat : Nat) : Int) = D := by (first | lia | omega)
  rw [h3, cfR_pos h, cf_pos N (by (first | lia | omega)), hD, e]
  congr 1
  rcases Int.lt_or_eq_of_le h2 with h4 | h4
  · rw [cfR_pos h4]
  · rw [← h4]; rfl
theorem fdiv_flip (N D : Int) : (-N).fdiv (-D) = N.fdiv D := Int.neg_fdiv_neg ..
theorem cfR_step {N D : Int} (h : D ≠ 0) : cfR N D = N.fdiv D :: cfR D (N - N.fdiv D * D) := by
  rcases Int.lt_or_gt_of_ne h with h | h
  · rw [← cfR_flip N D, cfR_step_pos (N := -N) (D := -D) (by (first | lia | omega)), fdiv_flip, ← cfR_flip D (N - _)]
    congr 2
    rw [Int.mul_neg]; (first | lia | omega)
  · exact cfR_step_pos h

theorem fdiv_of {N D q : Int} (h : 0 < D) (h1 : q * D ≤ N) (h2 : N < (q + 1) * D) : N.fdiv D = q := by
  rw [Int.fdiv_eq_ediv_of_nonneg N (by (first | lia | omega))]
  have a1 : q ≤ N / D := (Int.le_ediv_iff_mul_le h).mpr h1
  have a2 : N / D < q + 1 := Int.ediv_lt_of_lt_mul h h2
  (first | lia | omega)
theorem fdiv_spec {N D : Int} (h : 0 < D) : N.fdiv D * D ≤ N ∧ N < (N.fdiv D + 1) * D := by
  rw [Int.fdiv_eq_ediv_of_nonneg N (by (first | lia | omega))]
  exact ⟨Int.ediv_mul_le N (by (first | lia | omega)), Int.lt_ediv_add_one_mul_self N h⟩
theorem mediant_pos {a b c d n m : Int} (hc : 0 < c) (hd : 0 < c + d) (hn : 0 < n) (hm : 0 ≤ m) (hmn : m ≤ n) (hq : a.fdiv c = (a + b).fdiv (c + d)) : 0 < c * n + d * m ∧ (a * n + b * m).fdiv (c * n + d * m) = a.fdiv c := by
  have e1 : c * n + d * m = c * (n - m) + (c + d) * m := by rw [Int.mul_sub, Int.add_mul]; (first | lia | omega)
  have e2 : a * n + b * m = a * (n - m) + (a + b) * m := by rw [Int.mul_sub, Int.add_mul]; (first | lia | omega)
  obtain ⟨s1, s2⟩ := fdiv_spec (N := a) hc
  obtain ⟨s3, s4⟩ := fdiv_spec (N := a + b) hd
  rw [← hq] at s3 s4
  generalize a.fdiv c = q at *
  have p1 : 0 ≤ c * (n - m) := Int.mul_nonneg (by (first | lia | omega)) (by (first | lia | omega))
  have p2 : 0 ≤ (c + d) * m := Int.mul_nonneg (by (first | lia | omega)) hm
  have hD : 0 < c * n + d * m := by
    rw [e1]
    rcases Int.lt_or_eq_of_le hm with h | h
    · have : 0 < (c + d) * m := Int.mul_pos hd h
      (first | lia | omega)
    · subst h
      have : 0 < c * (n - 0) := Int.mul_pos hc (by (first | lia | omega))
      (first | lia | omega)
  refine ⟨hD, fdiv_of hD ?_ ?_⟩
  · rw [e1, e2, Int.mul_add, ← Int.mul_assoc, ← Int.mul_assoc]
    exact Int.add_le_add (Int.mul_le_mul_of_nonneg_right s1 (by (first | lia | omega))) (Int.mul_le_mul_of_nonneg_right s3 hm)
  · rw [e1, e2, Int.mul_add, ← Int.mul_assoc, ← Int.mul_assoc]
    rcases Int.lt_or_eq_of_le hm with h | h
    · exact Int.add_lt_add_of_le_of_lt (Int.mul_le_mul_of_nonneg_right (by (first | lia | omega)) (by (first | lia | omega))) (Int.mul_lt_mul_of_pos_right s4 h)
    · subst h
      have := Int.mul_lt_mul_of_pos_right s2 (show 0 < n - 0 by (first | lia | omega))
      (first | lia | omega)
theorem mediant {a b c d n m : Int} (hn : 0 < n) (hm : 0 ≤ m) (hmn : m ≤ n) (h : ¬ (c * (c + d) ≤ 0 ∨ a.fdiv c ≠ (a + b).fdiv (c + d))) : c * n + d * m ≠ 0 ∧ (a * n + b * m).fdiv (c * n + d * m) = a.fdiv c := by
  have hq : a.fdiv c = (a + b).fdiv (c + d) := Classical.byContradiction fun x => h (.inr x)
  have hp : 0 < c * (c + d) := by
    have : ¬ c * (c + d) ≤ 0 := fun x => h (.inl x)
    (first | lia | omega)
  rcases Int.lt_trichotomy c 0 with hc | hc | hc
  · have hd : c + d < 0 := by
      rcases (by (first | lia | omega) : c + d < 0 ∨ 0 ≤ c + d) with h | h
      · exact h
      · have : c * (c + d) ≤ 0 := Int.mul_nonpos_of_nonpos_of_nonneg (by (first | lia | omega)) h
        (first | lia | omega)
    obtain ⟨r1, r2⟩ := mediant_pos (a := -a) (b := -b) (c := -c) (d := -d) (n := n) (m := m) (by (first | lia | omega)) (by (first | lia | omega)) hn hm hmn (by
      rw [fdiv_flip, show -a + -b = -(a + b) from by (first | lia | omega), show -c + -d = -(c + d) from by (first | lia | omega), fdiv_flip]; exact hq)
    have e1 : -c * n + -d * m = -(c * n + d * m) := by rw [Int.neg_mul, Int.neg_mul]; (first | lia | omega)
    have e2 : -a * n + -b * m = -(a * n + b * m) := by rw [Int.neg_mul, Int.neg_mul]; (first | lia | omega)
    rw [e1] at r1 r2
    rw [e2, fdiv_flip, fdiv_flip] at r2
    exact ⟨by (first | lia | omega), r2⟩
  · subst hc; simp at hp
  · have hd : 0 < c + d := by
      rcases (by (first | lia | omega) : 0 < c + d ∨ c + d ≤ 0) with h | h
      · exact h
      · have : c * (c + d) ≤ 0 := Int.mul_nonpos_of_nonneg_of_nonpos (by (first | lia | omega)) h
        (first | lia | omega)
    obtain ⟨r1, r2⟩ := mediant_pos (b := b) hc hd hn hm hmn hq
    exact ⟨by (first | lia | omega), r2⟩
noncomputable def top_ (s : Int × Int × Int × Int) (n m : Int) : Int := s.1 * n + s.2.1 * m
noncomputable def bot_ (s : Int × Int × Int × Int) (n m : Int) : Int := s.2.2.1 * n + s.2.2.2 * m
theorem giv_ok {n m : Int} (hn : 0 < n) (hm : 0 ≤ m) (hmn : m ≤ n) : ∀ k s, cfR (top_ s n m) (bot_ s n m) = (giv k s).1 ++ cfR (top_ (giv k s).2 n m) (bot_ (giv k s).2 n m)
  | 0, s => rfl
  | k + 1, (a, b, c, d) => by
    rw [giv]
    split
    · rfl
    · rename_i h
      obtain ⟨h1, h2⟩ := mediant hn hm hmn h
      have ih := giv_ok hn hm hmn k (c, d, a - a.fdiv c * c, b - a.fdiv c * d)
      show cfR (a * n + b * m) (c * n + d * m) = a.fdiv c :: ((giv k _).1 ++ _)
      rw [cfR_step h1, h2, ← ih]
      congr 1
      show cfR (c * n + d * m) _ = cfR (c * n + d * m) ((a - a.fdiv c * c) * n + (b - a.fdiv c * d) * m)
      congr 1
      rw [Int.sub_mul, Int.sub_mul, Int.mul_add, Int.mul_assoc, Int.mul_assoc]
      (first | lia | omega)

/-- the last column's turns -/
noncomputable def euc : Nat → Int → Int → List Int
  | 0, _, _ => []
  | k + 1, a, c => if c = 0 then [] else a.fdiv c :: euc k c (a - a.fdiv c * c)
theorem euc_ok : ∀ k a c, (cfR a c).length ≤ k → euc k a c = cfR a c
  | 0, a, c, h => (List.eq_nil_of_length_eq_zero (Nat.le_zero.mp h)).symm
  | k + 1, a, c, h => by
    rw [euc]
    split
    · rename_i h0; subst h0; rfl
    · rename_i h0
      rw [cfR_step h0] at h ⊢
      rw [euc_ok k _ _ (by simpa using h)]
theorem cfR_len {a c : Int} {j : Nat} (h : c.natAbs < 2 ^ j) : (cfR a c).length ≤ 2 * j := by
  rcases Int.lt_trichotomy c 0 with hc | hc | hc
  · rw [cfR_neg hc]; exact cf_len j _ _ (by (first | lia | omega))
  · subst hc; simp [cfR_zero]
  · rw [cfR_pos hc]; exact cf_len j _ _ (by (first | lia | omega))
theorem cfR_scale {a c k : Int} (hk : 0 < k) : cfR (a * k) (c * k) = cfR a c := by
  obtain ⟨k', rfl⟩ : ∃ k' : Nat, k = k' := ⟨k.toNat, by (first | lia | omega)⟩
  rcases Int.lt_trichotomy c 0 with hc | hc | hc
  · have : c * (k' : Int) < 0 := Int.mul_neg_of_neg_of_pos hc hk
    rw [cfR_neg this, cfR_neg hc]
    refine cf_eq (by (first | lia | omega)) (by (first | lia | omega)) ?_
    rw [Int.toNat_of_nonneg (by (first | lia | omega)), Int.toNat_of_nonneg (by (first | lia | omega))]
    grind
  · subst hc; rw [Int.zero_mul]; rfl
  · have : 0 < c * (k' : Int) := Int.mul_pos hc hk
    rw [cfR_pos this, cfR_pos hc]
    refine cf_eq (by (first | lia | omega)) (by (first | lia | omega)) ?_
    rw [Int.toNat_of_nonneg (by (first | lia | omega)), Int.toNat_of_nonneg (by (first | lia | omega))]
    grind
/-- a rational by any pair of the same value -/
theorem cf_cfR {N D n : Int} {m : Nat} (hm : 0 < m) (hD : D ≠ 0) (h : n * D = N * (m : Int)) : cf n m = cfR N D := by
  rcases Int.lt_or_gt_of_ne hD with hc | hc
  · rw [cfR_neg hc]
    refine cf_eq hm (by (first | lia | omega)) ?_
    rw [Int.toNat_of_nonneg (by (first | lia | omega))]
    grind
  · rw [cfR_pos hc]
    refine cf_eq hm (by (first | lia | omega)) ?_
    rw [Int.toNat_of_nonneg (by (first | lia | omega))]
    exact h

theorem absorb1 {M : Nat} {a b z : Int} (h1 : a.natAbs ≤ M) (h2 : (a + b).natAbs ≤ M) : (a * z + b).natAbs ≤ M * (z.natAbs + 2) ∧ (a * z + b + a).natAbs ≤ M * (z.natAbs + 2) := by
  have e : (a * z).natAbs ≤ M * z.natAbs := by rw [Int.natAbs_mul]; exact Nat.mul_le_mul_right _ h1
  rw [Nat.mul_add]
  refine ⟨Nat.le_trans (nabs2 e (nabs_rest h2 h1)) (by (first | lia | omega)), ?_⟩
  rw [Int.add_assoc, Int.add_comm b a]
  exact Nat.le_trans (nabs2 e h2) (by (first | lia | omega))
theorem absorb2 {M : Nat} {a b z : Int} (h1 : a.natAbs ≤ M) (h2 : (a + b).natAbs ≤ M) (hz : 1 ≤ z) : (a * z + b).natAbs ≤ M * (z.natAbs + 1) ∧ (a * z + b + a).natAbs ≤ M * (z.natAbs + 1) := by
  obtain ⟨k, rfl⟩ : ∃ k : Nat, z = (k : Int) + 1 := ⟨(z - 1).toNat, by (first | lia | omega)⟩
  have e : (a * (k : Int)).natAbs ≤ M * k := by rw [Int.natAbs_mul, Int.natAbs_natCast]; exact Nat.mul_le_mul_right _ h1
  have e2 : ((k : Int) + 1).natAbs + 1 = k + 2 := by (first | lia | omega)
  rw [e2, Nat.mul_add, Int.mul_add, Int.mul_one, Int.add_assoc]
  refine ⟨Nat.le_trans (nabs2 e h2) (by (first | lia | omega)), ?_⟩
  rw [Int.add_assoc]
  exact Nat.le_trans (nabs2 e (nabs2 h2 h1)) (by (first | lia | omega))
theorem Bnd.absorb1 {M : Nat} {a b c d z : Int} (h : Bnd M (a, b, c, d)) : Bnd (M * (z.natAbs + 2)) (a * z + b, a, c * z + d, c) := by
  obtain ⟨h1, h2, h3, h4⟩ := h
  exact ⟨(Mine.absorb1 h1 h2).1, (Mine.absorb1 h1 h2).2, (Mine.absorb1 h3 h4).1, (Mine.absorb1 h3 h4).2⟩
theorem Bnd.absorb2 {M : Nat} {a b c d z : Int} (h : Bnd M (a, b, c, d)) (hz : 1 ≤ z) : Bnd (M * (z.natAbs + 1)) (a * z + b, a, c * z + d, c) := by
  obtain ⟨h1, h2, h3, h4⟩ := h
  exact ⟨(Mine.absorb2 h1 h2 hz).1, (Mine.absorb2 h1 h2 hz).2, (Mine.absorb2 h3 h4 hz).1, (Mine.absorb2 h3 h4 hz).2⟩
theorem absorb_eq {a b n m z r : Int} (h : n = z * m + r) : (a * z + b) * m + a * r = a * n + b * m := by
  subst h; grind
/-- the loop's invariant: the parts left are those of n / m -/
noncomputable def Inw (n0 : Int) (m0 : Nat) (due : List Int) (i : Nat) (s : Int × Int × Int × Int) (told : List Int) : Prop :=
  ∃ (n : Int) (m M : Nat), (cf n0 m0).drop i = cf n m ∧ due = told ++ cfR (top_ s n m) (bot_ s n m) ∧ Bnd M s ∧ n.natAbs ≤ 80 ∧ m ≤ 40 ∧
    ((i = 0 ∧ 0 < m ∧ M ≤ 7) ∨ (0 < i ∧ 0 < n ∧ (m : Int) ≤ n ∧ n ≤ 40 ∧ M * n.natAbs ≤ 2 ^ i * 32768))
theorem parts_len {n0 : Int} {m0 : Nat} (h : m0 ≤ 40) : (cf n0 m0).length ≤ 12 := cf_len 6 n0 m0 (by (first | lia | omega))
theorem Inw.step {n0 : Int} {m0 : Nat} {due : List Int} {i : Nat} {a b c d : Int} {told : List Int} (h : Inw n0 m0 due i (a, b, c, d) told) (h0 : m0 ≤ 40) (hi : i < (cf n0 m0).length) :
    ∃ M z, (cf n0 m0)[i]? = some z ∧ z.natAbs ≤ 80 ∧ M < 2 ^ 40 ∧ Bnd M (a * z + b, a, c * z + d, c) ∧
      Inw n0 m0 due (i + 1) (giv 60 (a * z + b, a, c * z + d, c)).2 (told ++ (giv 60 (a * z + b, a, c * z + d, c)).1) ∧ told.length ≤ due.length ∧ a.natAbs < 2 ^ 40 ∧ c.natAbs < 2 ^ 40 := by
  obtain ⟨n, m, M, hd, hdue, hb, hn, hm, hc⟩ := h
  have hpl := parts_len (n0 := n0) h0
  have hm0 : 0 < m := by
    rcases Nat.eq_zero_or_pos m with e | e
    · subst e
      rw [cf_zero] at hd
      have := congrArg List.length hd
      simp at this; (first | lia | omega)
    · exact e
  have h1 := Int.emod_lt_of_pos n (show (0 : Int) < m by (first | lia | omega))
  have h2 := Int.emod_nonneg n (show (m : Int) ≠ 0 by (first | lia | omega))
  have hdm := Int.mul_ediv_add_emod n m
  rw [cf_pos n hm0] at hd
  have hz : (cf n0 m0)[i]? = some (n / (m : Int)) := by
    rw [← Nat.add_zero i, ← List.getElem?_drop, hd]; rfl
  have hd' : (cf n0 m0).drop (i + 1) = cf m (n % (m : Int)).toNat := by
    rw [← List.drop_drop, hd]; rfl
  have hzb : (n / (m : Int)).natAbs ≤ n.natAbs := Int.natAbs_ediv_le_natAbs n m
  have hdle : told.length ≤ due.length := by rw [hdue]; simp
  have hab : a.natAbs ≤ M ∧ c.natAbs ≤ M := ⟨hb.1, hb.2.2.1⟩
  have hr : ((n % (m : Int)).toNat : Int) = n % (m : Int) := by (first | lia | omega)
  have ht : top_ (a, b, c, d) n m = top_ (a * (n / (m : Int)) + b, a, c * (n / (m : Int)) + d, c) m (n % (m : Int)).toNat := by
    rw [hr]; exact (absorb_eq (by rw [Int.mul_comm]; exact hdm.symm)).symm
  have hbt : bot_ (a, b, c, d) n m = bot_ (a * (n / (m : Int)) + b, a, c * (n / (m : Int)) + d, c) m (n % (m : Int)).toNat := by
    rw [hr]; exact (absorb_eq (by rw [Int.mul_comm]; exact hdm.symm)).symm
  rw [ht, hbt, giv_ok (n := m) (m := (n % (m : Int)).toNat) (by (first | lia | omega)) (by (first | lia | omega)) (by (first | lia | omega)) 60] at hdue
  have hstep : ∃ M', Bnd M' (a * (n / (m : Int)) + b, a, c * (n / (m : Int)) + d, c) ∧ M' * m ≤ 2 ^ (i + 1) * 32768 ∧ M < 2 ^ 40 := by
    rcases hc with ⟨rfl, _, hM⟩ | ⟨hi0, n0', hmn, hn40, hM⟩
    · refine ⟨_, hb.absorb1, ?_, by (first | lia | omega)⟩
      have a1 : M * ((n / (m : Int)).natAbs + 2) ≤ 7 * 82 := Nat.mul_le_mul hM (by (first | lia | omega))
      have a2 := Nat.mul_le_mul a1 hm
      (first | lia | omega)
    · have hz1 : 1 ≤ n / (m : Int) := (Int.le_ediv_iff_mul_le (by (first | lia | omega))).mpr (by (first | lia | omega))
      refine ⟨_, hb.absorb2 hz1, ?_, ?_⟩
      · have a1 : (n / (m : Int)).natAbs * m ≤ n.natAbs := by
          have := Int.ediv_mul_le n (show (m : Int) ≠ 0 by (first | lia | omega))
          have e : (((n / (m : Int)).natAbs * m : Nat) : Int) = n / (m : Int) * m := by rw [Int.natCast_mul]; congr 1; (first | lia | omega)
          (first | lia | omega)
        have a2 : ((n / (m : Int)).natAbs + 1) * m ≤ 2 * n.natAbs := by
          rw [Nat.add_mul]
          (first | lia | omega)
        have a3 : M * ((n / (m : Int)).natAbs + 1) * m ≤ M * (2 * n.natAbs) := by
          rw [Nat.mul_assoc]; exact Nat.mul_le_mul_left _ a2
        have a4 : M * (2 * n.natAbs) = 2 * (M * n.natAbs) := by rw [Nat.mul_left_comm]
        rw [Nat.pow_succ]
        (first | lia | omega)
      · have a1 : M * 1 ≤ M * n.natAbs := Nat.mul_le_mul_left _ (by (first | lia | omega))
        have a2 : 2 ^ i ≤ 2 ^ 12 := Nat.pow_le_pow_right (by decide) (by (first | lia | omega))
        (first | lia | omega)
  obtain ⟨M', hb', hM', hMM⟩ := hstep
  have hM40 : M' < 2 ^ 40 := by
    have a1 : M' * 1 ≤ M' * m := Nat.mul_le_mul_left _ (by (first | lia | omega))
    have a2 : 2 ^ (i + 1) ≤ 2 ^ 12 := Nat.pow_le_pow_right (by decide) (by (first | lia | omega))
    (first | lia | omega)
  refine ⟨M', n / (m : Int), hz, by (first | lia | omega), hM40, hb', ⟨m, (n % (m : Int)).toNat, M', hd', ?_, giv_bnd 60 _ hb', by (first | lia | omega), by (first | lia | omega), .inr ⟨by (first | lia | omega), by (first | lia | omega), by (first | lia | omega), by (first | lia | omega), ?_⟩⟩, hdle, by (first | lia | omega), by (first | lia | omega)⟩
  · rw [hdue, List.append_assoc]
  · rw [Int.natAbs_natCast]; exact hM'
theorem Inw.take {n0 : Int} {m0 : Nat} {due : List Int} {i : Nat} {s : Int × Int × Int × Int} {told : List Int} (h : Inw n0 m0 due i s told) : due.take told.length = told := by
  obtain ⟨n, m, M, hd, hdue, _⟩ := h
  rw [hdue]; simp
theorem Inw.len {n0 : Int} {m0 : Nat} {due : List Int} {i : Nat} {s : Int × Int × Int × Int} {told : List Int} (h : Inw n0 m0 due i s told) : told.length ≤ due.length := by
  obtain ⟨n, m, M, hd, hdue, _⟩ := h
  rw [hdue]; simp
theorem Inw.end {n0 : Int} {m0 : Nat} {due : List Int} {a b c d : Int} {told : List Int} (h : Inw n0 m0 due (cf n0 m0).length (a, b, c, d) told) (h0 : m0 ≤ 40) (h1 : 0 < m0) :
    told ++ euc 60 a c = due ∧ a.natAbs < 2 ^ 30 ∧ c.natAbs < 2 ^ 30 := by
  obtain ⟨n, m, M, hd, hdue, hb, hn, hm, hc⟩ := h
  have hpl := parts_len (n0 := n0) h0
  rw [List.drop_length] at hd
  have hm0 : m = 0 := by
    rcases Nat.eq_zero_or_pos m with e | e
    · exact e
    · rw [cf_pos n e] at hd; cases hd
  subst hm0
  rcases hc with ⟨_, h, _⟩ | ⟨hi0, n0', hmn, hn40, hM⟩
  · (first | lia | omega)
  · have hMM : M < 2 ^ 30 := by
      have a1 : M * 1 ≤ M * n.natAbs := Nat.mul_le_mul_left _ (by (first | lia | omega))
      have a2 : 2 ^ (cf n0 m0).length ≤ 2 ^ 12 := Nat.pow_le_pow_right (by decide) hpl
      (first | lia | omega)
    have ha : a.natAbs < 2 ^ 30 := Nat.lt_of_le_of_lt hb.1 hMM
    have hc : c.natAbs < 2 ^ 30 := Nat.lt_of_le_of_lt hb.2.2.1 hMM
    refine ⟨?_, ha, hc⟩
    have e1 : top_ (a, b, c, d) n (0 : Nat) = a * n := by simp [top_]
    have e2 : bot_ (a, b, c, d) n (0 : Nat) = c * n := by simp [bot_]
    rw [e1, e2, cfR_scale n0'] at hdue
    rw [hdue, euc_ok 60 a c (cfR_len hc)]
/-- the start: all that is due -/
theorem Inw.start {n0 p q N a b c d : Int} {m0 M0 : Nat} (hm0 : 0 < m0) (hq : 0 < q) (hM0 : 0 < M0) (e1 : n0 * q = p * (m0 : Int)) (e2 : N * (c * p + d * q) = (a * p + b * q) * (M0 : Int)) (hD : c * p + d * q ≠ 0)
    (b1 : n0.natAbs ≤ 80) (b2 : m0 ≤ 40) (ba : a.natAbs ≤ 3) (bb : b.natAbs ≤ 3) (bc : c.natAbs ≤ 3) (bd : d.natAbs ≤ 4) : Inw n0 m0 (cf N M0) 0 (a, b, c, d) [] := by
  refine ⟨n0, m0, 7, rfl, ?_, ⟨by show a.natAbs ≤ 7; (first | lia | omega), Nat.le_trans (nabs2 ba bb) (by decide), by show c.natAbs ≤ 7; (first | lia | omega), Nat.le_trans (nabs2 bc bd) (by decide)⟩, b1, b2, .inl ⟨rfl, hm0, by (first | lia | omega)⟩⟩
  rw [cf_cfR hM0 hD e2, List.nil_append, ← cfR_scale (k := (m0 : Int)) (by (first | lia | omega)), ← cfR_scale (a := top_ _ _ _) (k := q) hq]
  congr 1
  · show (a * p + b * q) * (m0 : Int) = (a * n0 + b * m0) * q
    grind
  · show (c * p + d * q) * (m0 : Int) = (c * n0 + d * m0) * q
    grind
theorem fold_check {n0 p q : Int} {m0 : Nat} (hm0 : 0 < m0) (e1 : n0 * q = p * (m0 : Int)) : (foldP (cf n0 m0)).1 * q = p * (foldP (cf n0 m0)).2 ∧ (foldP (cf n0 m0)).2 ≠ 0 := by
  obtain ⟨g, g0, h1, h2⟩ := foldP_cf m0 n0 m0 (Nat.le_refl _) (.inl hm0)
  refine ⟨Int.eq_of_mul_eq_mul_right (show g ≠ 0 by (first | lia | omega)) ?_, fun e => ?_⟩
  · rw [← h1, ← h2] at e1
    grind
  · rw [e] at h2; (first | lia | omega)
theorem cf_mem_small {n : Int} {m : Nat} (h1 : n.natAbs < 2 ^ 40) (h2 : m < 2 ^ 40) : ∀ z ∈ cf n m, z.natAbs < 2 ^ 60 := fun z hz => by
  -- every part is at most the top or the bottom it is made of
  have : ∀ (k : Nat) (n : Int) (m : Nat), m ≤ k → n.natAbs < 2 ^ 40 → m < 2 ^ 40 → ∀ z ∈ cf n m, z.natAbs < 2 ^ 40 := by
    intro k
    induction k with
    | zero =>
      intro n m h _ _ z hz
      have : m = 0 := by (first | lia | omega)
      subst this; simp [cf_zero] at hz
    | succ k ih =>
      intro n m h a1 a2 z hz
      rcases Nat.eq_zero_or_pos m with rfl | hm
      · simp [cf_zero] at hz
      · rw [cf_pos n hm] at hz
        have h1 := Int.emod_lt_of_pos n (show (0 : Int) < m by (first | lia | omega))
        have h2 := Int.emod_nonneg n (show (m : Int) ≠ 0 by (first | lia | omega))
        rcases List.mem_cons.mp hz with rfl | hz
        · have := Int.natAbs_ediv_le_natAbs n m; (first | lia | omega)
        · exact ih m (n % (m : Int)).toNat (by (first | lia | omega)) (by (first | lia | omega)) (by (first | lia | omega)) z hz
  have := this m n m (Nat.le_refl _) h1 h2 z hz
  (first | lia | omega)

noncomputable def lawStmt : Stmt := PySem.Challenge.pw_tk0049_01.main.body.getLast?.getD (.Pass ⟨0, 0, 0, 0⟩)
noncomputable def lawPack : { q : List Stmt × Scope // ∃ n a d r t ts b p, lawStmt = .FunctionDef n a q.1 d r t q.2 ts b p } := ⟨(_, _), ⟨_, _, _, _, _, _, _, _, rfl⟩⟩
noncomputable def lawBody : List Stmt := lawPack.1.1
noncomputable def lawScope : Scope := lawPack.1.2
theorem lawKind : lawScope.kind = .function := rfl
@[reducible] noncomputable def lawC (L a : Addr) (ccd : Value) (g : Heap) : Cx :=
  { dp := callerA.depth + 1, un := callerA.units + 3, gd := callerA.guards, cn := Str.ofString "law", cs := lawScope, L := L, a := a, ccd := ccd, cl := [(Str.ofString "w", L + 2), (Str.ofString "tub", L + 1)], outer := [], A₀ := callerA, base := g, h₀ := g }
section
variable {G : Glo} {c : Cx} {ℓ : Loc} {H : Hp} {Q : PF → Loc → Hp → Prop} {r : Nat} {pos : Pos} {rest : List Stmt}
theorem ts_as {ss ss' : List Stmt} (e : ss = ss') (h : TS G c ℓ H ss' Q) : TS G c ℓ H ss Q := by rw [e]; exact h
theorem ints_of {vs : List Value} {zs : List Int} (e : vs.map pv = intL zs) : IntsAre vs zs := by
  induction vs generalizing zs with
  | nil =>
    cases zs with
    | nil => exact .nil
    | cons z zs => simp [intL] at e
  | cons v vs ih =>
    cases zs with
    | nil => simp [intL] at e
    | cons z zs =>
      simp only [intL, List.map_cons, List.cons.injEq] at e
      obtain ⟨t, rfl⟩ := pv_int e.1
      exact .cons z t (ih e.2)
theorem ints_pv {vs : List Value} {zs : List Int} (h : IntsAre vs zs) : vs.map pv = intL zs := by
  induction h with
  | nil => rfl
  | cons n t h ih => simp only [intL, List.map_cons] at ih ⊢; rw [ih]; rfl
end
section
variable {G : Glo} {c : Cx} {ℓ : Loc} {H : Hp} {r : Nat} {pos : Pos}
theorem tt_neLs {l rr : Expr} {Q : Bool → Hp → Prop} (ok : c.Ok G (r + 7)) (h : TE G c ℓ H l fun a H₁ => TE G c ℓ H₁ rr fun b H₂ => ∃ x y xs ys, a = .ref x ∧ b = .ref y ∧ IsL H₂ x (intL xs) ∧ IsL H₂ y (intL ys) ∧ Q (!decide (xs = ys)) H₂)
    (hm : behindInMarks .NotEq rr = false) : TT G c ℓ H (.Compare l [.NotEq] [rr] pos) Q := fun fr s m n S =>
  wpAny_isTrue_Compare1 (Tx.seq S h fun u s₁ H₁ m₁ n₁ e₁ S₁ h₁ => Tx.seq S₁ h₁ fun v s₂ H₂ m₂ n₂ e₂ S₂ h₂ => by
    obtain ⟨_, _, rfl⟩ := e₁; obtain ⟨_, _, rfl⟩ := e₂
    obtain ⟨x, y, xs, ys, e1, e2, l1, l2, q⟩ := h₂
    cases pv_ref e1; cases pv_ref e2
    obtain ⟨vs, j, hg, e⟩ := S₂.list l1
    obtain ⟨us, j', hg', e'⟩ := S₂.list l2
    have := ok.un
    exact ne_intsK (isList_of hg) (ints_of e) (isList_of hg') (ints_of e') (by show c.un + 64 < cLine; (first | lia | omega)) (wpAny_truthy_bool ⟨_, ⟨⟨_, _, rfl⟩, _, _, S₂⟩, q⟩)) hm
theorem te_eqLs {l rr : Expr} {Q : PV → Hp → Prop} (ok : c.Ok G (r + 7)) (h : TE G c ℓ H l fun a H₁ => TE G c ℓ H₁ rr fun b H₂ => ∃ x y xs ys, a = .ref x ∧ b = .ref y ∧ IsL H₂ x (intL xs) ∧ IsL H₂ y (intL ys) ∧ Q (.bool (decide (xs = ys))) H₂)
    (hm : behindInMarks .Eq rr = false) : TE G c ℓ H (.Compare l [.Eq] [rr] pos) Q := fun fr s m n S =>
  wpAny_Compare1 (Tx.seq S h fun u s₁ H₁ m₁ n₁ e₁ S₁ h₁ => Tx.seq S₁ h₁ fun v s₂ H₂ m₂ n₂ e₂ S₂ h₂ => by
    obtain ⟨_, _, rfl⟩ := e₁; obtain ⟨_, _, rfl⟩ := e₂
    obtain ⟨x, y, xs, ys, e1, e2, l1, l2, q⟩ := h₂
    cases pv_ref e1; cases pv_ref e2
    obtain ⟨vs, j, hg, e⟩ := S₂.list l1
    obtain ⟨us, j', hg', e'⟩ := S₂.list l2
    have := ok.un
    exact eq_intsK (isList_of hg) (ints_of e) (isList_of hg') (ints_of e') (by show c.un + 64 < cLine; (first | lia | omega)) ⟨_, ⟨⟨_, _, rfl⟩, _, _, S₂⟩, q⟩) hm
/-- a slice of a list that stood before the call -/
theorem te_sliceB {value : Expr} {lower upper : Option Expr} {sp : Pos} {Q : PV → Hp → Prop} (h : TE G c ℓ H value fun o H₁ => TP G c ℓ H₁ lower fun lo H₂ => TP G c ℓ H₂ upper fun hi H₃ => ∃ a vs, o = .ref a ∧ c.h₀.IsList a (vs : List Value).toArray ∧ vs.length ≤ 1000 ∧ ∀ d, H₃ d = none → Q (.ref d) (upd H₃ d (.list (pickL (vs.map pv) lo hi)))) :
    TE G c ℓ H (.Subscript value (.Slice lower upper none sp) pos) Q := fun fr s m n S =>
  Subscript_ (Tx.seq S h fun u s₁ H₁ m₁ n₁ e₁ S₁ h₁ => wpAny_Slice (Tx.seq S₁ h₁ fun vl s₂ H₂ m₂ n₂ e₂ S₂ h₂ => by
    obtain ⟨lo, pl, h₂⟩ := h₂
    refine Tx.seq S₂ h₂ fun vu s₃ H₃ m₃ n₃ e₃ S₃ h₃ => ?_
    obtain ⟨hi, pu, h₃⟩ := h₃
    obtain ⟨_, _, rfl⟩ := e₁; obtain ⟨_, _, rfl⟩ := e₂; obtain ⟨_, _, rfl⟩ := e₃
    obtain ⟨a, vs, eo, ⟨o, hg₀, hcl, k, hdt⟩, hz, q⟩ := h₃
    cases pv_ref eo
    have hg := S₃.F.keep _ _ hg₀
    have hl : Heap.IsList _ a vs.toArray := ⟨o, hg, hcl, k, hdt⟩
    refine wpAny_pure ?_
    refine tail_any (ops := [.ref _, .ref a]) (T := "list") ⟨_, Heap.get?_push_of_some _ hg, hcl⟩ list_getitem_lookup ?_ rfl
    refine wpAny_getItem_list_slice (hl.push _) (Heap.IsSliceOf.new ..) pl pu .none (by simp) ?_ (by
      rw [List.size_toArray]; show _ ≤ 2 ^ 24; (first | lia | omega))
    have N1 := News.push (S₃.F.push { cls := .type "slice", data := .fields #[vl, vu, .none] }) (S₃.N.grown fun _ _ e => Heap.get?_push_of_some _ e) { cls := .type "list", data := .seq (slicePick vs.toArray lo hi none) }
    refine ⟨_, ⟨⟨_, _, rfl⟩, _, _, S₃.alloc (p := .list (pickL (vs.map pv) lo hi)) ?_ ((S₃.F.push _).push _) N1 ⟨(slicePick vs.toArray lo hi none).toList, 0, ?_, ?_⟩⟩, q _ (S₃.none_of_size ?_)⟩
    · rw [Heap.size_push]; exact Nat.le_succ _
    · simp [listObj]
    · exact pick_map _ _ _
    · rw [Heap.size_push]; exact Nat.le_succ _))
end

theorem intL_take (zs : List Int) (k : Nat) : (intL zs).take k = intL (zs.take k) := (List.map_take ..).symm
theorem intL_snoc (zs : List Int) (z : Int) : intL zs ++ [.int z] = intL (zs ++ [z]) := by simp [intL]
inductive J1_law0 (s : Addr) (L : Addr) (ys : List Int) (i : Nat) (us : List PV) (D : Addr) (H' : Hp) : Prop
  | mk (h1_ : (D ≠ s ∧ D ≠ L + 1 ∧ D ≠ L + 2)) (h2_ : H' D = some (.list us)) (h3_ : H' s = some (.ro (intL ys))) (h4_ : H' (L + 1) = some .ecell) (h5_ : H' (L + 2) = some .ecell) (gs) (h6_ : us = intL gs) : J1_law0 s L ys i us D H'
theorem law0 {d : Wd} {L fa l : Addr} {ccd : Value} {g : Heap} {r : Nat} (ok : (lawC L fa ccd g).Ok (GW d) (r + 20)) {H : Hp} {vs : List Value} {zs : List Int} {Q : PF → Loc → Hp → Prop}
    (hl : g.IsList l vs.toArray) (hi : IntsAre vs zs) (hz : zs.length ≤ 63) (h1 : H (L + 1) = some .ecell) (h2 : H (L + 2) = some .ecell)
    (k : ∀ H' lt li gs, H' (L + 1) = some (.cell (.ref lt)) → H' (L + 2) = some .ecell → H' lt = some (.list [.int 0, .ref li]) → H' li = some (.list (intL gs)) → li ≠ lt → gs.length ≤ 100 → TS (GW d) (lawC L fa ccd g) [("script", .ref l)] H' (lawBody.drop 1) Q) :
    TS (GW d) (lawC L fa ccd g) [("script", .ref l)] H lawBody Q := by
  have hpv := ints_pv hi
  have hvl : vs.length = zs.length := by have := congrArg List.length hpv; simpa [intL] using this
  refine ts_as (ss' := _ :: lawBody.drop 1) (by exact rfl) ?_
  refine ts_assignC0 (a := L + 1) (by assumption) (by exact rfl) ?_ (by exact rfl) (by exact rfl)
  repeat k_updF
  refine te_compL [] ?_ (by exact rfl) (by decide) rfl (by decide) (by exact rfl) (by intros; exact rfl)
  refine te_sliceB ?_
  repeat k_updF
  intro s hs
  rw [hpv, pick_upto _ (by decide), show Int.toNat 7 = 7 from rfl, intL_take]
  have hz7 : (zs.take 7).length ≤ 7 := by rw [List.length_take]; (first | lia | omega)
  generalize zs.take 7 = ys at *
  have h1s : L + 1 ≠ s := fun e => by rw [← e, h1] at hs; cases hs
  have h2s : L + 2 ≠ s := fun e => by rw [← e, h2] at hs; cases hs
  refine ⟨J1_law0 s L ys, s, intL ys, rfl, upd_self, by rw [intL_len]; (first | lia | omega), ?_, ?_, ?_, ?_⟩
  · intro D hDs hD
    rw [upd_ne hDs] at hD
    have d1 : D ≠ L + 1 := fun e => by rw [e, h1] at hD; cases hD
    have d2 : D ≠ L + 2 := fun e => by rw [e, h2] at hD; cases hD
    refine ⟨⟨hDs, d1, d2⟩, upd_self, by rw [upd_ne (Ne.symm hDs), upd_self], ?_, ?_, [], rfl⟩
    · rw [upd_ne (Ne.symm d1), upd_ne h1s, upd_ne h1s]; exact h1
    · rw [upd_ne (Ne.symm d2), upd_ne h2s, upd_ne h2s]; exact h2
  · rintro i us D H' ⟨_, a, b, _⟩
    exact ⟨a, b⟩
  · rintro i u us H' C oC m₂ D hi' hyl ⟨⟨d0, d1, d2⟩, a, b, e1, e2, gs, rfl⟩ hoC hm
    obtain ⟨hi2, hu⟩ := intL_at hi'
    refine xe_abs (by assumption) b_abs ?_ (by exact rfl) (by exact rfl) (by exact rfl) (by exact rfl) (by exact rfl) (by exact rfl)
    refine xe_int1 (by assumption) b_int ?_ (by exact rfl) (by exact rfl) (by exact rfl) (by exact rfl) (by exact rfl) (by exact rfl)
    refine xe_loc (List.mem_singleton.mpr rfl) hoC hm ?_ (by exact rfl) (by exact rfl) (by exact rfl) (by decide)
    rw [hu]
    refine ⟨_, rfl, _, rfl, upd_self, ⟨d0, d1, d2⟩, upd_self, ?_, ?_, ?_, _, intL_snoc _ _⟩
    · rw [upd_ne (Ne.symm d0), upd_ne (Ne.symm d0)]; exact b
    · rw [upd_ne (Ne.symm d1), upd_ne (Ne.symm d1)]; exact e1
    · rw [upd_ne (Ne.symm d2), upd_ne (Ne.symm d2)]; exact e2
  · rintro us D H' ⟨⟨d0, d1, d2⟩, a, b, e1, e2, gs, rfl⟩ hyl
    rw [intL_len, intL_len] at hyl
    refine ta_nil ⟨Nat.le_of_ble_eq_true rfl, fun lt hlt => ?_⟩
    have a' : upd H' s (.list (intL ys)) D = some (.list (intL gs)) := by rw [upd_ne d0]; exact a
    have e1' : upd H' s (.list (intL ys)) (L + 1) = some .ecell := by rw [upd_ne h1s]; exact e1
    have e2' : upd H' s (.list (intL ys)) (L + 2) = some .ecell := by rw [upd_ne h2s]; exact e2
    generalize upd H' s (.list (intL ys)) = H₁ at *
    have t0 : D ≠ lt := fun e => by rw [e, hlt] at a'; cases a'
    have t1 : L + 1 ≠ lt := fun e => by rw [e, hlt] at e1'; cases e1'
    have t2 : L + 2 ≠ lt := fun e => by rw [e, hlt] at e2'; cases e2'
    have t3 : L + 2 ≠ L + 1 := fun e => by simp at e
    refine ⟨by rw [upd_ne t1]; exact e1', ?_⟩
    refine k _ lt D gs upd_self ?_ ?_ ?_ t0 (by (first | lia | omega))
    · rw [upd_ne t3, upd_ne t2]; exact e2'
    · rw [upd_ne (Ne.symm t1), upd_self]
    · rw [upd_ne d1, upd_ne t0]; exact a'

/-- the tub, the cells -/
noncomputable def Tub (L lt li : Addr) (gs : List Int) (X : PO) (H : Hp) (k : Int) : Prop :=
  H (L + 1) = some (.cell (.ref lt)) ∧ H (L + 2) = some X ∧ (∀ xs, X ≠ .list xs) ∧ H lt = some (.list [.int k, .ref li]) ∧ H li = some (.list (intL gs)) ∧ li ≠ lt ∧ gs.length ≤ 100
theorem Tub.ne1 {L lt li : Addr} {gs : List Int} {X : PO} {H : Hp} {k : Int} (h : Tub L lt li gs X H k) : L + 1 ≠ lt := fun e => by
  obtain ⟨a, b, c, f, _⟩ := h
  rw [e, f] at a; cases a
theorem Tub.ne2 {L lt li : Addr} {gs : List Int} {X : PO} {H : Hp} {k : Int} (h : Tub L lt li gs X H k) : L + 2 ≠ lt := fun e => by
  obtain ⟨a, b, c, f, _⟩ := h
  rw [e, f] at b; cases b; exact c _ rfl
theorem Tub.step {L lt li : Addr} {gs : List Int} {X : PO} {H : Hp} {k : Int} (h : Tub L lt li gs X H k) : Tub L lt li gs X (upd H lt (.list [.int (k + 1), .ref li])) (k + 1) := by
  have n1 := h.ne1
  have n2 := h.ne2
  obtain ⟨a, b, c, f, g, i, j⟩ := h
  exact ⟨by rw [upd_ne n1]; exact a, by rw [upd_ne n2]; exact b, c, upd_self, by rw [upd_ne i]; exact g, i, j⟩
theorem Tub.le {L lt li : Addr} {gs : List Int} {X : PO} {H H' : Hp} {k : Int} (h : Tub L lt li gs X H k) (l : Le H H') : Tub L lt li gs X H' k := by
  obtain ⟨a, b, c, f, g, i, j⟩ := h
  exact ⟨l _ _ a, l _ _ b, c, l _ _ f, l _ _ g, i, j⟩
theorem Tub.store {L lt li : Addr} {gs : List Int} {X : PO} {H : Hp} {k : Int} {v : PV} (h : Tub L lt li gs X H k) : Tub L lt li gs (.cell v) (upd H (L + 2) (.cell v)) k := by
  have n2 := h.ne2
  obtain ⟨a, b, c, f, g, i, j⟩ := h
  have n3 : L + 1 ≠ L + 2 := fun e => by simp at e
  have n4 : li ≠ L + 2 := fun e => by rw [← e, g] at b; cases b; exact c _ rfl
  exact ⟨by rw [upd_ne n3]; exact a, upd_self, (fun _ e => nomatch e), by rw [upd_ne (Ne.symm n2)]; exact f, by rw [upd_ne n4]; exact g, i, j⟩
theorem c_sift {d : Wd} {c : Cx} {ℓ : Loc} {H : Hp} {r : Nat} (ok : c.Ok (GW d) (r + 1)) {L lt li : Addr} {gs : List Int} {X : PO} {k many : Int} (h : Tub L lt li gs X H k) (hk : 0 ≤ k) (hk' : k < 1000) (hm : 0 < many) :
    FC (GW d) c ℓ H 268 [.ref lt, .int many] fun v H' => ∃ g, v = .int g ∧ 0 ≤ g ∧ g < many ∧ Tub L lt li gs X H' (k + 1) ∧ LeX lt H H' :=
  (c_law_sifted ok h.2.2.2.1 (.inl h.2.2.2.2.1) hk hk' hm h.2.2.2.2.2.1 h.2.2.2.2.2.2).mono fun v H' ⟨g, e, g0, g1, eH⟩ => ⟨g, e, g0, g1, by rw [eH]; exact h.step, by rw [eH]; exact (LeX.refl _ _).upd⟩
theorem law1 {d : Wd} {L fa l lt li : Addr} {ccd : Value} {g : Heap} {r : Nat} (ok : (lawC L fa ccd g).Ok (GW d) (r + 20)) {H : Hp} {gs : List Int} {Q : PF → Loc → Hp → Prop} (ht : Tub L lt li gs .ecell H 0)
    (k : ∀ H' (w q : Nat) (p : Int), Tub L lt li gs (.cell (.int w)) H' 3 → 3 ≤ w → w ≤ 8 → 1 ≤ q → q ≤ 40 → p.natAbs ≤ 80 → TS (GW d) (lawC L fa ccd g) [("q", .int q), ("p", .int p), ("script", .ref l)] H' (lawBody.drop 2) Q) :
    TS (GW d) (lawC L fa ccd g) [("script", .ref l)] H (lawBody.drop 1) Q := by
  refine ts_as (ss' := _ :: lawBody.drop 2) (by exact rfl) ?_
  refine ts_unpack ?_ (by rfl) (by rfl) (by rfl)
  repeat k_updF
  refine te_call (by assumption) k_law_sifted ?_ (by exact rfl) (by exact rfl)
  refine te_global g_law_sifted ?_ (by assumption) (by exact rfl) (by decide)
  refine ⟨rfl, ?_⟩
  repeat k_updF
  refine te_cell ht.1 (by exact rfl) ?_ (by assumption) (by exact rfl) (by decide)
  repeat k_updF
  refine (c_sift ok ht (by decide) (by decide) (by decide)).mono ?_
  rintro _ H₁ ⟨g1, rfl, g10, g11, ht1, _⟩
  repeat k_updF
  refine te_call (by assumption) k_law_sifted ?_ (by exact rfl) (by exact rfl)
  refine te_global g_law_sifted ?_ (by assumption) (by exact rfl) (by decide)
  refine ⟨rfl, ?_⟩
  repeat k_updF
  refine te_cell ht1.1 (by exact rfl) ?_ (by assumption) (by exact rfl) (by decide)
  repeat k_updF
  refine (c_sift ok ht1 (by decide) (by decide) (by decide)).mono ?_
  rintro _ H₂ ⟨g2, rfl, g20, g21, ht2, _⟩
  repeat k_updF
  refine te_call (by assumption) k_law_sifted ?_ (by exact rfl) (by exact rfl)
  refine te_global g_law_sifted ?_ (by assumption) (by exact rfl) (by decide)
  refine ⟨rfl, ?_⟩
  repeat k_updF
  refine te_cell ht2.1 (by exact rfl) ?_ (by assumption) (by exact rfl) (by decide)
  repeat k_updF
  refine (c_sift ok ht2 (by decide) (by decide) (by decide)).mono ?_
  rintro _ H₃ ⟨g3, rfl, g30, g31, ht3, _⟩
  repeat k_updF
  refine ⟨Nat.le_of_ble_eq_true rfl, fun t htn => ⟨t, _, rfl, .inl upd_self, rfl, ?_⟩⟩
  have ht4 := ht3.le (.upd (p := .tup [.int (3 + g1), .int (g2 - 80), .int (1 + g3)]) htn)
  obtain ⟨w, hw⟩ : ∃ w : Nat, 3 + g1 = w := ⟨(3 + g1).toNat, by (first | lia | omega)⟩
  obtain ⟨q, hq⟩ : ∃ q : Nat, 1 + g3 = q := ⟨(1 + g3).toNat, by (first | lia | omega)⟩
  rw [hw, hq] at ht4 ⊢
  refine to_cell0 (a := L + 2) (by assumption) (by exact rfl) (by exact rfl) ht4.2.1 ?_
  refine to_name (by assumption) (by exact rfl) ?_
  refine to_name (by assumption) (by exact rfl) ?_
  refine to_nil ?_
  exact k _ w q (g2 - 80) ht4.store (by (first | lia | omega)) (by (first | lia | omega)) (by (first | lia | omega)) (by (first | lia | omega)) (by (first | lia | omega))

theorem Tub.upd {L lt li D : Addr} {gs : List Int} {X p : PO} {H : Hp} {k : Int} (h : Tub L lt li gs X H k) (n1 : D ≠ L + 1) (n2 : D ≠ L + 2) (n3 : D ≠ lt) (n4 : D ≠ li) : Tub L lt li gs X (Mine.upd H D p) k := by
  obtain ⟨a, b, c, f, g, i, j⟩ := h
  exact ⟨by rw [upd_ne (Ne.symm n1)]; exact a, by rw [upd_ne (Ne.symm n2)]; exact b, c, by rw [upd_ne (Ne.symm n3)]; exact f, by rw [upd_ne (Ne.symm n4)]; exact g, i, j⟩
theorem Tub.new {L lt li D : Addr} {gs : List Int} {X : PO} {H : Hp} {k : Int} (h : Tub L lt li gs X H k) (hD : H D = none) : D ≠ L + 1 ∧ D ≠ L + 2 ∧ D ≠ lt ∧ D ≠ li := by
  obtain ⟨a, b, c, f, g, i, j⟩ := h
  refine ⟨fun e => ?_, fun e => ?_, fun e => ?_, fun e => ?_⟩ <;> subst e
  · rw [hD] at a; cases a
  · rw [hD] at b; cases b
  · rw [hD] at f; cases f
  · rw [hD] at g; cases g
inductive J1_law2 (L : Addr) (lt : Addr) (li : Addr) (gs : List Int) (w : Nat) (i : Nat) (ys : List PV) (D : Addr) (H' : Hp) : Prop
  | mk (h1_ : (D ≠ L + 1 ∧ D ≠ L + 2 ∧ D ≠ lt ∧ D ≠ li)) (h2_ : H' D = some (.list ys)) (h3_ : Tub L lt li gs (.cell (.int w)) H' (3 + i)) (bs) (h4_ : ys = intL bs) (h5_ : ∀ b ∈ bs, b.natAbs ≤ 3) : J1_law2 L lt li gs w i ys D H'
theorem law2 {d : Wd} {L fa l lt li : Addr} {ccd : Value} {g : Heap} {r : Nat} (ok : (lawC L fa ccd g).Ok (GW d) (r + 20)) {H : Hp} {gs : List Int} {w q : Nat} {p : Int} {Q : PF → Loc → Hp → Prop} (ht : Tub L lt li gs (.cell (.int w)) H 3)
    (k : ∀ H' (lb : Addr) (a b c' d' : Int), H' (L + 2) = some (.cell (.int w)) → H' lb = some (.list (boxL (a, b, c', d'))) → a.natAbs ≤ 3 → b.natAbs ≤ 3 → c'.natAbs ≤ 3 → d'.natAbs ≤ 3 → TS (GW d) (lawC L fa ccd g) [("box", .ref lb), ("q", .int q), ("p", .int p), ("script", .ref l)] H' (lawBody.drop 3) Q) :
    TS (GW d) (lawC L fa ccd g) [("q", .int q), ("p", .int p), ("script", .ref l)] H (lawBody.drop 2) Q := by
  refine ts_as (ss' := _ :: lawBody.drop 3) (by exact rfl) ?_
  refine ts_compR [("tub", L + 1)] (by assumption) b_range ?_ (by exact rfl) (by exact rfl) (by exact rfl) (by exact rfl) (by decide) rfl (by decide) (by exact rfl) (by exact rfl)
  refine te_int ?_
  refine ⟨J1_law2 L lt li gs w, 4, rfl, by decide, ?_, ?_, ?_, ?_⟩
  · intro D hD
    have hn := ht.new hD
    exact ⟨hn, upd_self, ht.upd hn.1 hn.2.1 hn.2.2.1 hn.2.2.2, [], rfl, fun b hb => nomatch hb⟩
  · rintro i ys D H' ⟨_, h, _⟩
    exact h
  · rintro i u ys H' C oC m₂ D hi hu hyl ⟨⟨n1, n2, n3, n4⟩, h1, h2, bs, rfl, hb⟩ hoC hm
    have h3 := h2.upd (p := .ro (intL bs)) n1 n2 n3 n4
    refine xe_sub ?_
    refine xe_call (by assumption) k_law_sifted g_law_sifted ?_ (by exact rfl) (by exact rfl) (by exact rfl) (by decide) (by exact rfl) (by exact rfl)
    refine xa_cons (xe_cell h3.1 ?_ (by exact rfl) (by exact rfl) (by exact rfl) (by decide)) (by exact rfl)
    refine xa_cons (xe_int ?_) (by exact rfl)
    refine xa_nil ?_
    refine (c_sift ok h3 (by (first | lia | omega)) (by (first | lia | omega)) (by decide)).mono ?_
    rintro _ H₂ ⟨g1, rfl, g10, g11, ht1, hx⟩
    refine xe_int ⟨_, _, rfl, rfl, hx _ _ n3 upd_self, ⟨n1, n2, n3, n4⟩, upd_self, ?_, bs ++ [g1 - 3], intL_snoc _ _, ?_⟩
    · rw [show (3 : Int) + ((i + 1 : Nat) : Int) = 3 + i + 1 from by (first | lia | omega)]
      exact ht1.upd n1 n2 n3 n4
    · intro b hb'
      rcases List.mem_append.mp hb' with hb' | hb'
      · exact hb b hb'
      · rw [List.mem_singleton.mp hb']; (first | lia | omega)
  · rintro ys D H' ⟨_, h1, h2, bs, rfl, hb⟩ hyl
    rw [intL_len] at hyl
    obtain ⟨a, b, c', d', rfl⟩ := len4 hyl
    exact k H' D a b c' d' h2.2.1 h1 (hb a (by simp)) (hb b (by simp)) (hb c' (by simp)) (hb d' (by simp))
/-- the fourth number put right -/
theorem law3 {d : Wd} {L fa l lb : Addr} {ccd : Value} {g : Heap} {r : Nat} (ok : (lawC L fa ccd g).Ok (GW d) (r + 20)) {H : Hp} {w q : Nat} {p a b c' d' : Int} {Q : PF → Loc → Hp → Prop}
    (hw : H (L + 2) = some (.cell (.int w))) (hb : H lb = some (.list (boxL (a, b, c', d')))) (hc : c'.natAbs ≤ 3) (hd : d'.natAbs ≤ 3) (hq : 1 ≤ q) (hq' : q ≤ 40) (hp : p.natAbs ≤ 80)
    (k : ∀ H' (e' : Int), H' (L + 2) = some (.cell (.int w)) → H' lb = some (.list (boxL (a, b, c', e'))) → e'.natAbs ≤ 4 → c' * p + e' * q ≠ 0 → TS (GW d) (lawC L fa ccd g) [("box", .ref lb), ("q", .int q), ("p", .int p), ("script", .ref l)] H' (lawBody.drop 4) Q) :
    TS (GW d) (lawC L fa ccd g) [("box", .ref lb), ("q", .int q), ("p", .int p), ("script", .ref l)] H (lawBody.drop 3) Q := by
  refine ts_as (ss' := _ :: lawBody.drop 4) (by exact rfl) ?_
  have hb1 : IsL H lb [.int a, .int b, .int c', .int d'] := .inl hb
  have hb2 : H lb = some (.list [.int a, .int b, .int c', .int d']) := hb
  repeat k_updF
  refine ⟨mulOk_small (by (first | lia | omega)), ?_⟩
  repeat k_updF
  refine ⟨mulOk_small (by (first | lia | omega)), ?_⟩
  repeat k_updF
  refine if_eq (fun h => ?_) (fun h => ?_)
  · repeat k_updF
    refine ⟨lb, 3, _, rfl, rfl, hb2, by (first | lia | omega), by (first | lia | omega), by simp, ?_⟩
    repeat k_updF
    have n1 : L + 2 ≠ lb := fun e => by rw [e, hb] at hw; cases hw
    refine k _ (d' + 1) (by rw [upd_ne n1]; exact hw) upd_self (nabs2 (a := 3) (b := 1) hd (Nat.le_refl 1)) ?_
    rw [Int.add_mul]; (first | lia | omega)
  · repeat k_updF
    exact k _ d' hw hb (by (first | lia | omega)) h

theorem law4 {d : Wd} {L fa l lb : Addr} {ccd : Value} {g : Heap} {r : Nat} (ok : (lawC L fa ccd g).Ok (GW d) (r + 20)) {H : Hp} {w q : Nat} {p : Int} {xb : List PV} {Q : PF → Loc → Hp → Prop}
    (hw : H (L + 2) = some (.cell (.int w))) (hw3 : 3 ≤ w) (hw8 : w ≤ 8) (hb : H lb = some (.list xb)) (hq : 1 ≤ q) (hq' : q ≤ 40) (hp : p.natAbs ≤ 80)
    (k : ∀ H' vx n m, H' (L + 2) = some (.cell (.int w)) → H' lb = some (.list xb) → RV H' vx n m w → 0 < m → n * (q : Int) = p * (m : Nat) → n.natAbs ≤ 80 → m ≤ 40 → TS (GW d) (lawC L fa ccd g) [("x", vx), ("box", .ref lb), ("q", .int q), ("p", .int p), ("script", .ref l)] H' (lawBody.drop 5) Q) :
    TS (GW d) (lawC L fa ccd g) [("box", .ref lb), ("q", .int q), ("p", .int p), ("script", .ref l)] H (lawBody.drop 4) Q := by
  refine ts_as (ss' := _ :: lawBody.drop 5) (by exact rfl) ?_
  repeat k_updF
  refine te_call (by assumption) k_r_make ?_ (by exact rfl) (by exact rfl)
  refine te_global g_r_make ?_ (by assumption) (by exact rfl) (by decide)
  refine ⟨rfl, ?_⟩
  repeat k_updF
  refine te_call (by assumption) k_law_signed ?_ (by exact rfl) (by exact rfl)
  refine te_global g_law_signed ?_ (by assumption) (by exact rfl) (by decide)
  refine ⟨rfl, ?_⟩
  repeat k_updF
  refine te_cell hw (by exact rfl) ?_ (by assumption) (by exact rfl) (by decide)
  repeat k_updF
  refine (c_law_signed ok hw3 hw8 (by (first | lia | omega))).mono ?_
  rintro v1 H₁ ⟨hle1, hs1⟩
  have hw1 := hle1 _ _ hw
  repeat k_updF
  refine te_call (by assumption) k_law_signed ?_ (by exact rfl) (by exact rfl)
  refine te_global g_law_signed ?_ (by assumption) (by exact rfl) (by decide)
  refine ⟨rfl, ?_⟩
  repeat k_updF
  refine te_cell hw1 (by exact rfl) ?_ (by assumption) (by exact rfl) (by decide)
  repeat k_updF
  refine (c_law_signed ok hw3 hw8 (by (first | lia | omega))).mono ?_
  rintro v2 H₂ ⟨hle2, hs2⟩
  have hw2 := hle2 _ _ hw1
  repeat k_updF
  refine te_cell hw2 (by exact rfl) ?_ (by assumption) (by exact rfl) (by decide)
  repeat k_updF
  refine te_global g_divrem_school ?_ (by assumption) (by exact rfl) (by decide)
  repeat k_updF
  refine (c_r_make ok hw3 hw8 (hs1.sv.le hle2) hs2.sv (by (first | lia | omega)) (by (first | lia | omega)) (by (first | lia | omega))).mono ?_
  rintro v H₃ ⟨hle3, n, m, hr, m0, e, b1, b2⟩
  exact k H₃ v n m (hle3 _ _ hw2) (hle3 _ _ (hle2 _ _ (hle1 _ _ hb))) hr m0 e (by (first | lia | omega)) (by (first | lia | omega))

/-- the parts read as numbers, in a list of their own -/
inductive J1_comp_plain (H₁ : Hp) (f : Addr) (us : List PV) (zs : List Int) (i : Nat) (ys : List PV) (D : Addr) (H' : Hp) : Prop
  | mk (h1_ : H₁ D = none) (h2_ : D ≠ f) (h3_ : H' D = some (.list ys)) (h4_ : LeX D (upd H₁ f (.ro us)) H') (h5_ : ys = intL (zs.take i)) : J1_comp_plain H₁ f us zs i ys D H'
theorem comp_plain {d : Wd} {c : Cx} {ℓ : Loc} {r : Nat} (ok : c.Ok (GW d) (r + 1)) {H₁ : Hp} {scope : Scope} {np p1 p2 pos : Pos} {f wa : Addr} {us : List PV} {n : Int} {m w : Nat} {Fin : PV → Hp → Prop} (hw3 : 3 ≤ w) (hw8 : w ≤ 8)
    (hw : H₁ wa = some (.cell (.int w))) (hf : H₁ f = some (.list us)) (hs : SVs f H₁ w us (cf n m)) (b1 : n.natAbs < 2 ^ 40) (b2 : m < 2 ^ 40)
    (k1 : ∀ C, (compEnvC scope [("w", wa)] C c.env).scope.kind = .function) (k2 : ∀ C, (compEnvC scope [("w", wa)] C c.env).kindOf "_law_plain" = some .globalImplicit) (k3 : ∀ C, (compEnvC scope [("w", wa)] C c.env).kindOf "part" = some .local) (k4 : ∀ C, (compEnvC scope [("w", wa)] C c.env).kindOf "w" = some .cell)
    (fin : ∀ H' D, Le H₁ H' → H₁ D = none → H' D = some (.list (intL (cf n m))) → Fin (.ref D) H') :
    CompL (GW d) c ℓ scope [("w", wa)] "part" (.Call (.Name "_law_plain" np) [.Name "part" p1, .Name "w" p2] [] pos) (.ref f) H₁ Fin := by
  have hlen := hs.len
  have hcl := cf_len 40 n m b2
  have hsm := cf_mem_small b1 b2
  generalize cf n m = zs at *
  refine ⟨J1_comp_plain H₁ f us zs, f, us, rfl, hf, by (first | lia | omega), ?_, ?_, ?_, ?_⟩
  · intro D hDf hD
    exact ⟨hD, hDf, upd_self, (LeX.refl _ _).upd, rfl⟩
  · rintro i ys D H' ⟨h1, h2, h3, h4, h5⟩
    exact ⟨h3, h4 _ _ (Ne.symm h2) upd_self⟩
  · rintro i u ys H' C oC m₂ D hi hyl ⟨h1, h2, h3, h4, rfl⟩ hoC hm
    obtain ⟨z, hz, hx⟩ := hs.get i _ hi
    have hD0 : upd H₁ f (.ro us) D = none := by rw [upd_ne h2]; exact h1
    have hle : Le (upd H₁ f (.ro us)) (upd H' D (.ro (intL (zs.take i)))) := LeX.le h4.upd hD0
    have hx' := ((hx.updA (p := .ro us) (.inl hf)).le hle).sv
    have hwf : wa ≠ f := fun e => by rw [e, hf] at hw; cases hw
    have hw' := hle wa _ (by rw [upd_ne hwf]; exact hw)
    refine xe_call (by assumption) k_law_plain g_law_plain ?_ (k1 C) (k2 C) (by exact rfl) (by decide) (by exact rfl) (by exact rfl)
    refine xa_cons (xe_loc (List.mem_singleton.mpr rfl) hoC hm ?_ (k1 C) (k3 C) (by exact rfl) (by decide)) (by exact rfl)
    refine xa_cons (xe_cell hw' ?_ (k1 C) (k4 C) (by exact rfl) (by decide)) (by exact rfl)
    refine xa_nil ?_
    refine (c_law_plain ok hw3 hw8 hx' (hsm z (List.mem_of_getElem? hz))).mono ?_
    rintro _ H₂ ⟨rfl, hle2⟩
    refine ⟨hle2 _ _ upd_self, h1, h2, upd_self, ?_, ?_⟩
    · intro a p na e
      rw [upd_ne na]; exact hle2 _ _ (hle _ _ e)
    · rw [intL_snoc, List.take_add_one, hz]; rfl
  · rintro ys D H' ⟨h1, h2, h3, h4, rfl⟩ hyl
    have hD0 : upd H₁ f (.ro us) D = none := by rw [upd_ne h2]; exact h1
    refine fin _ D (le_unlock (h4.le hD0) hf) h1 ?_
    rw [upd_ne h2, h3, hlen, List.take_length]

theorem law5 {d : Wd} {L fa l lb : Addr} {ccd : Value} {g : Heap} {r : Nat} (ok : (lawC L fa ccd g).Ok (GW d) (r + 20)) {H : Hp} {w q m0 : Nat} {p n0 a b c' d' : Int} {vx : PV} {Q : PF → Loc → Hp → Prop}
    (hw : H (L + 2) = some (.cell (.int w))) (hw3 : 3 ≤ w) (hw8 : w ≤ 8) (hb : H lb = some (.list (boxL (a, b, c', d')))) (hx : RV H vx n0 m0 w)
    (ba : a.natAbs ≤ 3) (bb : b.natAbs ≤ 3) (bc : c'.natAbs ≤ 3) (bd : d'.natAbs ≤ 4) (m1 : 0 < m0) (bn : n0.natAbs ≤ 80) (bm : m0 ≤ 40) (hne : c' * n0 + d' * m0 ≠ 0)
    (k : ∀ H' ld N M, H' (L + 2) = some (.cell (.int w)) → H' lb = some (.list (boxL (a, b, c', d'))) → RV H' vx n0 m0 w → H' ld = some (.list (intL (cf N M))) → ld ≠ lb → 0 < M → M < 2 ^ 40 → N * (c' * n0 + d' * m0) = (a * n0 + b * m0) * (M : Nat) →
      TS (GW d) (lawC L fa ccd g) [("due", .ref ld), ("x", vx), ("box", .ref lb), ("q", .int q), ("p", .int p), ("script", .ref l)] H' (lawBody.drop 6) Q) :
    TS (GW d) (lawC L fa ccd g) [("x", vx), ("box", .ref lb), ("q", .int q), ("p", .int p), ("script", .ref l)] H (lawBody.drop 5) Q := by
  refine ts_as (ss' := _ :: lawBody.drop 6) (by exact rfl) ?_
  refine ts_compL [("w", L + 2)] (by assumption) ?_ (by exact rfl) (by exact rfl) (by decide) rfl (by decide) (by exact rfl) (by exact rfl) (by intros; exact rfl)
  refine te_call (by assumption) k_continued ?_ (by exact rfl) (by exact rfl)
  refine te_global g_continued ?_ (by assumption) (by exact rfl) (by decide)
  refine ⟨rfl, ?_⟩
  repeat k_updF
  refine te_call (by assumption) k_law_led ?_ (by exact rfl) (by exact rfl)
  refine te_global g_law_led ?_ (by assumption) (by exact rfl) (by decide)
  refine ⟨rfl, ?_⟩
  repeat k_updF
  refine te_cell hw (by exact rfl) ?_ (by assumption) (by exact rfl) (by decide)
  repeat k_updF
  refine (c_law_led ok hw3 hw8 hb hx ba bb bc bd bn bm m1 hne).mono ?_
  rintro v H₁ ⟨hle1, N, M, hr, M0, e, b1, b2⟩
  have hw1 := hle1 _ _ hw
  repeat k_updF
  refine te_cell hw1 (by exact rfl) ?_ (by assumption) (by exact rfl) (by decide)
  repeat k_updF
  refine te_global g_divrem_school ?_ (by assumption) (by exact rfl) (by decide)
  repeat k_updF
  refine (c_continued ok hw3 hw8 hr b1 b2).mono ?_
  rintro _ H₂ ⟨f, us, rfl, hle2, hnf, hf, hs⟩
  refine comp_plain ok hw3 hw8 (hle2 _ _ hw1) hf hs b1 b2 (fun _ => rfl) (fun _ => rfl) (fun _ => rfl) (fun _ => rfl) ?_
  intro H₃ D hle3 hD hDl
  have hle := (hle1.trans hle2).trans hle3
  refine k H₃ D N M (hle _ _ hw) (hle _ _ hb) (hx.le hle) hDl (fun z => ?_) M0 b2 e
  have := (hle1.trans hle2) _ _ hb
  rw [← z, hD] at this; cases this

theorem law6 {d : Wd} {L fa l lb ld : Addr} {ccd : Value} {g : Heap} {r : Nat} (ok : (lawC L fa ccd g).Ok (GW d) (r + 20)) {H : Hp} {w q m0 : Nat} {p n0 : Int} {vx : PV} {xb xd : List PV} {Q : PF → Loc → Hp → Prop}
    (hw : H (L + 2) = some (.cell (.int w))) (hw3 : 3 ≤ w) (hw8 : w ≤ 8) (hb : H lb = some (.list xb)) (hd : H ld = some (.list xd)) (hx : RV H vx n0 m0 w) (bn : n0.natAbs ≤ 80) (bm : m0 ≤ 40)
    (k : ∀ H' lp lt, H' lb = some (.list xb) → H' ld = some (.list xd) → H' lp = some (.list (intL (cf n0 m0))) → H' lt = some (.list []) → lt ≠ lb → lt ≠ ld → lp ≠ lb → lp ≠ ld → lp ≠ lt →
      TS (GW d) (lawC L fa ccd g) [("parts", .ref lp), ("told", .ref lt), ("due", .ref ld), ("x", vx), ("box", .ref lb), ("q", .int q), ("p", .int p), ("script", .ref l)] H' (lawBody.drop 7) Q) :
    TS (GW d) (lawC L fa ccd g) [("due", .ref ld), ("x", vx), ("box", .ref lb), ("q", .int q), ("p", .int p), ("script", .ref l)] H (lawBody.drop 6) Q := by
  refine ts_as (ss' := _ :: lawBody.drop 7) (by exact rfl) ?_
  repeat k_updF
  refine te_compL [("w", L + 2)] ?_ (by exact rfl) (by decide) rfl (by decide) (by exact rfl) (by intros; exact rfl)
  refine te_call (by assumption) k_continued ?_ (by exact rfl) (by exact rfl)
  refine te_global g_continued ?_ (by assumption) (by exact rfl) (by decide)
  refine ⟨rfl, ?_⟩
  repeat k_updF
  refine te_cell hw (by exact rfl) ?_ (by assumption) (by exact rfl) (by decide)
  repeat k_updF
  refine te_global g_divrem_school ?_ (by assumption) (by exact rfl) (by decide)
  repeat k_updF
  refine (c_continued ok hw3 hw8 hx (by (first | lia | omega)) (by (first | lia | omega))).mono ?_
  rintro _ H₂ ⟨f, us, rfl, hle2, hnf, hf, hs⟩
  refine comp_plain ok hw3 hw8 (hle2 _ _ hw) hf hs (by (first | lia | omega)) (by (first | lia | omega)) (fun _ => rfl) (fun _ => rfl) (fun _ => rfl) (fun _ => rfl) ?_
  intro H₃ D hle3 hD hDl
  have hle := hle2.trans hle3
  have hb3 := hle _ _ hb
  have hd3 := hle _ _ hd
  have d1 : D ≠ lb := fun z => by rw [z, hle2 _ _ hb] at hD; cases hD
  have d2 : D ≠ ld := fun z => by rw [z, hle2 _ _ hd] at hD; cases hD
  repeat k_updF
  refine ⟨Nat.le_of_ble_eq_true rfl, fun lt hlt => ?_⟩
  have t1 : lt ≠ lb := fun z => by rw [z, hb3] at hlt; cases hlt
  have t2 : lt ≠ ld := fun z => by rw [z, hd3] at hlt; cases hlt
  have t3 : lt ≠ D := fun z => by rw [z, hDl] at hlt; cases hlt
  have hle4 : Le H₃ (upd H₃ lt (.list [])) := .upd hlt
  exact k _ D lt (hle4 _ _ hb3) (hle4 _ _ hd3) (hle4 _ _ hDl) upd_self t1 t2 d1 d2 (Ne.symm t3)

theorem law7 {d : Wd} {L fa l lb ld lp lt : Addr} {ccd : Value} {g : Heap} {r : Nat} (ok : (lawC L fa ccd g).Ok (GW d) (r + 20)) {H : Hp} {q m0 : Nat} {p n0 : Int} {vx : PV} {Q : PF → Loc → Hp → Prop}
    (hp : H lp = some (.list (intL (cf n0 m0)))) (m1 : 0 < m0) (bn : n0.natAbs ≤ 80) (bm : m0 ≤ 40) (hq : 1 ≤ q) (hq' : q ≤ 40) (bp : p.natAbs ≤ 80) (e : n0 * (q : Int) = p * (m0 : Nat))
    (k : ∀ H', Le H H' →
      TS (GW d) (lawC L fa ccd g) [("told", .ref lt), ("parts", .ref lp), ("due", .ref ld), ("box", .ref lb)] H' (lawBody.drop 9) Q) :
    TS (GW d) (lawC L fa ccd g) [("parts", .ref lp), ("told", .ref lt), ("due", .ref ld), ("x", vx), ("box", .ref lb), ("q", .int q), ("p", .int p), ("script", .ref l)] H (lawBody.drop 7) Q := by
  refine ts_as (ss' := _ :: _ :: lawBody.drop 9) (by exact rfl) ?_
  repeat k_updF
  refine te_call (by assumption) k_law_folded ?_ (by exact rfl) (by exact rfl)
  refine te_global g_law_folded ?_ (by assumption) (by exact rfl) (by decide)
  refine ⟨rfl, ?_⟩
  repeat k_updF
  refine (c_law_folded ok (.inl hp) (by have := parts_len (n0 := n0) bm; (first | lia | omega)) (cf_mem_small (by (first | lia | omega)) (by (first | lia | omega)))).mono ?_
  rintro _ H₁ ⟨t, rfl, hle, ht⟩
  refine ⟨t, _, _, rfl, .inl ht, ?_⟩
  obtain ⟨f1, f2⟩ := fold_check (p := p) (q := q) m1 e
  obtain ⟨g, g0, h1, h2⟩ := foldP_cf m0 n0 m0 (Nat.le_refl _) (.inl m1)
  have hT : (foldP (cf n0 m0)).1.natAbs < 2 ^ 40 := by
    have : (foldP (cf n0 m0)).1.natAbs * g.natAbs = n0.natAbs := by rw [← Int.natAbs_mul, h1]
    have h3 : (foldP (cf n0 m0)).1.natAbs * 1 ≤ (foldP (cf n0 m0)).1.natAbs * g.natAbs := Nat.mul_le_mul_left _ (by (first | lia | omega))
    (first | lia | omega)
  generalize (foldP (cf n0 m0)).1 = T at *
  generalize (foldP (cf n0 m0)).2 = B at *
  refine ts_if ?_
  refine TT.mono (Q := fun t H' => H' = H₁ ∧ t = false) ?_ ?_
  · repeat k_updF
    refine ⟨mulOk_small (by (first | lia | omega)), ?_⟩
    repeat k_updF
    refine ⟨mulOk_small (by (first | lia | omega)), ?_⟩
    refine ⟨_, _, rfl, rfl, ?_⟩
    refine if_ne (fun h => absurd f1 h) (fun h => ?_)
    repeat k_updF
    exact ⟨rfl, by simp [cmpI, f2]⟩
  · rintro t H' ⟨rfl, rfl⟩
    refine if_ff ?_
    repeat k_updF
    refine ts_weaken (k _ hle) ⟨rfl, rfl, rfl, rfl, trivial⟩

inductive J1_law9 (lt : Addr) (ld : Addr) (lp : Addr) (n0 : Int) (m0 : Nat) (due : List Int) (i : Nat) (ℓ₁ : Loc) (H₂ : Hp) : Prop
  | mk (lb') (s) (told) (h1_ : SubL [("box", .ref lb'), ("told", .ref lt), ("due", .ref ld)] ℓ₁) (h2_ : H₂ lp = some (.ro (intL (cf n0 m0)))) (h3_ : H₂ lb' = some (.list (boxL s))) (h4_ : H₂ lt = some (.list (intL told))) (h5_ : H₂ ld = some (.list (intL due))) (h6_ : lb' ≠ lt) (h7_ : lb' ≠ ld) (h8_ : Inw n0 m0 due i s told) : J1_law9 lt ld lp n0 m0 due i ℓ₁ H₂
theorem law9 {d : Wd} {L fa lb ld lp lt : Addr} {ccd : Value} {g : Heap} {r : Nat} (ok : (lawC L fa ccd g).Ok (GW d) (r + 20)) {H : Hp} {m0 : Nat} {n0 : Int} {due : List Int} {s0 : Int × Int × Int × Int} {Q : PF → Loc → Hp → Prop}
    (hp : H lp = some (.list (intL (cf n0 m0)))) (hb : H lb = some (.list (boxL s0))) (ht : H lt = some (.list [])) (hd : H ld = some (.list (intL due))) (n1 : lt ≠ lb) (n2 : lt ≠ ld) (n3 : lp ≠ lb) (n4 : lp ≠ ld) (n5 : lp ≠ lt) (n6 : ld ≠ lb)
    (m1 : 0 < m0) (bm : m0 ≤ 40) (hdl : due.length ≤ 80) (hI : Inw n0 m0 due 0 s0 [])
    (k : ∀ H' lb' a b c' d' told, H' lb' = some (.list (boxL (a, b, c', d'))) → H' lt = some (.list (intL told)) → H' ld = some (.list (intL due)) → told ++ euc 60 a c' = due → a.natAbs < 2 ^ 30 → c'.natAbs < 2 ^ 30 →
      TS (GW d) (lawC L fa ccd g) [("box", .ref lb'), ("told", .ref lt), ("due", .ref ld)] H' (lawBody.drop 10) Q) :
    TS (GW d) (lawC L fa ccd g) [("told", .ref lt), ("parts", .ref lp), ("due", .ref ld), ("box", .ref lb)] H (lawBody.drop 9) Q := by
  refine ts_as (ss' := _ :: lawBody.drop 10) (by exact rfl) ?_
  refine ts_forListE (by assumption) ?_
  repeat k_updF
  refine ⟨J1_law9 lt ld lp n0 m0 due, lp, _, _, rfl, hp, .inl rfl, ?_, ?_, ?_, ?_⟩
  · exact ⟨lb, s0, [], ⟨rfl, rfl, rfl, trivial⟩, upd_self, by rw [upd_ne (Ne.symm n3)]; exact hb, by rw [upd_ne (Ne.symm n5)]; exact ht, by rw [upd_ne (Ne.symm n4)]; exact hd, Ne.symm n1, Ne.symm n6, hI⟩
  · rintro i ℓ₁ H₂ ⟨_, _, _, _, h, _⟩
    exact h
  · rintro i y ℓ₁ H₂ hi ⟨lb', ⟨a, b, c', d'⟩, told, hℓ, hp2, hb2, ht2, hd2, x1, x2, hI2⟩
    obtain ⟨hi', hy⟩ := intL_at hi
    obtain ⟨M, z, hz, zb, hM, hbn, hI3, htl, ba, bc⟩ := hI2.step bm hi'
    have hyz : y = .int z := by rw [hy, List.getD_eq_getElem?_getD, hz]; rfl
    subst hyz
    refine ts_weakenC ?_ hℓ
    have hb2' : H₂ lb' = some (.list [.int a, .int b, .int c', .int d']) := hb2
    refine ts_un4 (by assumption) ?_ (by exact rfl) (by exact rfl) (by exact rfl) (by exact rfl) (by exact rfl) (by exact rfl)
    repeat k_updF
    refine ⟨lb', _, _, _, _, rfl, .inr (.inl hb2'), ?_⟩
    repeat k_updF
    refine ⟨mulOk_small (by (first | lia | omega)), ?_⟩
    repeat k_updF
    refine ⟨mulOk_small (by (first | lia | omega)), ?_⟩
    repeat k_updF
    refine ⟨Nat.le_of_ble_eq_true rfl, fun nb hnb => ?_⟩
    have y1 : nb ≠ lt := fun e => by rw [e, ht2] at hnb; cases hnb
    have y2 : nb ≠ ld := fun e => by rw [e, hd2] at hnb; cases hnb
    have y3 : nb ≠ lp := fun e => by rw [e, hp2] at hnb; cases hnb
    have hle : Le H₂ (upd H₂ nb (.list (boxL (a * z + b, a, c' * z + d', c')))) := .upd hnb
    have hb3 : upd H₂ nb (.list (boxL (a * z + b, a, c' * z + d', c'))) nb = some (.list (boxL (a * z + b, a, c' * z + d', c'))) := upd_self
    have ht3 := hle _ _ ht2
    have hd3 := hle _ _ hd2
    have hp3 := hle _ _ hp2
    show TS _ _ _ (upd H₂ nb (.list (boxL (a * z + b, a, c' * z + d', c')))) _ _
    generalize upd H₂ nb (.list (boxL (a * z + b, a, c' * z + d', c'))) = H₃ at *
    repeat k_updF
    refine te_call (by assumption) k_law_given ?_ (by exact rfl) (by exact rfl)
    refine te_global g_law_given ?_ (by assumption) (by exact rfl) (by decide)
    refine ⟨rfl, ?_⟩
    repeat k_updF
    refine (c_law_given ok hb3 ht3 y1 hM hbn (by (first | lia | omega))).mono ?_
    rintro v H₄ ⟨hb4, ht4, hk4⟩
    have hd4 := hk4 _ _ (Ne.symm y2) (Ne.symm n2) hd3
    have hp4 := hk4 _ _ (Ne.symm y3) n5 hp3
    have htk := hI3.take
    have hln := hI3.len
    generalize told ++ (giv 60 (a * z + b, a, c' * z + d', c')).1 = told' at *
    generalize (giv 60 (a * z + b, a, c' * z + d', c')).2 = s' at *
    have hd5 : IsL H₄ ld (intL due) := .inl hd4
    have ht5 : IsL H₄ lt (intL told') := .inl ht4
    refine ts_if ?_
    refine TT.mono (Q := fun t H' => t = false ∧ Le H₄ H') ?_ ?_
    · refine tt_neLs ok ?_ (by exact rfl)
      repeat k_updF
      refine ⟨ld, _, rfl, hd5, by rw [intL_len]; (first | lia | omega), fun e he => ?_⟩
      have hle5 : Le H₄ (upd H₄ e (.list (intL told'))) := .upd he
      rw [pick_upto _ (by (first | lia | omega)), Int.toNat_natCast, intL_take, htk]
      refine ⟨lt, e, _, _, rfl, rfl, ht5.le hle5, .inl upd_self, by simp, hle5⟩
    · rintro t H₅ ⟨rfl, hle5⟩
      refine if_ff ?_
      repeat k_updF
      exact ⟨nb, s', told', ⟨rfl, rfl, rfl, trivial⟩, hle5 _ _ hp4, hle5 _ _ hb4, hle5 _ _ ht4, hle5 _ _ hd4, y1, y2, hI3⟩
  · rintro ℓ₁ H₂ ⟨lb', ⟨a, b, c', d'⟩, told, hℓ, hp2, hb2, ht2, hd2, x1, x2, hI2⟩
    rw [intL_len] at hI2
    obtain ⟨e, ba, bc⟩ := hI2.end bm m1
    refine ts_weaken ?_ hℓ
    have z1 : lb' ≠ lp := fun e => by rw [e, hp2] at hb2; cases hb2
    have z2 : lt ≠ lp := fun e => by rw [e, hp2] at ht2; cases ht2
    have z3 : ld ≠ lp := fun e => by rw [e, hp2] at hd2; cases hd2
    exact k _ lb' a b c' d' told (by rw [upd_ne z1]; exact hb2) (by rw [upd_ne z2]; exact ht2) (by rw [upd_ne z3]; exact hd2) e ba bc

inductive J1_law10 (lt : Addr) (ld : Addr) (due : List Int) (i : Nat) (ℓ₁ : Loc) (H₂ : Hp) : Prop
  | mk (a) (c') (told) (h1_ : SubL [("a", .int a), ("c", .int c'), ("told", .ref lt), ("due", .ref ld)] ℓ₁) (h2_ : H₂ lt = some (.list (intL told))) (h3_ : H₂ ld = some (.list (intL due))) (h4_ : told ++ euc (60 - i) a c' = due) (h5_ : a.natAbs < 2 ^ 30) (h6_ : c'.natAbs < 2 ^ 30) : J1_law10 lt ld due i ℓ₁ H₂
theorem law10 {d : Wd} {L fa lb ld lt : Addr} {ccd : Value} {g : Heap} {r : Nat} (ok : (lawC L fa ccd g).Ok (GW d) (r + 20)) {H : Hp} {a b c' d' : Int} {due told : List Int} {Q : PF → Loc → Hp → Prop}
    (hb : H lb = some (.list (boxL (a, b, c', d')))) (ht : H lt = some (.list (intL told))) (hd : H ld = some (.list (intL due))) (n2 : lt ≠ ld) (he : told ++ euc 60 a c' = due) (ba : a.natAbs < 2 ^ 30) (bc : c'.natAbs < 2 ^ 30) (hdl : due.length ≤ 80)
    (k : ∀ ℓ' H', Q (.ret (.bool true)) ℓ' H') :
    TS (GW d) (lawC L fa ccd g) [("box", .ref lb), ("told", .ref lt), ("due", .ref ld)] H (lawBody.drop 10) Q := by
  refine ts_as (ss' := _ :: _ :: _ :: []) (by exact rfl) ?_
  have hb1 : IsL H lb [.int a, .int b, .int c', .int d'] := .inl hb
  repeat k_updF
  refine ts_range1 (J1_law10 lt ld due) (by assumption) b_range ?_
  have fin : ∀ ℓ₁ H₂, SubL [("told", .ref lt), ("due", .ref ld)] ℓ₁ → H₂ lt = some (.list (intL due)) → H₂ ld = some (.list (intL due)) → TS (GW d) (lawC L fa ccd g) ℓ₁ H₂ (lawBody.drop 12) Q := by
    intro ℓ₁ H₂ hℓ h1 h2
    refine ts_weaken ?_ hℓ
    refine ts_as (ss' := _ :: []) (by exact rfl) ?_
    refine ts_return ?_
    refine te_eqLs ok ?_ (by exact rfl)
    repeat k_updF
    refine ⟨lt, ld, _, _, rfl, rfl, .inl h1, .inl h2, ?_⟩
    rw [decide_eq_true rfl]
    exact k _ _
  repeat k_updF
  refine ⟨by (first | lia | omega), ⟨a, c', told, ⟨rfl, rfl, rfl, rfl, trivial⟩, ht, hd, he, ba, bc⟩, ?_, ?_⟩
  · rintro i ℓ₁ H₂ hi ⟨a, c', told, hℓ, ht2, hd2, he, ba, bc⟩
    have hi' : i < 60 := by (first | lia | omega)
    refine ts_weakenC ?_ hℓ
    obtain ⟨k', hk⟩ : ∃ k, 60 - i = k + 1 := ⟨60 - i - 1, by (first | lia | omega)⟩
    rw [hk, euc] at he
    repeat k_updF
    refine if_eq (fun h => ?_) (fun h => ?_)
    · subst h
      rw [if_pos rfl, List.append_nil] at he
      subst he
      refine ts_break ?_
      exact fin _ _ ⟨rfl, rfl, trivial⟩ ht2 hd2
    · rw [if_neg h] at he
      have hlen : told.length ≤ due.length := by rw [← he]; simp
      have hqa : (a.fdiv c').natAbs < 2 ^ 60 := fdiv_small h (Nat.lt_trans ba (by decide)) (Nat.lt_trans bc (by decide))
      have hfa := fmod_abs (a := a) h
      repeat k_updF
      refine ⟨h, log_smallI (by (first | lia | omega)), ?_⟩
      refine ⟨_, ht2, by rw [intL_len]; (first | lia | omega), ?_⟩
      repeat k_updF
      refine ⟨h, log_smallI (by (first | lia | omega)), ?_⟩
      repeat k_updF
      refine ⟨mulOk_small hqa, ?_⟩
      repeat k_updF
      refine ⟨c', a - a.fdiv c' * c', told ++ [a.fdiv c'], ⟨rfl, rfl, rfl, rfl, trivial⟩, by rw [upd_self, intL_snoc], by rw [upd_ne (Ne.symm n2)]; exact hd2, ?_, bc, by (first | lia | omega)⟩
      rw [show 60 - (i + 1) = k' from by (first | lia | omega), List.append_assoc]
      exact he
  · rintro ℓ₁ H₂ ⟨a, c', told, hℓ, ht2, hd2, he, ba, bc⟩
    rw [show 60 - Int.toNat 60 = 0 from rfl, euc, List.append_nil] at he
    subst he
    exact fin _ _ ⟨hℓ.2.2.1, hℓ.2.2.2.1, trivial⟩ ht2 hd2
/-- the whole of law -/
theorem law_all {d : Wd} {L fa l : Addr} {ccd : Value} {g : Heap} {r : Nat} (ok : (lawC L fa ccd g).Ok (GW d) (r + 20)) {H : Hp} {vs : List Value} {zs : List Int} {Q : PF → Loc → Hp → Prop}
    (hl : g.IsList l vs.toArray) (hi : IntsAre vs zs) (hz : zs.length ≤ 63) (h1 : H (L + 1) = some .ecell) (h2 : H (L + 2) = some .ecell) (k : ∀ ℓ' H', Q (.ret (.bool true)) ℓ' H') :
    TS (GW d) (lawC L fa ccd g) [("script", .ref l)] H lawBody Q := by
  refine law0 ok hl hi hz h1 h2 fun H₁ lt li gs a1 a2 a3 a4 a5 a6 => ?_
  refine law1 ok ⟨a1, a2, (fun _ e => nomatch e), a3, a4, a5, a6⟩ fun H₂ w q p ht w3 w8 q1 q40 p80 => ?_
  refine law2 ok ht fun H₃ lb a b c' d' hw hb ba bb bc bd => ?_
  refine law3 ok hw hb bc bd q1 q40 p80 fun H₄ e' hw hb be hne => ?_
  refine law4 ok hw w3 w8 hb q1 q40 p80 fun H₅ vx n0 m0 hw hb hx m1 e bn bm => ?_
  have hne' : c' * n0 + e' * (m0 : Int) ≠ 0 := fun z => by
    have h3 : (c' * p + e' * q) * (m0 : Int) = (c' * n0 + e' * m0) * q := by grind
    rw [z, Int.zero_mul] at h3
    rcases Int.mul_eq_zero.mp h3 with h | h
    · exact hne h
    · (first | lia | omega)
  refine law5 ok hw w3 w8 hb hx ba bb bc be m1 bn bm hne' fun H₆ ld N M hw hb hx hd ndb M0 M40 eN => ?_
  refine law6 ok hw w3 w8 hb hd hx bn bm fun H₇ lp ltl hb hd hp ht n1 n2 n3 n4 n5 => ?_
  refine law7 ok hp m1 bn bm q1 q40 p80 e fun H₈ hle => ?_
  refine law9 ok (hle _ _ hp) (hle _ _ hb) (hle _ _ ht) (hle _ _ hd) n1 n2 n3 n4 n5 ndb m1 bm (cf_len 40 N M M40) (Inw.start m1 (show (0 : Int) < m0 by (first | lia | omega)) M0 rfl eN hne' bn bm ba bb bc be) fun H₉ lb' a b c' d' told hb ht hd he ba bc => ?_
  exact law10 ok hb ht hd n2 he ba bc (cf_len 40 N M M40) k

noncomputable def lawH (L : Addr) : Hp := fun a => if a = L + 1 then some .ecell else if a = L + 2 then some .ecell else none
theorem st0 {L fa l : Addr} {cd : Value} {g h₁ : Heap} {m : Str → Option Value} {s : Shared} {tk : Nat} {o1 o2 : Obj} (F : Fr g L h₁ m) (N : News g L h₁ [(L + 2, o2), (L + 1, o1)]) (hm : m "script" = some (.ref l)) (d1 : o1.data = .cell none) (d2 : o2.data = .cell none) :
    St (lawC L fa cd g) [("script", .ref l)] (lawH L) [] { s with heap := h₁, toks := tk } m [(L + 2, o2), (L + 1, o1)] := by
  refine ⟨F, N, ?_, ?_, (fun _ _ e => e), (fun _ h => nomatch h), (fun _ h => nomatch h)⟩
  · intro x p e
    rw [List.lookup_cons] at e
    cases h : x == "script" with
    | true =>
      rw [h] at e; cases e
      rw [beq_iff_eq.mp h]
      exact ⟨_, hm, rfl⟩
    | false => rw [h] at e; cases e
  · intro a p e
    unfold lawH at e
    by_cases h1 : a = L + 1
    · subst h1
      rw [if_pos rfl] at e; cases e
      exact ⟨o1, d1, .inl (by simp)⟩
    · rw [if_neg h1] at e
      by_cases h2 : a = L + 2
      · subst h2
        rw [if_pos rfl] at e; cases e
        exact ⟨o2, d2, .inl (by simp)⟩
      · rw [if_neg h2] at e; cases e
theorem lawH1 (L : Addr) : lawH L (L + 1) = some .ecell := if_pos rfl
theorem lawH2 (L : Addr) : lawH L (L + 2) = some .ecell := by
  unfold lawH
  rw [if_neg (by simp), if_pos rfl]
/-- law's frame, from the row's own head -/
theorem law_run {d : Wd} {L fa l : Addr} {cd : Value} {g h₁ : Heap} {m : Str → Option Value} {s : Shared} {tk : Nat} {o1 o2 : Obj} {vs : List Value} {zs : List Int} {R : Flow → Shared → Prop} {E : Value → Shared → Prop}
    (K0 : Below callerA g [] g) (KX : (GW d).K.In g) (T : Top (GW d).p (GW d).loose (GW d).mean (GW d).mg (GW d).mb g)
    (F : Fr g L h₁ m) (N : News g L h₁ [(L + 2, o2), (L + 1, o1)]) (hm : m "script" = some (.ref l)) (d1 : o1.data = .cell none) (d2 : o2.data = .cell none)
    (hl : g.IsList l vs.toArray) (hi : IntsAre vs zs) (hz : zs.length ≤ 63)
    (k : ∀ h' tk' m', Fr g L h' m' → R (.ret (.bool true)) { s with heap := h', toks := tk' }) :
    wpAny (model d.prog d.w) (lawC L fa cd g).A (execs lawBody (lawC L fa cd g).env) R E { s with heap := h₁, toks := tk } := by
  have ok : (lawC L fa cd g).Ok (GW d) (0 + 20) := ⟨K0, KX, T, lawKind, by show callerA.depth + 1 + (0 + 20) < recursionLimit; decide, by show callerA.units + 3 + 8 * (0 + 20) + 8 < cLine; decide⟩
  have main := law_all (r := 0) (Q := fun f _ _ => f = .ret (.bool true)) ok hl hi hz (lawH1 L) (lawH2 L) (fun _ _ => rfl) [] _ _ _ (st0 (s := s) (tk := tk) (fa := fa) (cd := cd) F N hm d1 d2)
  refine wpAny_mono main (fun f s' hq => ?_) (fun _ _ x => x.elim)
  obtain ⟨ℓ', H', ⟨⟨h', tk', rfl⟩, m', n', S'⟩, e⟩ := hq
  cases f with
  | ret v =>
    have ev : pv v = .bool true := by
      simp only [pf] at e; injection e
    cases pv_bool ev
    exact k _ _ _ S'.F
  | _ => simp [pf] at e

end
end Mine
end
section
open PySem PySem.W PyProof.Rows PySem.Calls PySem.Spec
set_option maxHeartbeats 0 in
theorem PySem.Challenge.cw_tk0049_01_holds : PySem.Challenge.rw_tk0049_01.Holds := by
  w_on
  refine holds_law Mine.law_said fun said => ?_
  refine holds_open (q := Mine.hd.view_39) (loose := []) (Xt := fun s => xlAt Mine.hd.view_39 [] s && recOk [] s) (XP := XL Mine.hd.view_39 []) (Yf := Hook.obs Mine.hk) (Ya := Hook.val Mine.hk) (YP := Hook.says Mine.hk) (N := 3972) Mine.law_left (Hook.of Mine.hk) (Hook.keeps Mine.hk) (fun s e => xl_of s (Bool.and_eq_true_iff.mp e).1) XL.keeps (by rfl) (by rfl) (by rfl) (fun s e => recFacts_of (Bool.and_eq_true_iff.mp e).2) (by rfl) said (by decide +kernel) ⟨rfl, rfl, rfl, rfl, rfl, by decide +kernel⟩ ?hw ?hc
  case hw => w_witness2
  case hc =>
    intro w s₀ s₁ mg mb G Y fa o pm cd doc dV kV ho hd hcd hD hmg hg args vals as hpre hlay hrd hwl hlo
    have KX := kIn_of Y
    k_behind G ho hd hcd hD hmg hpre hlay hrd hwl hlo cd
    rename_i X V GL T B TE TW v11 v10 M cd v8 zs hs hlay0 hL1 hr1 hl2 v6 v5 l vs v2 hL ra w1 r0 hI hr hc1 hc2 K0 h₁ tk₁ F o2 o1 left right N0 X0
    exact Mine.law_run (d := ⟨PySem.Challenge.rw_tk0049_01.row.prog, w, Mine.hd.view_39, looseW Mine.hd.view_39 [], ExcName.means s₀.heap, mg, mb⟩) K0 KX T F N0 rfl (right.trans rfl) (left.trans rfl) hL hI (by omega) (fun h' tk' m' F' => goodW_bool F' hg (fun _ => rfl) (postW_of (by first | rfl | wrow_shape) (by first | rfl | wtm_val) (by first | rfl | w_fin)))
end
