import PyProof.Rows.All
import Wide.All
import OpenK.AllK
import Wide.FinOn
import PySem.Challenge.RW_nt0344_01
section
set_option maxRecDepth 100000
open PySem PySem.W PySem.Calls PyProof.Rows
set_option Elab.async false
namespace Mine
abbrev lo : List Str := [Str.ofString "BLANKS", Str.ofString "LINE_ENDS"]
noncomputable def stmtAt : List Stmt → Nat → Stmt
  | [], _ => .Pass default
  | x :: _, 0 => x
  | _ :: r, n + 1 => stmtAt r n
/-- the statements of the top that the view keeps -/
noncomputable def qq : Program := { Challenge.pw_nt0344_01 with main := { Challenge.pw_nt0344_01.main with body := [stmtAt Challenge.pw_nt0344_01.main.body 1, stmtAt Challenge.pw_nt0344_01.main.body 2, stmtAt Challenge.pw_nt0344_01.main.body 3, stmtAt Challenge.pw_nt0344_01.main.body 4, stmtAt Challenge.pw_nt0344_01.main.body 6, stmtAt Challenge.pw_nt0344_01.main.body 7, stmtAt Challenge.pw_nt0344_01.main.body 8, stmtAt Challenge.pw_nt0344_01.main.body 9, stmtAt Challenge.pw_nt0344_01.main.body 10, stmtAt Challenge.pw_nt0344_01.main.body 11, stmtAt Challenge.pw_nt0344_01.main.body 12, stmtAt Challenge.pw_nt0344_01.main.body 13, stmtAt Challenge.pw_nt0344_01.main.body 14, stmtAt Challenge.pw_nt0344_01.main.body 15, stmtAt Challenge.pw_nt0344_01.main.body 16, stmtAt Challenge.pw_nt0344_01.main.body 17, stmtAt Challenge.pw_nt0344_01.main.body 18, stmtAt Challenge.pw_nt0344_01.main.body 19, stmtAt Challenge.pw_nt0344_01.main.body 20, stmtAt Challenge.pw_nt0344_01.main.body 22, stmtAt Challenge.pw_nt0344_01.main.body 23, stmtAt Challenge.pw_nt0344_01.main.body 24, stmtAt Challenge.pw_nt0344_01.main.body 25, stmtAt Challenge.pw_nt0344_01.main.body 26, stmtAt Challenge.pw_nt0344_01.main.body 27, stmtAt Challenge.pw_nt0344_01.main.body 28, stmtAt Challenge.pw_nt0344_01.main.body 29, stmtAt Challenge.pw_nt0344_01.main.body 30, stmtAt Challenge.pw_nt0344_01.main.body 31, stmtAt Challenge.pw_nt0344_01.main.body 32, stmtAt Challenge.pw_nt0344_01.main.body 33] } }
noncomputable def fobj (i : Nat) (md : Str) (t : Nat) (c : Addr) : Obj := match stmtAt Challenge.pw_nt0344_01.main.body i with
  | .FunctionDef name params body _ _ _ scope .. => { cls := .type "function", dict := none, data := .func (fnOf name name params body scope .none .none .none (.str md t) none (.ref c) .none), slots := #[] }
  | _ => { cls := .none, dict := none, data := .plain, slots := #[] }
noncomputable def cobj (vs : List Value) : Obj := { cls := .type "code", dict := none, data := .fields vs.toArray, slots := #[] }
noncomputable def lobj (vs : List Value) : Obj := { cls := .type "list", dict := none, data := .seq vs.toArray, slots := #[] }
noncomputable def ge (n : Str) (t : Nat) (v : Value) : Str × Nat × Value := (n, t, v)
noncomputable def gobj (P : Params) (n : Nat) (es : List (Str × Nat × Value)) : Obj := { cls := .type "dict", dict := none, data := .dict (es.map fun e => ⟨PyData.keyHash P e.1, .str e.1 e.2.1, e.2.2⟩).toArray n, slots := #[] }
noncomputable def tobj (vs : List Value) : Obj := { cls := .type "tuple", dict := none, data := .seq vs.toArray, slots := #[] }
noncomputable def nobj (vs : List Value) : Obj := { cls := .none, dict := none, data := .fields vs.toArray, slots := #[] }
noncomputable def mobj (vs : List (Option Value)) : Obj := { cls := .type "frame", dict := none, data := .plain, slots := vs.toArray }
noncomputable def uobj (i : Nat) : Obj := match stmtAt Challenge.pw_nt0344_01.main.body i with
  | .FunctionDef name params body _ _ _ scope .. => { cls := .none, dict := none, data := .func { name := name, qualname := name, params := params, body := .stmts body, scope := scope, globals := 0, closure := [], defaults := .none, kwdefaults := .none }, slots := #[] }
  | _ => { cls := .none, dict := none, data := .plain, slots := #[] }
noncomputable def g3 (P : Params) : Obj := gobj P 40 [ge "__name__" 165 (.str "law_nt0344_01" 369), ge "__doc__" 166 (.none), ge "__package__" 167 (.none), ge "__loader__" 168 (.builtin "__main__.__loader__#opaque"), ge "__spec__" 169 (.none), ge ⟨#[95,95,97,110,110,111,116,97,116,105,111,110,115,95,95]⟩ 170 (.ref 6), ge "__builtins__" 171 (.ref 4), ge "__file__" 173 (.str "/claim/cut.py" 172), ge "__cached__" 174 (.none), ge "BLANKS" 200 (.ref 15), ge "LINE_ENDS" 205 (.ref 16), ge "is_white" 212 (.ref 23), ge "is_line_end" 219 (.ref 30), ge "clamp_place" 229 (.ref 37), ge "from_either_end" 237 (.ref 44), ge "slice_of" 248 (.ref 51), ge "substring_of" 259 (.ref 58), ge "substr_of" 271 (.ref 65), ge "stands_at" 280 (.ref 72), ge "find_from" 290 (.ref 79), ge "find_back" 300 (.ref 86), ge "split_text" 313 (.ref 93), ge "is_blank" 321 (.ref 100), ge "trimmed_text" 330 (.ref 107), ge "filled_in" 343 (.ref 114), ge "put_in" 353 (.ref 121), ge "order_of" 362 (.ref 128), ge "text_from" 368 (.ref 133), ge "_law_draw" 378 (.ref 140), ge "_law_codes" 384 (.ref 145), ge "_law_places" 390 (.ref 150), ge "_law_found_right" 396 (.ref 155), ge "_law_kept" 402 (.ref 160), ge "_law_cuts_right" 417 (.ref 167), ge "_law_parts" 423 (.ref 172), ge "_law_split_right" 429 (.ref 177), ge "_law_trimmed_right" 435 (.ref 182), ge "_law_filled_right" 450 (.ref 189), ge "_law_order_right" 459 (.ref 196), ge "law" 465 (.ref 201)]
/-- the part of the heap behind the top that the walk reads -/
noncomputable def KK : Params → Frag := fun P =>
  (nat_lit 2, ⟨.none, none, .dict #[] 0, #[]⟩) ::
  (nat_lit 3, g3 P) ::
  (nat_lit 15, lobj [.int 9 189, .int 11 190, .int 12 191, .int 32 192, .int 160 193, .int 5760 194, .int 6158 195, .int 8239 196, .int 8287 197, .int 12288 198, .int 65279 199]) ::
  (nat_lit 16, lobj [.int 10 201, .int 13 202, .int 8232 203, .int 8233 204]) ::
  (nat_lit 22, cobj [.str "is_white" 206, .str "is_white" 207, .str "/claim/cut.py" 208, .int 4 0, .int 1 0, .int 0 0, .int 0 0, .int 3 0, .ref 17, .bool true, .int 181 0, .ref 18, .none, .ref 19, .ref 20, .ref 21, .int 210 0, .int 4 0, .str "/claim/cut.py" 211]) ::
  (nat_lit 23, fobj 3 "js.chars" 187 22) ::
  (nat_lit 29, cobj [.str "is_line_end" 213, .str "is_line_end" 214, .str "/claim/cut.py" 215, .int 6 0, .int 1 0, .int 0 0, .int 0 0, .int 3 0, .ref 24, .bool true, .int 181 0, .ref 25, .none, .ref 26, .ref 27, .ref 28, .int 217 0, .int 6 0, .str "/claim/cut.py" 218]) ::
  (nat_lit 30, fobj 4 "js.chars" 187 29) ::
  (nat_lit 36, cobj [.str "clamp_place" 222, .str "clamp_place" 223, .str "/claim/cut.py" 224, .int 9 0, .int 2 0, .int 0 0, .int 0 0, .int 3 0, .ref 31, .bool true, .int 181 0, .ref 32, .none, .ref 33, .ref 34, .ref 35, .int 227 0, .int 9 0, .str "/claim/cut.py" 228]) ::
  (nat_lit 37, fobj 6 "js.textcore" 220 36) ::
  (nat_lit 43, cobj [.str "from_either_end" 230, .str "from_either_end" 231, .str "/claim/cut.py" 232, .int 11 0, .int 2 0, .int 0 0, .int 0 0, .int 3 0, .ref 38, .bool true, .int 181 0, .ref 39, .none, .ref 40, .ref 41, .ref 42, .int 235 0, .int 11 0, .str "/claim/cut.py" 236]) ::
  (nat_lit 44, fobj 7 "js.textcore" 220 43) ::
  (nat_lit 50, cobj [.str "slice_of" 238, .str "slice_of" 239, .str "/claim/cut.py" 240, .int 13 0, .int 3 0, .int 0 0, .int 0 0, .int 3 0, .ref 45, .bool true, .int 181 0, .ref 46, .none, .ref 47, .ref 48, .ref 49, .int 246 0, .int 13 0, .str "/claim/cut.py" 247]) ::
  (nat_lit 51, fobj 8 "js.textcore" 220 50) ::
  (nat_lit 57, cobj [.str "substring_of" 249, .str "substring_of" 250, .str "/claim/cut.py" 251, .int 17 0, .int 3 0, .int 0 0, .int 0 0, .int 3 0, .ref 52, .bool true, .int 181 0, .ref 53, .none, .ref 54, .ref 55, .ref 56, .int 257 0, .int 17 0, .str "/claim/cut.py" 258]) ::
  (nat_lit 58, fobj 9 "js.textcore" 220 57) ::
  (nat_lit 64, cobj [.str "substr_of" 260, .str "substr_of" 261, .str "/claim/cut.py" 262, .int 21 0, .int 3 0, .int 0 0, .int 0 0, .int 3 0, .ref 59, .bool true, .int 181 0, .ref 60, .none, .ref 61, .ref 62, .ref 63, .int 269 0, .int 21 0, .str "/claim/cut.py" 270]) ::
  (nat_lit 65, fobj 10 "js.textcore" 220 64) ::
  (nat_lit 71, cobj [.str "stands_at" 272, .str "stands_at" 273, .str "/claim/cut.py" 274, .int 26 0, .int 3 0, .int 0 0, .int 0 0, .int 3 0, .ref 66, .bool true, .int 181 0, .ref 67, .none, .ref 68, .ref 69, .ref 70, .int 278 0, .int 26 0, .str "/claim/cut.py" 279]) ::
  (nat_lit 72, fobj 11 "js.textcore" 220 71) ::
  (nat_lit 78, cobj [.str "find_from" 281, .str "find_from" 282, .str "/claim/cut.py" 283, .int 28 0, .int 3 0, .int 0 0, .int 0 0, .int 3 0, .ref 73, .bool true, .int 181 0, .ref 74, .none, .ref 75, .ref 76, .ref 77, .int 288 0, .int 28 0, .str "/claim/cut.py" 289]) ::
  (nat_lit 79, fobj 12 "js.textcore" 220 78) ::
  (nat_lit 85, cobj [.str "find_back" 291, .str "find_back" 292, .str "/claim/cut.py" 293, .int 33 0, .int 3 0, .int 0 0, .int 0 0, .int 3 0, .ref 80, .bool true, .int 181 0, .ref 81, .none, .ref 82, .ref 83, .ref 84, .int 298 0, .int 33 0, .str "/claim/cut.py" 299]) ::
  (nat_lit 86, fobj 13 "js.textcore" 220 85) ::
  (nat_lit 92, cobj [.str "split_text" 301, .str "split_text" 302, .str "/claim/cut.py" 303, .int 38 0, .int 3 0, .int 0 0, .int 0 0, .int 3 0, .ref 87, .bool true, .int 181 0, .ref 88, .none, .ref 89, .ref 90, .ref 91, .int 311 0, .int 38 0, .str "/claim/cut.py" 312]) ::
  (nat_lit 93, fobj 14 "js.textcore" 220 92) ::
  (nat_lit 99, cobj [.str "is_blank" 314, .str "is_blank" 315, .str "/claim/cut.py" 316, .int 56 0, .int 1 0, .int 0 0, .int 0 0, .int 3 0, .ref 94, .bool true, .int 181 0, .ref 95, .none, .ref 96, .ref 97, .ref 98, .int 319 0, .int 56 0, .str "/claim/cut.py" 320]) ::
  (nat_lit 100, fobj 15 "js.textcore" 220 99) ::
  (nat_lit 106, cobj [.str "trimmed_text" 322, .str "trimmed_text" 323, .str "/claim/cut.py" 324, .int 59 0, .int 1 0, .int 0 0, .int 0 0, .int 3 0, .ref 101, .bool true, .int 181 0, .ref 102, .none, .ref 103, .ref 104, .ref 105, .int 328 0, .int 59 0, .str "/claim/cut.py" 329]) ::
  (nat_lit 107, fobj 16 "js.textcore" 220 106) ::
  (nat_lit 113, cobj [.str "filled_in" 331, .str "filled_in" 332, .str "/claim/cut.py" 333, .int 66 0, .int 4 0, .int 0 0, .int 0 0, .int 3 0, .ref 108, .bool true, .int 181 0, .ref 109, .none, .ref 110, .ref 111, .ref 112, .int 341 0, .int 66 0, .str "/claim/cut.py" 342]) ::
  (nat_lit 114, fobj 17 "js.textcore" 220 113) ::
  (nat_lit 120, cobj [.str "put_in" 344, .str "put_in" 345, .str "/claim/cut.py" 346, .int 83 0, .int 4 0, .int 0 0, .int 0 0, .int 3 0, .ref 115, .bool true, .int 181 0, .ref 116, .none, .ref 117, .ref 118, .ref 119, .int 351 0, .int 83 0, .str "/claim/cut.py" 352]) ::
  (nat_lit 121, fobj 18 "js.textcore" 220 120) ::
  (nat_lit 127, cobj [.str "order_of" 354, .str "order_of" 355, .str "/claim/cut.py" 356, .int 85 0, .int 2 0, .int 0 0, .int 0 0, .int 3 0, .ref 122, .bool true, .int 181 0, .ref 123, .none, .ref 124, .ref 125, .ref 126, .int 360 0, .int 85 0, .str "/claim/cut.py" 361]) ::
  (nat_lit 128, fobj 19 "js.textcore" 220 127) ::
  (nat_lit 132, cobj [.str "text_from" 363, .str "text_from" 364, .str "/claim/cut.py" 365, .int 92 0, .int 1 0, .int 0 0, .int 0 0, .int 3 0, .ref 129, .bool true, .int 181 0, .ref 130, .none, .none, .none, .ref 131, .int 366 0, .int 92 0, .str "/claim/cut.py" 367]) ::
  (nat_lit 133, fobj 20 "js.textcore" 220 132) ::
  (nat_lit 139, cobj [.str "_law_draw" 371, .str "_law_draw" 372, .str "/claim/cut.py" 373, .int 95 0, .int 2 0, .int 0 0, .int 0 0, .int 3 0, .ref 134, .bool true, .int 181 0, .ref 135, .none, .ref 136, .ref 137, .ref 138, .int 376 0, .int 95 0, .str "/claim/cut.py" 377]) ::
  (nat_lit 140, fobj 22 "law_nt0344_01" 369 139) ::
  (nat_lit 144, cobj [.str "_law_codes" 379, .str "_law_codes" 380, .str "/claim/cut.py" 381, .int 101 0, .int 2 0, .int 0 0, .int 0 0, .int 3 0, .ref 141, .bool true, .int 181 0, .ref 142, .none, .none, .none, .ref 143, .int 382 0, .int 101 0, .str "/claim/cut.py" 383]) ::
  (nat_lit 145, fobj 23 "law_nt0344_01" 369 144) ::
  (nat_lit 149, cobj [.str "_law_places" 385, .str "_law_places" 386, .str "/claim/cut.py" 387, .int 104 0, .int 2 0, .int 0 0, .int 0 0, .int 3 0, .ref 146, .bool true, .int 181 0, .ref 147, .none, .none, .none, .ref 148, .int 388 0, .int 104 0, .str "/claim/cut.py" 389]) ::
  (nat_lit 150, fobj 24 "law_nt0344_01" 369 149) ::
  (nat_lit 154, cobj [.str "_law_found_right" 391, .str "_law_found_right" 392, .str "/claim/cut.py" 393, .int 106 0, .int 3 0, .int 0 0, .int 0 0, .int 3 0, .ref 151, .bool true, .int 181 0, .ref 152, .none, .none, .none, .ref 153, .int 394 0, .int 106 0, .str "/claim/cut.py" 395]) ::
  (nat_lit 155, fobj 25 "law_nt0344_01" 369 154) ::
  (nat_lit 159, cobj [.str "_law_kept" 397, .str "_law_kept" 398, .str "/claim/cut.py" 399, .int 114 0, .int 2 0, .int 0 0, .int 0 0, .int 3 0, .ref 156, .bool true, .int 181 0, .ref 157, .none, .none, .none, .ref 158, .int 400 0, .int 114 0, .str "/claim/cut.py" 401]) ::
  (nat_lit 160, fobj 26 "law_nt0344_01" 369 159) ::
  (nat_lit 166, cobj [.str "_law_cuts_right" 403, .str "_law_cuts_right" 404, .str "/claim/cut.py" 405, .int 116 0, .int 3 0, .int 0 0, .int 0 0, .int 3 0, .ref 161, .bool true, .int 181 0, .ref 162, .none, .ref 163, .ref 164, .ref 165, .int 415 0, .int 116 0, .str "/claim/cut.py" 416]) ::
  (nat_lit 167, fobj 27 "law_nt0344_01" 369 166) ::
  (nat_lit 171, cobj [.str "_law_parts" 418, .str "_law_parts" 419, .str "/claim/cut.py" 420, .int 131 0, .int 2 0, .int 0 0, .int 0 0, .int 3 0, .ref 168, .bool true, .int 181 0, .ref 169, .none, .none, .none, .ref 170, .int 421 0, .int 131 0, .str "/claim/cut.py" 422]) ::
  (nat_lit 172, fobj 28 "law_nt0344_01" 369 171) ::
  (nat_lit 176, cobj [.str "_law_split_right" 424, .str "_law_split_right" 425, .str "/claim/cut.py" 426, .int 143 0, .int 3 0, .int 0 0, .int 0 0, .int 3 0, .ref 173, .bool true, .int 181 0, .ref 174, .none, .none, .none, .ref 175, .int 427 0, .int 143 0, .str "/claim/cut.py" 428]) ::
  (nat_lit 177, fobj 29 "law_nt0344_01" 369 176) ::
  (nat_lit 181, cobj [.str "_law_trimmed_right" 430, .str "_law_trimmed_right" 431, .str "/claim/cut.py" 432, .int 149 0, .int 1 0, .int 0 0, .int 0 0, .int 3 0, .ref 178, .bool true, .int 181 0, .ref 179, .none, .none, .none, .ref 180, .int 433 0, .int 149 0, .str "/claim/cut.py" 434]) ::
  (nat_lit 182, fobj 30 "law_nt0344_01" 369 181) ::
  (nat_lit 188, cobj [.str "_law_filled_right" 436, .str "_law_filled_right" 437, .str "/claim/cut.py" 438, .int 153 0, .int 4 0, .int 0 0, .int 0 0, .int 3 0, .ref 183, .bool true, .int 181 0, .ref 184, .none, .ref 185, .ref 186, .ref 187, .int 448 0, .int 153 0, .str "/claim/cut.py" 449]) ::
  (nat_lit 189, fobj 31 "law_nt0344_01" 369 188) ::
  (nat_lit 195, cobj [.str "_law_order_right" 451, .str "_law_order_right" 452, .str "/claim/cut.py" 453, .int 162 0, .int 2 0, .int 0 0, .int 0 0, .int 3 0, .ref 190, .bool true, .int 181 0, .ref 191, .none, .ref 192, .ref 193, .ref 194, .int 457 0, .int 162 0, .str "/claim/cut.py" 458]) ::
  (nat_lit 196, fobj 32 "law_nt0344_01" 369 195) ::
  (nat_lit 200, cobj [.str "law" 460, .str "law" 461, .str "/claim/cut.py" 462, .int 165 0, .int 1 0, .int 0 0, .int 0 0, .int 3 0, .ref 197, .bool true, .int 181 0, .ref 198, .none, .none, .none, .ref 199, .int 463 0, .int 165 0, .str "/claim/cut.py" 464]) ::
  (nat_lit 201, fobj 33 "law_nt0344_01" 369 200) :: []
abbrev kas : List Addr := [2, 3, 15, 16, 22, 23, 29, 30, 36, 37, 43, 44, 50, 51, 57, 58, 64, 65, 71, 72, 78, 79, 85, 86, 92, 93, 99, 100, 106, 107, 113, 114, 120, 121, 127, 128, 132, 133, 139, 140, 144, 145, 149, 150, 154, 155, 159, 160, 166, 167, 171, 172, 176, 177, 181, 182, 188, 189, 195, 196, 200, 201]
theorem kasEq : ∀ P, kas = (KK P).map (·.1) := fun _ => by kernel_rfl
noncomputable abbrev HK : Hook := kHook KK kas kasEq
noncomputable abbrev Xq : Shared → Bool := fun s => xlAt qq [] s && recOk (RowW.records Challenge.rw_nt0344_01.row.toRowW) s
set_option maxHeartbeats 8000000
/-- the objects behind the top -/
noncomputable def HL : Params → List Obj := fun P =>
  boot_o_0 P ::
  boot_o_1 P ::
  boot_o_2 P ::
  g3 P ::
  boot_o_4 P ::
  boot_o_5 P ::
  boot_o_6 P ::
  boot_o_7 P ::
  boot_o_8 P ::
  boot_o_9 P ::
  boot_o_10 P ::
  tobj [] ::
  nobj [.int 4 0, .int 0 0, .ref 22, .int 6 0, .int 0 0, .ref 29, .int 9 0, .int 0 0, .ref 36, .int 11 0, .int 0 0, .ref 43, .int 13 0, .int 0 0, .ref 50, .int 17 0, .int 0 0, .ref 57, .int 21 0, .int 0 0, .ref 64, .int 26 0, .int 0 0, .ref 71, .int 28 0, .int 0 0, .ref 78, .int 33 0, .int 0 0, .ref 85, .int 38 0, .int 0 0, .ref 92, .int 56 0, .int 0 0, .ref 99, .int 59 0, .int 0 0, .ref 106, .int 66 0, .int 0 0, .ref 113, .int 83 0, .int 0 0, .ref 120, .int 85 0, .int 0 0, .ref 127, .int 92 0, .int 0 0, .ref 132, .int 95 0, .int 0 0, .ref 139, .int 101 0, .int 0 0, .ref 144, .int 104 0, .int 0 0, .ref 149, .int 106 0, .int 0 0, .ref 154, .int 114 0, .int 0 0, .ref 159, .int 116 0, .int 0 0, .ref 166, .int 131 0, .int 0 0, .ref 171, .int 143 0, .int 0 0, .ref 176, .int 149 0, .int 0 0, .ref 181, .int 153 0, .int 0 0, .ref 188, .int 162 0, .int 0 0, .ref 195, .int 165 0, .int 0 0, .ref 200] ::
  cobj [.str "<module>" 182, .str "<module>" 183, .str "/claim/cut.py" 184, .int 1 0, .int 0 0, .int 0 0, .int 0 0, .int 0 0, .ref 11, .bool false, .int 181 0, .ref 12, .none, .none, .none, .none, .int 185 0, .int 1 0, .str "/claim/cut.py" 186] ::
  mobj [some (.ref 13), some (.ref 3), some (.ref 3), none, some (.str "__main__" 164), none, some (.ref 0)] ::
  lobj [.int 9 189, .int 11 190, .int 12 191, .int 32 192, .int 160 193, .int 5760 194, .int 6158 195, .int 8239 196, .int 8287 197, .int 12288 198, .int 65279 199] ::
  lobj [.int 10 201, .int 13 202, .int 8232 203, .int 8233 204] ::
  tobj [] ::
  nobj [] ::
  tobj [.str "code" 209] ::
  tobj [] ::
  uobj 3 ::
  cobj [.str "is_white" 206, .str "is_white" 207, .str "/claim/cut.py" 208, .int 4 0, .int 1 0, .int 0 0, .int 0 0, .int 3 0, .ref 17, .bool true, .int 181 0, .ref 18, .none, .ref 19, .ref 20, .ref 21, .int 210 0, .int 4 0, .str "/claim/cut.py" 211] ::
  fobj 3 "js.chars" 187 22 ::
  tobj [] ::
  nobj [] ::
  tobj [.str "code" 216] ::
  tobj [] ::
  uobj 4 ::
  cobj [.str "is_line_end" 213, .str "is_line_end" 214, .str "/claim/cut.py" 215, .int 6 0, .int 1 0, .int 0 0, .int 0 0, .int 3 0, .ref 24, .bool true, .int 181 0, .ref 25, .none, .ref 26, .ref 27, .ref 28, .int 217 0, .int 6 0, .str "/claim/cut.py" 218] ::
  fobj 4 "js.chars" 187 29 ::
  tobj [] ::
  nobj [] ::
  tobj [.str "place" 225, .str "length" 226] ::
  tobj [] ::
  uobj 6 ::
  cobj [.str "clamp_place" 222, .str "clamp_place" 223, .str "/claim/cut.py" 224, .int 9 0, .int 2 0, .int 0 0, .int 0 0, .int 3 0, .ref 31, .bool true, .int 181 0, .ref 32, .none, .ref 33, .ref 34, .ref 35, .int 227 0, .int 9 0, .str "/claim/cut.py" 228] ::
  fobj 6 "js.textcore" 220 36 ::
  tobj [] ::
  nobj [] ::
  tobj [.str "place" 233, .str "length" 234] ::
  tobj [] ::
  uobj 7 ::
  cobj [.str "from_either_end" 230, .str "from_either_end" 231, .str "/claim/cut.py" 232, .int 11 0, .int 2 0, .int 0 0, .int 0 0, .int 3 0, .ref 38, .bool true, .int 181 0, .ref 39, .none, .ref 40, .ref 41, .ref 42, .int 235 0, .int 11 0, .str "/claim/cut.py" 236] ::
  fobj 7 "js.textcore" 220 43 ::
  tobj [] ::
  nobj [] ::
  tobj [.str "text" 241, .str "start" 242, .str "end" 243, .str "first" 244, .str "last" 245] ::
  tobj [] ::
  uobj 8 ::
  cobj [.str "slice_of" 238, .str "slice_of" 239, .str "/claim/cut.py" 240, .int 13 0, .int 3 0, .int 0 0, .int 0 0, .int 3 0, .ref 45, .bool true, .int 181 0, .ref 46, .none, .ref 47, .ref 48, .ref 49, .int 246 0, .int 13 0, .str "/claim/cut.py" 247] ::
  fobj 8 "js.textcore" 220 50 ::
  tobj [] ::
  nobj [] ::
  tobj [.str "text" 252, .str "start" 253, .str "end" 254, .str "first" 255, .str "last" 256] ::
  tobj [] ::
  uobj 9 ::
  cobj [.str "substring_of" 249, .str "substring_of" 250, .str "/claim/cut.py" 251, .int 17 0, .int 3 0, .int 0 0, .int 0 0, .int 3 0, .ref 52, .bool true, .int 181 0, .ref 53, .none, .ref 54, .ref 55, .ref 56, .int 257 0, .int 17 0, .str "/claim/cut.py" 258] ::
  fobj 9 "js.textcore" 220 57 ::
  tobj [] ::
  nobj [] ::
  tobj [.str "text" 263, .str "start" 264, .str "many" 265, .str "first" 266, .str "left" 267, .str "size" 268] ::
  tobj [] ::
  uobj 10 ::
  cobj [.str "substr_of" 260, .str "substr_of" 261, .str "/claim/cut.py" 262, .int 21 0, .int 3 0, .int 0 0, .int 0 0, .int 3 0, .ref 59, .bool true, .int 181 0, .ref 60, .none, .ref 61, .ref 62, .ref 63, .int 269 0, .int 21 0, .str "/claim/cut.py" 270] ::
  fobj 10 "js.textcore" 220 64 ::
  tobj [] ::
  nobj [] ::
  tobj [.str "text" 275, .str "wanted" 276, .str "at" 277] ::
  tobj [] ::
  uobj 11 ::
  cobj [.str "stands_at" 272, .str "stands_at" 273, .str "/claim/cut.py" 274, .int 26 0, .int 3 0, .int 0 0, .int 0 0, .int 3 0, .ref 66, .bool true, .int 181 0, .ref 67, .none, .ref 68, .ref 69, .ref 70, .int 278 0, .int 26 0, .str "/claim/cut.py" 279] ::
  fobj 11 "js.textcore" 220 71 ::
  tobj [] ::
  nobj [] ::
  tobj [.str "text" 284, .str "wanted" 285, .str "start" 286, .str "at" 287] ::
  tobj [] ::
  uobj 12 ::
  cobj [.str "find_from" 281, .str "find_from" 282, .str "/claim/cut.py" 283, .int 28 0, .int 3 0, .int 0 0, .int 0 0, .int 3 0, .ref 73, .bool true, .int 181 0, .ref 74, .none, .ref 75, .ref 76, .ref 77, .int 288 0, .int 28 0, .str "/claim/cut.py" 289] ::
  fobj 12 "js.textcore" 220 78 ::
  tobj [] ::
  nobj [] ::
  tobj [.str "text" 294, .str "wanted" 295, .str "start" 296, .str "at" 297] ::
  tobj [] ::
  uobj 13 ::
  cobj [.str "find_back" 291, .str "find_back" 292, .str "/claim/cut.py" 293, .int 33 0, .int 3 0, .int 0 0, .int 0 0, .int 3 0, .ref 80, .bool true, .int 181 0, .ref 81, .none, .ref 82, .ref 83, .ref 84, .int 298 0, .int 33 0, .str "/claim/cut.py" 299] ::
  fobj 13 "js.textcore" 220 85 ::
  tobj [] ::
  nobj [] ::
  tobj [.str "text" 304, .str "separator" 305, .str "limit" 306, .str "found" 307, .str "begin" 308, .str "at" 309, .str "end" 310] ::
  tobj [] ::
  uobj 14 ::
  cobj [.str "split_text" 301, .str "split_text" 302, .str "/claim/cut.py" 303, .int 38 0, .int 3 0, .int 0 0, .int 0 0, .int 3 0, .ref 87, .bool true, .int 181 0, .ref 88, .none, .ref 89, .ref 90, .ref 91, .int 311 0, .int 38 0, .str "/claim/cut.py" 312] ::
  fobj 14 "js.textcore" 220 92 ::
  tobj [] ::
  nobj [] ::
  tobj [.str "sign" 317, .str "code" 318] ::
  tobj [] ::
  uobj 15 ::
  cobj [.str "is_blank" 314, .str "is_blank" 315, .str "/claim/cut.py" 316, .int 56 0, .int 1 0, .int 0 0, .int 0 0, .int 3 0, .ref 94, .bool true, .int 181 0, .ref 95, .none, .ref 96, .ref 97, .ref 98, .int 319 0, .int 56 0, .str "/claim/cut.py" 320] ::
  fobj 15 "js.textcore" 220 99 ::
  tobj [] ::
  nobj [] ::
  tobj [.str "text" 325, .str "first" 326, .str "last" 327] ::
  tobj [] ::
  uobj 16 ::
  cobj [.str "trimmed_text" 322, .str "trimmed_text" 323, .str "/claim/cut.py" 324, .int 59 0, .int 1 0, .int 0 0, .int 0 0, .int 3 0, .ref 101, .bool true, .int 181 0, .ref 102, .none, .ref 103, .ref 104, .ref 105, .int 328 0, .int 59 0, .str "/claim/cut.py" 329] ::
  fobj 16 "js.textcore" 220 106 ::
  tobj [] ::
  nobj [] ::
  tobj [.str "template" 334, .str "whole" 335, .str "at" 336, .str "many" 337, .str "found" 338, .str "spot" 339, .str "mark" 340] ::
  tobj [] ::
  uobj 17 ::
  cobj [.str "filled_in" 331, .str "filled_in" 332, .str "/claim/cut.py" 333, .int 66 0, .int 4 0, .int 0 0, .int 0 0, .int 3 0, .ref 108, .bool true, .int 181 0, .ref 109, .none, .ref 110, .ref 111, .ref 112, .int 341 0, .int 66 0, .str "/claim/cut.py" 342] ::
  fobj 17 "js.textcore" 220 113 ::
  tobj [] ::
  nobj [] ::
  tobj [.str "text" 347, .str "at" 348, .str "many" 349, .str "piece" 350] ::
  tobj [] ::
  uobj 18 ::
  cobj [.str "put_in" 344, .str "put_in" 345, .str "/claim/cut.py" 346, .int 83 0, .int 4 0, .int 0 0, .int 0 0, .int 3 0, .ref 115, .bool true, .int 181 0, .ref 116, .none, .ref 117, .ref 118, .ref 119, .int 351 0, .int 83 0, .str "/claim/cut.py" 352] ::
  fobj 18 "js.textcore" 220 120 ::
  tobj [] ::
  nobj [] ::
  tobj [.str "one" 357, .str "other" 358, .str "at" 359] ::
  tobj [] ::
  uobj 19 ::
  cobj [.str "order_of" 354, .str "order_of" 355, .str "/claim/cut.py" 356, .int 85 0, .int 2 0, .int 0 0, .int 0 0, .int 3 0, .ref 122, .bool true, .int 181 0, .ref 123, .none, .ref 124, .ref 125, .ref 126, .int 360 0, .int 85 0, .str "/claim/cut.py" 361] ::
  fobj 19 "js.textcore" 220 127 ::
  tobj [] ::
  nobj [] ::
  uobj 20 ::
  cobj [.str "text_from" 363, .str "text_from" 364, .str "/claim/cut.py" 365, .int 92 0, .int 1 0, .int 0 0, .int 0 0, .int 3 0, .ref 129, .bool true, .int 181 0, .ref 130, .none, .none, .none, .ref 131, .int 366 0, .int 92 0, .str "/claim/cut.py" 367] ::
  fobj 20 "js.textcore" 220 132 ::
  tobj [] ::
  nobj [] ::
  tobj [.str "box" 374, .str "many" 375] ::
  tobj [] ::
  uobj 22 ::
  cobj [.str "_law_draw" 371, .str "_law_draw" 372, .str "/claim/cut.py" 373, .int 95 0, .int 2 0, .int 0 0, .int 0 0, .int 3 0, .ref 134, .bool true, .int 181 0, .ref 135, .none, .ref 136, .ref 137, .ref 138, .int 376 0, .int 95 0, .str "/claim/cut.py" 377] ::
  fobj 22 "law_nt0344_01" 369 139 ::
  tobj [] ::
  nobj [] ::
  uobj 23 ::
  cobj [.str "_law_codes" 379, .str "_law_codes" 380, .str "/claim/cut.py" 381, .int 101 0, .int 2 0, .int 0 0, .int 0 0, .int 3 0, .ref 141, .bool true, .int 181 0, .ref 142, .none, .none, .none, .ref 143, .int 382 0, .int 101 0, .str "/claim/cut.py" 383] ::
  fobj 23 "law_nt0344_01" 369 144 ::
  tobj [] ::
  nobj [] ::
  uobj 24 ::
  cobj [.str "_law_places" 385, .str "_law_places" 386, .str "/claim/cut.py" 387, .int 104 0, .int 2 0, .int 0 0, .int 0 0, .int 3 0, .ref 146, .bool true, .int 181 0, .ref 147, .none, .none, .none, .ref 148, .int 388 0, .int 104 0, .str "/claim/cut.py" 389] ::
  fobj 24 "law_nt0344_01" 369 149 ::
  tobj [] ::
  nobj [] ::
  uobj 25 ::
  cobj [.str "_law_found_right" 391, .str "_law_found_right" 392, .str "/claim/cut.py" 393, .int 106 0, .int 3 0, .int 0 0, .int 0 0, .int 3 0, .ref 151, .bool true, .int 181 0, .ref 152, .none, .none, .none, .ref 153, .int 394 0, .int 106 0, .str "/claim/cut.py" 395] ::
  fobj 25 "law_nt0344_01" 369 154 ::
  tobj [] ::
  nobj [] ::
  uobj 26 ::
  cobj [.str "_law_kept" 397, .str "_law_kept" 398, .str "/claim/cut.py" 399, .int 114 0, .int 2 0, .int 0 0, .int 0 0, .int 3 0, .ref 156, .bool true, .int 181 0, .ref 157, .none, .none, .none, .ref 158, .int 400 0, .int 114 0, .str "/claim/cut.py" 401] ::
  fobj 26 "law_nt0344_01" 369 159 ::
  tobj [] ::
  nobj [] ::
  tobj [.str "codes" 406, .str "start" 407, .str "end" 408, .str "text" 409, .str "many" 410, .str "first" 411, .str "last" 412, .str "low" 413, .str "high" 414] ::
  tobj [] ::
  uobj 27 ::
  cobj [.str "_law_cuts_right" 403, .str "_law_cuts_right" 404, .str "/claim/cut.py" 405, .int 116 0, .int 3 0, .int 0 0, .int 0 0, .int 3 0, .ref 161, .bool true, .int 181 0, .ref 162, .none, .ref 163, .ref 164, .ref 165, .int 415 0, .int 116 0, .str "/claim/cut.py" 416] ::
  fobj 27 "law_nt0344_01" 369 166 ::
  tobj [] ::
  nobj [] ::
  uobj 28 ::
  cobj [.str "_law_parts" 418, .str "_law_parts" 419, .str "/claim/cut.py" 420, .int 131 0, .int 2 0, .int 0 0, .int 0 0, .int 3 0, .ref 168, .bool true, .int 181 0, .ref 169, .none, .none, .none, .ref 170, .int 421 0, .int 131 0, .str "/claim/cut.py" 422] ::
  fobj 28 "law_nt0344_01" 369 171 ::
  tobj [] ::
  nobj [] ::
  uobj 29 ::
  cobj [.str "_law_split_right" 424, .str "_law_split_right" 425, .str "/claim/cut.py" 426, .int 143 0, .int 3 0, .int 0 0, .int 0 0, .int 3 0, .ref 173, .bool true, .int 181 0, .ref 174, .none, .none, .none, .ref 175, .int 427 0, .int 143 0, .str "/claim/cut.py" 428] ::
  fobj 29 "law_nt0344_01" 369 176 ::
  tobj [] ::
  nobj [] ::
  uobj 30 ::
  cobj [.str "_law_trimmed_right" 430, .str "_law_trimmed_right" 431, .str "/claim/cut.py" 432, .int 149 0, .int 1 0, .int 0 0, .int 0 0, .int 3 0, .ref 178, .bool true, .int 181 0, .ref 179, .none, .none, .none, .ref 180, .int 433 0, .int 149 0, .str "/claim/cut.py" 434] ::
  fobj 30 "law_nt0344_01" 369 181 ::
  tobj [] ::
  nobj [] ::
  tobj [.str "box" 439, .str "codes" 440, .str "at" 441, .str "many" 442, .str "text" 443, .str "template" 444, .str "due" 445, .str "turn" 446, .str "form" 447] ::
  tobj [] ::
  uobj 31 ::
  cobj [.str "_law_filled_right" 436, .str "_law_filled_right" 437, .str "/claim/cut.py" 438, .int 153 0, .int 4 0, .int 0 0, .int 0 0, .int 3 0, .ref 183, .bool true, .int 181 0, .ref 184, .none, .ref 185, .ref 186, .ref 187, .int 448 0, .int 153 0, .str "/claim/cut.py" 449] ::
  fobj 31 "law_nt0344_01" 369 188 ::
  tobj [] ::
  nobj [] ::
  tobj [.str "one" 454, .str "other" 455, .str "due" 456] ::
  tobj [] ::
  uobj 32 ::
  cobj [.str "_law_order_right" 451, .str "_law_order_right" 452, .str "/claim/cut.py" 453, .int 162 0, .int 2 0, .int 0 0, .int 0 0, .int 3 0, .ref 190, .bool true, .int 181 0, .ref 191, .none, .ref 192, .ref 193, .ref 194, .int 457 0, .int 162 0, .str "/claim/cut.py" 458] ::
  fobj 32 "law_nt0344_01" 369 195 ::
  tobj [] ::
  nobj [] ::
  uobj 33 ::
  cobj [.str "law" 460, .str "law" 461, .str "/claim/cut.py" 462, .int 165 0, .int 1 0, .int 0 0, .int 0 0, .int 3 0, .ref 197, .bool true, .int 181 0, .ref 198, .none, .none, .none, .ref 199, .int 463 0, .int 165 0, .str "/claim/cut.py" 464] ::
  fobj 33 "law_nt0344_01" 369 200 :: []
noncomputable def HH : Params → Heap := fun P => { objs := (HL P).toArray }
abbrev pp : Program := Challenge.rw_nt0344_01.row.prog
/-- the run of the top -/
theorem t_run (w : World) (os : OsState) : topRun treeTable pp w 11 (some (.ref 6)) 1500 ⟨boot_heap w.params, #[], boot_drawn, boot_toks, os⟩ (topStub pp) = some ⟨HH w.params, #[], boot_drawn, 466, os⟩ := by
  rw [PySem.W.Fast.te14364793385576792824, PySem.W.Fast.te14082659384304107361]
  kernel_rfl
theorem l_ok (w : World) (os : OsState) : (staticsOk ([]) (boot_heap w.params) (HH w.params) && namesBound pp (HH w.params) && gensDone ⟨HH w.params, #[], boot_drawn, 466, os⟩ && laidKept (boot_heap w.params) (HH w.params)) = true := by kernel_rfl
theorem l_seen (w : World) (os : OsState) : openSeen qq lo ([]) Xq true ⟨HH w.params, #[], boot_drawn, 466, os⟩ = openGood qq lo := by kernel_rfl
theorem l_kk (w : World) (os : OsState) : HK.obs ⟨HH w.params, #[], boot_drawn, 466, os⟩ = HK.val w := by kernel_rfl
theorem left : LeftO pp qq lo Xq HK.obs HK.val 2002 :=
  LeftO.of_pieces (boot_open rfl rfl fun _ => rfl) (fun w => by kernel_rfl) t_run rfl fun w => funext fun os => looks_pair (l_ok w os) (looks_pair (l_seen w os) (l_kk w os))
theorem s_res : namesResolve pp = true := by kernel_rfl
theorem s_road : noRoadLSs { strict := !([] : List Str).all cThrough.contains, foot := none, bare := (["vars", "dir", "locals"] : List Str).filter (readsOut pp pp.main.body) } pp.main.body = true := by kernel_rfl
theorem s_looks : looksOpen pp = true := by
  unfold looksOpen
  repeat' (first | (with_reducible refine look_both ?_ ?_) | (with_reducible exact s_res) | ((with_reducible show noRoadLSs _ _ = true); exact s_road) | kernel_rfl)
theorem s_row : Challenge.rw_nt0344_01.row.wellSaid = true := by
  unfold OpenRow.wellSaid OpenRow.partSaid
  repeat' (first | (with_reducible refine look_both ?_ ?_) | (with_reducible exact s_looks) | kernel_rfl)
theorem s_foot : noRoadLSs { strict := true, foot := some Challenge.rw_nt0344_01.bound', writes := Challenge.rw_nt0344_01.writes, may := Challenge.rw_nt0344_01.may } Challenge.rw_nt0344_01.footing = true := by kernel_rfl
theorem said : Challenge.rw_nt0344_01.wellSaid = true := by
  unfold OpenLaw.wellSaid
  repeat' (first | (with_reducible refine look_both ?_ ?_) | (with_reducible exact s_row) | (with_reducible exact s_foot) | kernel_rfl)
theorem bare : Challenge.rw_nt0344_01.row.prog.bare := ⟨rfl, rfl, rfl, rfl, rfl, by decide +kernel⟩
theorem oks : (chainsOk qq && opensWell pp && (frees Challenge.rw_nt0344_01.row.toRowW && Challenge.rw_nt0344_01.row.within.isEmpty)) = true := by kernel_rfl
theorem prom : Challenge.rw_nt0344_01.row.toRowW.promised := by w_witness2
noncomputable def dOf : Stmt → DefRec
  | .FunctionDef name params body _ _ _ scope _ _ pos => ⟨name, params, body, scope, pos⟩
  | st => ⟨"", ⟨[], [], none, [], [], none, []⟩, [], ⟨.function, [], false, false, []⟩, st.pos⟩
noncomputable abbrev lawD : Stmt := stmtAt Challenge.pw_nt0344_01.main.body 33
theorem hdef : defOf qq Challenge.rw_nt0344_01.row.name = some (dOf lawD, []) := by kernel_rfl
theorem hpar : Challenge.rw_nt0344_01.row.prog.theDef Challenge.rw_nt0344_01.row.name = some ((dOf lawD).params, (dOf lawD).body, (dOf lawD).scope) := by kernel_rfl
theorem hkw : kwWritten? (dOf lawD).params.kwonlyargs (dOf lawD).params.kw_defaults = some [] := by kernel_rfl
/-- the law from its body's walk -/
theorem hd {name : Str} {params : Arguments} {body : List Stmt} {ds ret tps} {scope : Scope} {ts bind pos} (e : lawD = .FunctionDef name params body ds ret tps scope ts bind pos)
    (T : WalkO qq lo (XL qq []) (kHook KK kas kasEq).says Challenge.rw_nt0344_01.row.toRowW ⟨name, params, body, scope, pos⟩ [] fun f vs => PySem.call f vs) : Challenge.rw_nt0344_01.Holds :=
  holds_law said fun s0 => holds_open (d := dOf lawD) (Xt := Xq) (Yf := HK.obs) (Ya := HK.val) left HK.of HK.keeps (fun s e => xl_of s (Bool.and_eq_true_iff.mp e).1) XL.keeps hdef hpar hkw (fun _ e => recFacts_of (Bool.and_eq_true_iff.mp e).2) rfl s0 oks bare prom
    (by rw [show dOf lawD = ⟨name, params, body, scope, pos⟩ by rw [e, dOf]]; exact T)
end Mine
end
local macro_rules | `(tactic| walk_at $s:str) => `(tactic| k_extra $s)
local macro_rules | `(tactic| k_ne) => `(tactic| k_extra "own ne")
local macro_rules | `(tactic| k_all) => `(tactic| k_extra "own all")
local macro_rules | `(tactic| ktr_room) => `(tactic| k_extra "own room")
local macro_rules | `(tactic| ktr_units) => `(tactic| k_extra "own units")
section
open PySem PySem.W PySem.Calls PyProof.Rows
theorem Mine.flush {M : Model} {A : Around} {Q : Unit → Shared → Prop} {E : Value → Shared → Prop} {s : Shared} (h : Q () s) : wpAny M A (pure ()) Q E s := by
  w_top off
  first | (walk1; fail "no") | exact wpAny_pure h
end
-- part Base
section
set_option maxRecDepth 100000
open PySem PySem.W PySem.Calls PyProof.Rows
set_option Elab.async false
namespace Mine

noncomputable abbrev ar (dp un : Nat) (gd : Option (List Code)) (fr : Option (List Env)) : Around := { handled := none, depth := dp, frames := fr, guards := gd, units := un }


theorem enterP {prog : Program} {w : World} {A : Around} {s : Shared} {K : Frag} {p : Program} {loose : List Str} {mean : ExcName → Option Value} {mg mb : Str → Option Value}
    {R : Result → Shared → Prop} {name qual : Str} {params : Arguments} {body : List Stmt} {scope : Scope} {dV kV doc pm cdv ct oc : Value} {an od : Option Addr} {osl : Array (Option Value)} {f : Addr} {args : Args} {binds : List (Str × Value)}
    (X : K.In s.heap) (T : Top p loose mean mg mb s.heap)
    (ho : K.lookup f = some ⟨oc, od, .func (fnOf name qual params body scope dV kV doc pm an cdv ct), osl⟩) (hcd : codeIn K cdv qual = true) (hroom : A.depth < recursionLimit)
    (hbind : BindsTo s (fnOf name qual params body scope dV kV doc pm an cdv ct) args binds) (hloc : ∀ y ∈ binds, scope.names.lookup y.1 = some .local)
    (h : ∀ L' h₁, Fr s.heap L' h₁ (fun y => binds.reverse.lookup y) → News s.heap L' h₁ [] →
      wpAny (model prog w) (A.deeper (envOf qual scope L' f cdv)) (execs body (envOf qual scope L' f cdv))
        (fun fl s' => R (.ok (.ret (match fl with | .ret v => v | _ => .none))) s')
        (fun _ _ => False)
        { s with heap := h₁, toks := s.toks + binds.length })
    (hco : scope.isCoroutine = false := by rfl) (hgen : scope.isGenerator = false := by rfl) (hk : scope.kind = .function := by rfl)
    (hcell : ∀ x ∈ scope.names, x.2 ≠ .cell := by decide) : codeAny (model prog w) A (.call (.ref f) args) R s := by
  refine codeAny_call_def (fd := fnOf name qual params body scope dV kV doc pm an cdv ct) (body := body) (binds := binds) hroom (X _ _ ho) rfl T.nolimit (codeRec_of X hcd) rfl hbind hcell hloc (fun h₁ hns hk₁ => ?_) hco hgen hk
  exact wpAny_mono (h s.heap.objs.size h₁ ⟨hns, hk₁, Nat.le_refl _⟩ News.nil) (fun _ _ x => x) (fun _ _ x => x.elim)

theorem room1 {dp a dd n : Nat} (h : dp + a < n) (hc : Nat.ble (1 + dd) a = true) : dp + 1 + dd < n :=
  Nat.lt_of_le_of_lt (by rw [Nat.add_assoc]; exact Nat.add_le_add_left (Nat.le_of_ble_eq_true hc) dp) h
theorem units1 {un a uu n : Nat} (h : un + a < n) (hc : Nat.ble (3 + uu) a = true) : un + 3 + uu < n :=
  Nat.lt_of_le_of_lt (by rw [Nat.add_assoc]; exact Nat.add_le_add_left (Nat.le_of_ble_eq_true hc) un) h
/-- a call of a def that changes nothing that stood -/
noncomputable def Pure1 (w : World) (mean : ExcName → Option Value) (mg mb : Str → Option Value) (f : Addr) (dd uu : Nat) (pre : Heap → Prop) (vs : List Value) (post : Heap → Value → Prop) : Prop :=
  ∀ (dp un : Nat) (gd : Option (List Code)) (fr : Option (List Env)) (s : Shared) (Q E : Value → Shared → Prop),
    (KK w.params).In s.heap → Top qq (looseW qq lo) mean mg mb s.heap → pre s.heap → dp + dd < recursionLimit → un + uu < cLine →
    (∀ r h' tk', (∀ b o, s.heap.get? b = some o → h'.get? b = some o) → post h' r → Q r { s with heap := h', toks := tk' }) →
    wpAny (model Challenge.rw_nt0344_01.row.prog w) (ar dp un gd fr) (call (.ref f) vs) Q E s




theorem Pure1.use {w : World} {mean : ExcName → Option Value} {mg mb : Str → Option Value} {f : Addr} {dd uu : Nat} {pre : Heap → Prop} {vs : List Value} {post : Heap → Value → Prop}
    (C : Pure1 w mean mg mb f dd uu pre vs post) {A : Around} {s : Shared} {Q E : Value → Shared → Prop} {base : Heap} {L : Addr} {m : Str → Option Value} {news : List (Addr × Obj)}
    (F : Fr base L s.heap m) (N : News base L s.heap news) (X : (KK w.params).In base) (T : Top qq (looseW qq lo) mean mg mb base) (hh : A.handled = none) (hp : pre s.heap) (hd : A.depth + dd < recursionLimit) (hu : A.units + uu < cLine)
    (ret : ∀ r h' tk', Fr base L h' m → News base L h' news → post h' r → Q r { s with heap := h', toks := tk' }) :
    wpAny (model Challenge.rw_nt0344_01.row.prog w) A (call (.ref f) vs) Q E s := by
  obtain ⟨ha, dp, fr, gd, un⟩ := A
  cases hh
  refine C dp un gd fr s Q E (X.keeps F.keep) (T.keeps F.keep) hp hd hu fun r h' tk' st hr => ret r h' tk' ?_ ?_ hr
  · obtain ⟨oL, es, ep, hL, r⟩ := F.ns
    exact ⟨⟨oL, es, ep, st _ _ hL, r⟩, fun b o e => st b o (F.keep b o e), F.above⟩
  · exact fun p hp => ⟨st _ _ (N p hp).1, (N p hp).2⟩



end Mine
end
-- part Loops
section
set_option maxRecDepth 100000
open PySem PySem.W PySem.Calls PyProof.Rows PyProof.V PySem.Spec
set_option Elab.async false
namespace Mine
section
variable {prog : Program} {w : World} {A : Around} {E : Value → Shared → Prop} {s : Shared} {env : Env} {h₀ : Heap} {x : Str} {body : List Stmt} {Q : Flow → Shared → Prop}

/-- a loop over a range by ones, up; J speaks of the turns done -/
theorem rng_up {r : Addr} {a b : Int} {t u v : Tok} {m₀ : Str → Option Value} {news : List (Addr × Obj)} (J : Nat → (Str → Option Value) → List (Addr × Obj) → Prop)
    (hh : A.handled = none) (hr : IsRange s.heap r a b 1 t u v) (ha : -(2 ^ 62) ≤ a) (ha' : a < 2 ^ 62) (hb : -(2 ^ 62) ≤ b) (hb' : b < 2 ^ 62) (F : Fr h₀ env.locals s.heap m₀) (N : News h₀ env.locals s.heap news) (hj : J 0 m₀ news)
    (turn : ∀ (i : Nat) t m₁ news₁ h tk own, (i : Int) < b - a → news₁.map (·.1) = news.map (·.1) → OwnOff own (news.map (·.1)) → J i m₁ news₁ → Fr h₀ env.locals h (fun y => if y = x then some (.int (a + i) t) else m₁ y) → News h₀ env.locals h (news₁ ++ own) →
      wpAny (model prog w) A (execs body env) (InvPostN h₀ env.locals (J (i + 1)) own (news.map (·.1)) { s with heap := h, toks := tk } Q) E { s with heap := h, toks := tk })
    (done : ∀ m₁ news₁ h tk, J (b - a).toNat m₁ news₁ → Fr h₀ env.locals h m₁ → News h₀ env.locals h news₁ → Q .next { s with heap := h, toks := tk }) :
    wpAny (model prog w) A (pyIter (.ref r)) (fun it s₂ => LoopAtV prog w A h₀ env x body Q E it s₂) E s := by
  have hsmall := small_one ha ha' hb hb'
  have hn : Builtin.Range.rangeSize a b 1 = ((b - a).toNat : Int) := by rw [rangeSize_one]; split <;> omega
  refine wpAny_pyIter_range hr hsmall ?_
  have W : Walks prog w A s.heap.objs.size [s.heap.objs.size] [s.heap.objs.size] (b - a).toNat (fun i v => i < (b - a).toNat ∧ ∃ t, v = .int (a + i * 1) t)
      (fun i h => IsRangeIter h s.heap.objs.size (a + (i : Nat) * 1) (((b - a).toNat : Int) - (i : Nat)) 1) := (Walks.range hh _ a 1 _).bound
  refine loop_invN J W ?_ ?_ ?_ ?_ (by show IsRangeIter _ _ _ _ _; rw [hn]; simpa using Heap.get?_push_size _ rfl) (F.push _) (fun p hp => ⟨Heap.get?_push_of_some _ (N p hp).1, (N p hp).2⟩) hj ?_ ?_
  · intro hm
    exact absurd F.ns.lt ((List.mem_singleton.mp hm) ▸ Nat.lt_irrefl _)
  · intro b hb
    rw [List.mem_singleton.mp hb]
    exact next_is_new F
  · intro p hp hI
    exact absurd (Heap.lt_size (N p hp).1) ((List.mem_singleton.mp hI) ▸ Nat.lt_irrefl _)
  · intro p hp hI
    exact absurd (Heap.lt_size (N p hp).1) ((List.mem_singleton.mp hI) ▸ Nat.lt_irrefl _)
  · rintro i v m₁ nx h tk own hi ⟨_, t, rfl⟩ hadr hoff hJ F₁ N₁
    have e1 : a + (i : Int) * 1 = a + (i : Int) := by omega
    rw [e1] at F₁
    exact turn i t m₁ nx h tk own (by omega) hadr hoff hJ F₁ N₁
  · rintro m₁ nx h tk hJ F₁ N₁
    exact done m₁ nx h tk hJ F₁ N₁

/-- the same, down -/
theorem rng_down {r : Addr} {a b : Int} {t u v : Tok} {m₀ : Str → Option Value} {news : List (Addr × Obj)} (J : Nat → (Str → Option Value) → List (Addr × Obj) → Prop)
    (hh : A.handled = none) (hr : IsRange s.heap r a b (-1) t u v) (ha : -(2 ^ 62) ≤ a) (ha' : a < 2 ^ 62) (hb : -(2 ^ 62) ≤ b) (hb' : b < 2 ^ 62) (F : Fr h₀ env.locals s.heap m₀) (N : News h₀ env.locals s.heap news) (hj : J 0 m₀ news)
    (turn : ∀ (i : Nat) t m₁ news₁ h tk own, (i : Int) < a - b → news₁.map (·.1) = news.map (·.1) → OwnOff own (news.map (·.1)) → J i m₁ news₁ → Fr h₀ env.locals h (fun y => if y = x then some (.int (a - i) t) else m₁ y) → News h₀ env.locals h (news₁ ++ own) →
      wpAny (model prog w) A (execs body env) (InvPostN h₀ env.locals (J (i + 1)) own (news.map (·.1)) { s with heap := h, toks := tk } Q) E { s with heap := h, toks := tk })
    (done : ∀ m₁ news₁ h tk, J (a - b).toNat m₁ news₁ → Fr h₀ env.locals h m₁ → News h₀ env.locals h news₁ → Q .next { s with heap := h, toks := tk }) :
    wpAny (model prog w) A (pyIter (.ref r)) (fun it s₂ => LoopAtV prog w A h₀ env x body Q E it s₂) E s := by
  have hsmall := small_down ha ha' hb hb'
  have hn : Builtin.Range.rangeSize a b (-1) = ((a - b).toNat : Int) := rangeSize_downNat a b
  refine wpAny_pyIter_range hr hsmall ?_
  have W : Walks prog w A s.heap.objs.size [s.heap.objs.size] [s.heap.objs.size] (a - b).toNat (fun i v => i < (a - b).toNat ∧ ∃ t, v = .int (a + i * (-1)) t)
      (fun i h => IsRangeIter h s.heap.objs.size (a + (i : Nat) * (-1)) (((a - b).toNat : Int) - (i : Nat)) (-1)) := (Walks.range hh _ a (-1) _).bound
  refine loop_invN J W ?_ ?_ ?_ ?_ (by show IsRangeIter _ _ _ _ _; rw [hn]; simpa using Heap.get?_push_size _ rfl) (F.push _) (fun p hp => ⟨Heap.get?_push_of_some _ (N p hp).1, (N p hp).2⟩) hj ?_ ?_
  · intro hm
    exact absurd F.ns.lt ((List.mem_singleton.mp hm) ▸ Nat.lt_irrefl _)
  · intro b hb
    rw [List.mem_singleton.mp hb]
    exact next_is_new F
  · intro p hp hI
    exact absurd (Heap.lt_size (N p hp).1) ((List.mem_singleton.mp hI) ▸ Nat.lt_irrefl _)
  · intro p hp hI
    exact absurd (Heap.lt_size (N p hp).1) ((List.mem_singleton.mp hI) ▸ Nat.lt_irrefl _)
  · rintro i v m₁ nx h tk own hi ⟨_, t, rfl⟩ hadr hoff hJ F₁ N₁
    have e1 : a + (i : Int) * (-1) = a - (i : Int) := by omega
    rw [e1] at F₁
    exact turn i t m₁ nx h tk own (by omega) hadr hoff hJ F₁ N₁
  · rintro m₁ nx h tk hJ F₁ N₁
    exact done m₁ nx h tk hJ F₁ N₁

/-- what a searching turn leaves: the frame but for x, the ledger -/
noncomputable def Srch (x : Str) (m₀ : Str → Option Value) (news : List (Addr × Obj)) (P : Prop) (m : Str → Option Value) (nx : List (Addr × Obj)) : Prop := nx = news ∧ (∀ z, z ≠ x → m z = m₀ z) ∧ P

theorem srch_fr {L : Addr} {h : Heap} {m m₀ : Str → Option Value} {v : Value} (hm : ∀ z, z ≠ x → m z = m₀ z) (F : Fr h₀ L h (fun y => if y = x then some v else m y)) : Fr h₀ L h (fun y => if y = x then some v else m₀ y) := by
  have e : (fun y => if y = x then some v else m y) = fun y => if y = x then some v else m₀ y := by
    funext y
    by_cases hy : y = x
    · rw [if_pos hy, if_pos hy]
    · rw [if_neg hy, if_neg hy]; exact hm y hy
  rw [← e]; exact F
theorem srch_out {L : Addr} {h : Heap} {m m₀ : Str → Option Value} (hm : ∀ z, z ≠ x → m z = m₀ z) (F : Fr h₀ L h m) : Fr h₀ L h (fun y => if y = x then m y else m₀ y) := by
  have e : (fun y => if y = x then m y else m₀ y) = m := by
    funext y
    by_cases hy : y = x
    · rw [if_pos hy]
    · rw [if_neg hy]; exact (hm y hy).symm
  rw [e]; exact F

/-- a search upwards: P of every place that is passed -/
theorem rng_search {r : Addr} {a b : Int} {t u v : Tok} {m₀ : Str → Option Value} {news : List (Addr × Obj)} (P : Int → Prop)
    (hh : A.handled = none) (hr : IsRange s.heap r a b 1 t u v) (ha : -(2 ^ 62) ≤ a) (ha' : a < 2 ^ 62) (hb : -(2 ^ 62) ≤ b) (hb' : b < 2 ^ 62) (F : Fr h₀ env.locals s.heap m₀) (N : News h₀ env.locals s.heap news)
    (turn : ∀ (k : Int) t h tk own, a ≤ k → k < b → (∀ i, a ≤ i → i < k → P i) → OwnOff own (news.map (·.1)) → Fr h₀ env.locals h (fun y => if y = x then some (.int k t) else m₀ y) → News h₀ env.locals h (news ++ own) →
      wpAny (model prog w) A (execs body env) (InvPostN h₀ env.locals (Srch x m₀ news (P k)) own (news.map (·.1)) { s with heap := h, toks := tk } Q) E { s with heap := h, toks := tk })
    (done : ∀ (u : Str → Option Value) h tk, (∀ i, a ≤ i → i < b → P i) → Fr h₀ env.locals h (fun y => if y = x then u y else m₀ y) → News h₀ env.locals h news → Q .next { s with heap := h, toks := tk }) :
    wpAny (model prog w) A (pyIter (.ref r)) (fun it s₂ => LoopAtV prog w A h₀ env x body Q E it s₂) E s := by
  refine rng_up (fun i => Srch x m₀ news (∀ k, a ≤ k → k < a + i → P k)) hh hr ha ha' hb hb' F N ⟨rfl, fun _ _ => rfl, fun k _ _ => by omega⟩ ?_ ?_
  · rintro i t m₁ nx h tk own hi _ hoff ⟨rfl, hm, hP⟩ F₁ N₁
    refine wpAny_mono (turn (a + i) t h tk own (by omega) (by omega) hP hoff (srch_fr hm F₁) N₁) (fun f s₂ p => ?_) fun _ _ e => e
    have up : InvEndN h₀ env.locals (Srch x m₀ nx (P (a + i))) own (nx.map (·.1)) { s with heap := h, toks := tk } s₂ → InvEndN h₀ env.locals (Srch x m₀ nx (∀ k, a ≤ k → k < a + ((i + 1 : Nat) : Int) → P k)) own (nx.map (·.1)) { s with heap := h, toks := tk } s₂ := by
      rintro ⟨h', tk', m', news', nx', e, F', N', hn, ho, hadr, hS1, hS2, hS3⟩
      refine ⟨h', tk', m', news', nx', e, F', N', hn, ho, hadr, hS1, hS2, fun k h1 h2 => ?_⟩
      by_cases hk : k < a + i
      · exact hP k h1 hk
      · have : k = a + i := by omega
        rw [this]; exact hS3
    cases f with
    | ret v => exact p
    | brk => exact p
    | next => exact up p
    | cont => exact up p
  · rintro m₁ nx h tk ⟨rfl, hm, hP⟩ F₁ N₁
    exact done m₁ h tk (fun k h1 h2 => hP k h1 (by omega)) (srch_out hm F₁) N₁

/-- a search downwards -/
theorem rng_searchD {r : Addr} {a b : Int} {t u v : Tok} {m₀ : Str → Option Value} {news : List (Addr × Obj)} (P : Int → Prop)
    (hh : A.handled = none) (hr : IsRange s.heap r a b (-1) t u v) (ha : -(2 ^ 62) ≤ a) (ha' : a < 2 ^ 62) (hb : -(2 ^ 62) ≤ b) (hb' : b < 2 ^ 62) (F : Fr h₀ env.locals s.heap m₀) (N : News h₀ env.locals s.heap news)
    (turn : ∀ (k : Int) t h tk own, k ≤ a → b < k → (∀ i, i ≤ a → k < i → P i) → OwnOff own (news.map (·.1)) → Fr h₀ env.locals h (fun y => if y = x then some (.int k t) else m₀ y) → News h₀ env.locals h (news ++ own) →
      wpAny (model prog w) A (execs body env) (InvPostN h₀ env.locals (Srch x m₀ news (P k)) own (news.map (·.1)) { s with heap := h, toks := tk } Q) E { s with heap := h, toks := tk })
    (done : ∀ (u : Str → Option Value) h tk, (∀ i, i ≤ a → b < i → P i) → Fr h₀ env.locals h (fun y => if y = x then u y else m₀ y) → News h₀ env.locals h news → Q .next { s with heap := h, toks := tk }) :
    wpAny (model prog w) A (pyIter (.ref r)) (fun it s₂ => LoopAtV prog w A h₀ env x body Q E it s₂) E s := by
  refine rng_down (fun i => Srch x m₀ news (∀ k, k ≤ a → a - i < k → P k)) hh hr ha ha' hb hb' F N ⟨rfl, fun _ _ => rfl, fun k _ _ => by omega⟩ ?_ ?_
  · rintro i t m₁ nx h tk own hi _ hoff ⟨rfl, hm, hP⟩ F₁ N₁
    refine wpAny_mono (turn (a - i) t h tk own (by omega) (by omega) hP hoff (srch_fr hm F₁) N₁) (fun f s₂ p => ?_) fun _ _ e => e
    have up : InvEndN h₀ env.locals (Srch x m₀ nx (P (a - i))) own (nx.map (·.1)) { s with heap := h, toks := tk } s₂ → InvEndN h₀ env.locals (Srch x m₀ nx (∀ k, k ≤ a → a - ((i + 1 : Nat) : Int) < k → P k)) own (nx.map (·.1)) { s with heap := h, toks := tk } s₂ := by
      rintro ⟨h', tk', m', news', nx', e, F', N', hn, ho, hadr, hS1, hS2, hS3⟩
      refine ⟨h', tk', m', news', nx', e, F', N', hn, ho, hadr, hS1, hS2, fun k h1 h2 => ?_⟩
      by_cases hk : a - i < k
      · exact hP k h1 hk
      · have : k = a - i := by omega
        rw [this]; exact hS3
    cases f with
    | ret v => exact p
    | brk => exact p
    | next => exact up p
    | cont => exact up p
  · rintro m₁ nx h tk ⟨rfl, hm, hP⟩ F₁ N₁
    exact done m₁ h tk (fun k h1 h2 => hP k h1 (by omega)) (srch_out hm F₁) N₁

/-- the end of a searching turn -/
theorem srch_end {L : Addr} {m₀ m' : Str → Option Value} {news own news' : List (Addr × Obj)} {P : Prop} {s₁ : Shared} {h' : Heap} {tk : Nat} (F : Fr h₀ L h' m') (N : News h₀ L h' news') (hN : ∀ p ∈ news ++ own, p ∈ news') (hm : ∀ z, z ≠ x → m' z = m₀ z) (hP : P) :
    InvEndN h₀ L (Srch x m₀ news P) own (news.map (·.1)) s₁ { s₁ with heap := h', toks := tk } :=
  InvEndN.intro F N ⟨rfl, hm, hP⟩ rfl (fun p hp => hN p (List.mem_append.mpr (.inl hp))) (fun p hp => hN p (List.mem_append.mpr (.inr hp)))

/-- each name holds its value -/
noncomputable def AllB (m : Str → Option Value) : List (Str × Value) → Prop
  | [] => True
  | p :: r => m p.1 = some p.2 ∧ AllB m r
/-- off the names -/
noncomputable def OffB (z : Str) (C : Prop) : List (Str × Value) → Prop
  | [] => C
  | p :: r => z ≠ p.1 → OffB z C r
noncomputable def AllIn (news : List (Addr × Obj)) : List (Addr × Obj) → Prop
  | [] => True
  | p :: r => p ∈ news ∧ AllIn news r
theorem AllIn.all {news : List (Addr × Obj)} : ∀ {l : List (Addr × Obj)}, AllIn news l → ∀ p ∈ l, p ∈ news
  | [], _, _, hp => nomatch hp
  | _ :: _, ⟨h, r⟩, p, hp => by
    rcases List.mem_cons.mp hp with rfl | hp
    · exact h
    · exact r.all p hp
/-- names that are forgotten -/
noncomputable def forgB (u m : Str → Option Value) : List Str → Str → Option Value
  | [] => m
  | x :: r => fun z => if z = x then u z else forgB u m r z
noncomputable def OffN (z : Str) (C : Prop) : List Str → Prop
  | [] => C
  | x :: r => z ≠ x → OffN z C r
theorem offN_eq {u m : Str → Option Value} {z : Str} : ∀ {st : List Str}, OffN z (u z = m z) st → forgB u m st z = u z
  | [], h => Eq.symm h
  | x :: r, h => by
    show (if z = x then u z else forgB u m r z) = u z
    by_cases e : z = x
    · rw [if_pos e]
    · rw [if_neg e]; exact offN_eq (h e)
theorem offN_self {C : Prop} {z : Str} (h : C) : ∀ st : List Str, OffN z C st
  | [] => h
  | _ :: r => fun _ => offN_self h r
theorem offB_self {C : Prop} {z : Str} (h : C) : ∀ ps : List (Str × Value), OffB z C ps
  | [] => h
  | _ :: r => fun _ => offB_self h r
theorem kst_back {rest m₁ : Str → Option Value} {z : Str} : ∀ {ps : List (Str × Value)}, AllB m₁ ps → OffB z (rest z = m₁ z) ps → kstB rest ps z = m₁ z
  | [], _, h => h
  | p :: r, ⟨h1, hr⟩, h => by
    show (if z = p.1 then some p.2 else kstB rest r z) = m₁ z
    by_cases e : z = p.1
    · rw [if_pos e, e]; exact h1.symm
    · rw [if_neg e]; exact kst_back hr (h e)
theorem offB_mono {C D : Prop} {z : Str} (h : C → D) : ∀ {ps : List (Str × Value)}, OffB z C ps → OffB z D ps
  | [], x => h x
  | _ :: _, x => fun e => offB_mono h (x e)
theorem allB_eq {m m₁ : Str → Option Value} {st : List Str} {ps : List (Str × Value)} (h1 : AllB m₁ ps) (h2 : ∀ z, OffB z (OffN z (m₁ z = m z) st) ps) : m₁ = kstB (forgB m₁ m st) ps :=
  funext fun z => (kst_back h1 (offB_mono offN_eq (h2 z))).symm

/-- the end of a turn of a while -/
noncomputable def WEnd {σ : Type} (h₀ : Heap) (L : Addr) (m : Str → Option Value) (st : List Str) (Led : σ → List (Addr × Obj)) (ps : σ → List (Str × Value)) (P : σ → Prop) (μ : σ → Nat) (s : Shared) (n : Nat) (s₃ : Shared) : Prop :=
  ∃ h' tk m₂ news₂ c', s₃ = { s with heap := h', toks := tk } ∧ Fr h₀ L h' m₂ ∧ News h₀ L h' news₂ ∧ AllIn news₂ (Led c') ∧ AllB m₂ (ps c') ∧ (∀ z, OffB z (OffN z (m₂ z = m z) st) (ps c')) ∧ P c' ∧ μ c' < n
noncomputable def WPost {σ : Type} (h₀ : Heap) (L : Addr) (m : Str → Option Value) (st : List Str) (Led : σ → List (Addr × Obj)) (ps : σ → List (Str × Value)) (P : σ → Prop) (μ : σ → Nat) (s : Shared) (Q : Flow → Shared → Prop) (n : Nat) (f : Flow) (s₃ : Shared) : Prop :=
  match f with
  | .brk => Q .next s₃
  | .ret v => Q (.ret v) s₃
  | _ => WEnd h₀ L m st Led ps P μ s n s₃
theorem WEnd.intro {σ : Type} {L : Addr} {m m₂ : Str → Option Value} {st : List Str} {Led : σ → List (Addr × Obj)} {ps : σ → List (Str × Value)} {P : σ → Prop} {μ : σ → Nat} {s : Shared} {n : Nat} {h' : Heap} {tk : Nat} {news₂ : List (Addr × Obj)} (c' : σ)
    (F : Fr h₀ L h' m₂) (N : News h₀ L h' news₂) (hn : AllIn news₂ (Led c')) (hb : AllB m₂ (ps c')) (ho : ∀ z, OffB z (OffN z (m₂ z = m z) st) (ps c')) (hp : P c') (hm : μ c' < n) : WEnd h₀ L m st Led ps P μ s n { s with heap := h', toks := tk } :=
  ⟨h', tk, m₂, news₂, c', rfl, F, N, hn, hb, ho, hp, hm⟩

/-- a while over a state of my own; the names of st are forgotten -/
theorem while_st {σ : Type} {L : Addr} {test : Expr} {pos : Pos} {m : Str → Option Value} {news : List (Addr × Obj)} (st : List Str) (Led : σ → List (Addr × Obj)) (ps : σ → List (Str × Value)) (P : σ → Prop) (μ : σ → Nat) (c₀ : σ)
    (F : Fr h₀ L s.heap m) (N : News h₀ L s.heap news) (hn : AllIn news (Led c₀)) (hb : AllB m (ps c₀)) (hp : P c₀)
    (turn : ∀ c (u : Str → Option Value) h₁ tk₁, P c → Fr h₀ L h₁ (kstB (forgB u m st) (ps c)) → News h₀ L h₁ (Led c) →
      wpAny (model prog w) A (isTrue test env (eval test env)) (fun b s₂ =>
        if b = true then wpAny (model prog w) A (execs body env) (WPost h₀ L m st Led ps P μ s Q (μ c)) E s₂ else Q .next s₂) E { s with heap := h₁, toks := tk₁ })
    (hE : PassesOwn (model prog w) A env E := by passes_own) :
    wpAny (model prog w) A (exec (.While test body [] pos) env) Q E s := by
  let J : Nat → (Str → Option Value) → List (Addr × Obj) → Prop := fun n m₁ nx => ∃ (c : σ) (u : Str → Option Value), n = μ c ∧ nx = Led c ∧ m₁ = kstB (forgB u m st) (ps c) ∧ P c
  refine While_inv2 J (n₀ := μ c₀) (m := m) (news := Led c₀) F (fun p hp => N p (hn.all p hp)) ⟨c₀, m, rfl, rfl, allB_eq hb (fun z => offB_self (offN_self rfl st) _), hp⟩ ?_ hE
  rintro n m₁ nx h₁ tk₁ F₁ N₁ ⟨c, u, rfl, rfl, rfl, hc⟩
  refine wpAny_mono (turn c u h₁ tk₁ hc F₁ N₁) (fun b s₂ h₂ => ?_) fun _ _ e => e
  cases b with
  | false => exact h₂
  | true =>
    simp only [if_true] at h₂ ⊢
    refine wpAny_mono h₂ (fun f s₃ h₃ => ?_) fun _ _ e => e
    have up : WEnd h₀ L m st Led ps P μ s (μ c) s₃ → ∃ h' tk m₂ news₂ n', s₃ = { s with heap := h', toks := tk } ∧ Fr h₀ L h' m₂ ∧ News h₀ L h' news₂ ∧ n' < μ c ∧ J n' m₂ news₂ := by
      rintro ⟨h', tk, m₂, news₂, c', e, F₂, N₂, hn₂, hb₂, ho₂, hp₂, hm₂⟩
      exact ⟨h', tk, m₂, Led c', μ c', e, F₂, fun p hp => N₂ p (hn₂.all p hp), hm₂, c', m₂, rfl, rfl, allB_eq hb₂ ho₂, hp₂⟩
    cases f with
    | next => obtain ⟨h', tk, m₂, news₂, n', e, q⟩ := up h₃; exact ⟨h', tk, m₂, news₂, n', e, q⟩
    | cont => obtain ⟨h', tk, m₂, news₂, n', e, q⟩ := up h₃; exact ⟨h', tk, m₂, news₂, n', e, q⟩
    | brk => exact h₃
    | ret v => exact h₃

/-- a loop over a range over a state of my own; P speaks of the turns done; the names of st are forgotten -/
theorem rng_st {σ : Type} {r : Addr} {a b : Int} {t u v : Tok} {m₀ : Str → Option Value} {news : List (Addr × Obj)} (st : List Str) (Led : σ → List (Addr × Obj)) (ps : σ → List (Str × Value)) (P : Nat → σ → Prop) (c₀ : σ)
    (hh : A.handled = none) (hr : IsRange s.heap r a b 1 t u v) (ha : -(2 ^ 62) ≤ a) (ha' : a < 2 ^ 62) (hb : -(2 ^ 62) ≤ b) (hb' : b < 2 ^ 62) (F : Fr h₀ env.locals s.heap m₀) (N : News h₀ env.locals s.heap news) (hn : AllIn news (Led c₀)) (hbd : AllB m₀ (ps c₀)) (hp : P 0 c₀) (hadr : ∀ c c', (Led c).map (·.1) = (Led c').map (·.1))
    (turn : ∀ (i : Nat) c (u : Str → Option Value) t h tk own, (i : Int) < b - a → OwnOff own ((Led c).map (·.1)) → P i c → Fr h₀ env.locals h (fun y => if y = x then some (.int (a + i) t) else kstB (forgB u m₀ (x :: st)) (ps c) y) → News h₀ env.locals h (Led c ++ own) →
      wpAny (model prog w) A (execs body env) (InvPostN h₀ env.locals (fun m' nx => ∃ c', nx = Led c' ∧ AllB m' (ps c') ∧ (∀ z, OffB z (OffN z (m' z = m₀ z) (x :: st)) (ps c')) ∧ P (i + 1) c') own ((Led c).map (·.1)) { s with heap := h, toks := tk } Q) E { s with heap := h, toks := tk })
    (done : ∀ c (u : Str → Option Value) h tk, P (b - a).toNat c → Fr h₀ env.locals h (kstB (forgB u m₀ (x :: st)) (ps c)) → News h₀ env.locals h (Led c) → Q .next { s with heap := h, toks := tk }) :
    wpAny (model prog w) A (pyIter (.ref r)) (fun it s₂ => LoopAtV prog w A h₀ env x body Q E it s₂) E s := by
  refine rng_up (fun i m' nx => ∃ (c : σ) (u : Str → Option Value), nx = Led c ∧ m' = kstB (forgB u m₀ (x :: st)) (ps c) ∧ P i c) (news := Led c₀) hh hr ha ha' hb hb' F (fun p hp => N p (hn.all p hp)) ⟨c₀, m₀, rfl, allB_eq hbd (fun z => offB_self (offN_self rfl _) _), hp⟩ ?_ ?_
  · rintro i t m₁ nx h tk own hi _ hoff ⟨c, u, rfl, rfl, hP⟩ F₁ N₁
    rw [hadr c₀ c] at hoff ⊢
    refine wpAny_mono (turn i c u t h tk own hi hoff hP F₁ N₁) (fun f s₂ p => ?_) fun _ _ e => e
    have up : InvEndN h₀ env.locals (fun m' nx => ∃ c', nx = Led c' ∧ AllB m' (ps c') ∧ (∀ z, OffB z (OffN z (m' z = m₀ z) (x :: st)) (ps c')) ∧ P (i + 1) c') own ((Led c).map (·.1)) { s with heap := h, toks := tk } s₂ →
        InvEndN h₀ env.locals (fun m' nx => ∃ (c : σ) (u : Str → Option Value), nx = Led c ∧ m' = kstB (forgB u m₀ (x :: st)) (ps c) ∧ P (i + 1) c) own ((Led c).map (·.1)) { s with heap := h, toks := tk } s₂ := by
      rintro ⟨h', tk', m', news', nx', e, F', N', hn, ho, hadr', c', hS1, hS2, hS3, hS4⟩
      exact ⟨h', tk', m', news', nx', e, F', N', hn, ho, hadr', c', m', hS1, allB_eq hS2 hS3, hS4⟩
    cases f with
    | ret v => exact p
    | brk => exact p
    | next => exact up p
    | cont => exact up p
  · rintro m₁ nx h tk ⟨c, u, rfl, rfl, hP⟩ F₁ N₁
    exact done c u h tk hP F₁ N₁
end

section
variable {prog : Program} {w : World} {A : Around} {s : Shared} {g : Heap} {K : Frag} {p : Program} {loose : List Str} {mean : ExcName → Option Value} {mg mb : Str → Option Value} {news : List (Addr × Obj)}
  {R : Result → Shared → Prop} {name qual : Str} {params : Arguments} {body : List Stmt} {scope : Scope} {dV kV doc pm cdv ct oc : Value} {an od : Option Addr} {osl : Array (Option Value)} {f : Addr} {args : Args} {binds : List (Str × Value)}
/-- a def is entered over a ground g; news stands beside it -/
theorem enterG (X : K.In g) (T : Top p loose mean mg mb g) (hg : ∀ b o, g.get? b = some o → s.heap.get? b = some o) (hz : g.objs.size ≤ s.heap.objs.size) (hn : ∀ q ∈ news, s.heap.get? q.1 = some q.2 ∧ g.get? q.1 = none)
    (ho : K.lookup f = some ⟨oc, od, .func (fnOf name qual params body scope dV kV doc pm an cdv ct), osl⟩) (hcd : codeIn K cdv qual = true) (hroom : A.depth < recursionLimit)
    (hbind : BindsTo s (fnOf name qual params body scope dV kV doc pm an cdv ct) args binds) (hloc : ∀ y ∈ binds, scope.names.lookup y.1 = some .local)
    (h : ∀ L' h₁, Fr g L' h₁ (fun y => binds.reverse.lookup y) → News g L' h₁ news → (∀ q ∈ news, q.1 < L') →
      wpAny (model prog w) (A.deeper (envOf qual scope L' f cdv)) (execs body (envOf qual scope L' f cdv))
        (fun fl s' => R (.ok (.ret (match fl with | .ret v => v | _ => .none))) s')
        (fun _ _ => False)
        { s with heap := h₁, toks := s.toks + binds.length })
    (hco : scope.isCoroutine = false := by rfl) (hgen : scope.isGenerator = false := by rfl) (hk : scope.kind = .function := by rfl)
    (hcell : ∀ x ∈ scope.names, x.2 ≠ .cell := by decide) : codeAny (model prog w) A (.call (.ref f) args) R s := by
  have Xs := X.keeps hg
  refine codeAny_call_def (fd := fnOf name qual params body scope dV kV doc pm an cdv ct) (body := body) (binds := binds) hroom (Xs _ _ ho) rfl (T.nolimit.keeps hg) (codeRec_of Xs hcd) rfl hbind hcell hloc (fun h₁ hns hk₁ => ?_) hco hgen hk
  exact wpAny_mono (h s.heap.objs.size h₁ ⟨hns, fun b o e => hk₁ b o (hg b o e), hz⟩ (fun q hq => ⟨hk₁ _ _ (hn q hq).1, Nat.ne_of_lt (Heap.lt_size (hn q hq).1), (hn q hq).2⟩) (fun q hq => Heap.lt_size (hn q hq).1)) (fun _ _ x => x) (fun _ _ x => x.elim)
/-- the same, where locals are captured -/
theorem enterGC (X : K.In g) (T : Top p loose mean mg mb g) (hg : ∀ b o, g.get? b = some o → s.heap.get? b = some o) (hz : g.objs.size ≤ s.heap.objs.size) (hn : ∀ q ∈ news, s.heap.get? q.1 = some q.2 ∧ g.get? q.1 = none)
    (ho : K.lookup f = some ⟨oc, od, .func (fnOf name qual params body scope dV kV doc pm an cdv ct), osl⟩) (hcd : codeIn K cdv qual = true) (hroom : A.depth < recursionLimit)
    (hbind : BindsTo s (fnOf name qual params body scope dV kV doc pm an cdv ct) args binds) (hkind : (binds.all fun y => scope.names.lookup y.1 == some .local || scope.names.lookup y.1 == some .cell) = true)
    (hnd : ((cellsFrom 0 scope.names []).map (·.1)).Nodup)
    (h : ∀ L' h₁ tk cells, Fr g L' h₁ (bindL (envOfC qual scope L' f cdv).kindOf binds fun _ => none) → News g L' h₁ (cells ++ news) →
      CellsAre (bindC (envOfC qual scope L' f cdv).kindOf binds fun _ => none) (cellsFrom (L' + 1) scope.names []) cells → (∀ q ∈ news, q.1 < L') →
      wpAny (model prog w) (A.deeper (envOfC qual scope L' f cdv)) (execs body (envOfC qual scope L' f cdv))
        (fun fl s' => R (.ok (.ret (match fl with | .ret v => v | _ => .none))) s')
        (fun _ _ => False)
        { s with heap := h₁, toks := tk })
    (hco : scope.isCoroutine = false := by rfl) (hgen : scope.isGenerator = false := by rfl) (hk : scope.kind = .function := by rfl) : codeAny (model prog w) A (.call (.ref f) args) R s := by
  have Xs := X.keeps hg
  refine codeAny_call_function hroom (Xs _ _ ho) rfl hco hgen rfl (codeRec_of Xs hcd) (hbind _ _ _ _ ?_)
  refine wpAny_newFunctionEnv_cells hk (kindsX hkind _) fun env' he s' x => ?_
  subst he
  refine ⟨(T.nolimit.keeps hg).keeps x.toInCall.keep, codeAny_func ?_⟩
  obtain ⟨h₁, tk, rfl, _⟩ := x.done
  have hk₁ := x.toInCall.keep
  obtain ⟨cells, NC, Y⟩ := Cl.news (h₀ := s.heap) (Nat.le_refl _) fun n c hm => ⟨x.cell n c (lookup_of_mem_nodup (cellsFrom_names scope.names 0 (s.heap.objs.size + 1) [] [] rfl ▸ hnd) hm), x.above n c hm⟩
  refine wpAny_mono (h s.heap.objs.size h₁ tk cells ⟨x.toInCall.ns, fun b o e => hk₁ b o (hg b o e), hz⟩ (fun q hq => ?_) Y (fun q hq => Heap.lt_size (hn q hq).1)) (fun _ _ x => x) fun _ _ y => y.elim
  rcases List.mem_append.mp hq with hq | hq
  · refine ⟨(NC q hq).1, (NC q hq).2.1, ?_⟩
    cases e : g.get? q.1 with
    | none => rfl
    | some o => have := hg _ _ e; rw [(NC q hq).2.2] at this; cases this
  · exact ⟨hk₁ _ _ (hn q hq).1, Nat.ne_of_lt (Heap.lt_size (hn q hq).1), (hn q hq).2⟩
end

/-- a call that turns one object, b, and nothing else that stood on the ground g -/
noncomputable def BoxC (w : World) (mean : ExcName → Option Value) (mg mb : Str → Option Value) (f : Addr) (dd uu : Nat) (b : Addr) (ob : Obj) (pre : Heap → Prop) (vs : List Value) (post : Heap → Obj → Heap → Value → Prop) : Prop :=
  ∀ (dp un : Nat) (gd : Option (List Code)) (fr : Option (List Env)) (s : Shared) (g : Heap) (Q E : Value → Shared → Prop),
    (KK w.params).In g → Top qq (looseW qq lo) mean mg mb g → (∀ b o, g.get? b = some o → s.heap.get? b = some o) → g.objs.size ≤ s.heap.objs.size → (s.heap.get? b = some ob ∧ g.get? b = none) → pre g → dp + dd < recursionLimit → un + uu < cLine →
    (∀ r h' tk' ob', (∀ b o, g.get? b = some o → h'.get? b = some o) → h'.get? b = some ob' → post g ob' h' r → Q r { s with heap := h', toks := tk' }) →
    wpAny (model Challenge.rw_nt0344_01.row.prog w) (ar dp un gd fr) (call (.ref f) vs) Q E s

theorem BoxC.use {w : World} {mean : ExcName → Option Value} {mg mb : Str → Option Value} {f : Addr} {dd uu : Nat} {b : Addr} {ob : Obj} {pre : Heap → Prop} {vs : List Value} {post : Heap → Obj → Heap → Value → Prop}
    (C : BoxC w mean mg mb f dd uu b ob pre vs post) {A : Around} {s : Shared} {Q E : Value → Shared → Prop} {base : Heap} {L : Addr} {m : Str → Option Value} {news : List (Addr × Obj)}
    (F : Fr base L s.heap m) (N : News base L s.heap ((b, ob) :: news)) (X : (KK w.params).In base) (T : Top qq (looseW qq lo) mean mg mb base) (hh : A.handled = none) (hoff : ∀ p ∈ news, p.1 ≠ b) (hp : ∀ g : Heap, (∀ x o, x ≠ b → s.heap.get? x = some o → g.get? x = some o) → News base L g news → Fr base L g m → pre g)
    (hd : A.depth + dd < recursionLimit) (hu : A.units + uu < cLine)
    (ret : ∀ g r h' tk' ob', (∀ x o, x ≠ b → s.heap.get? x = some o → g.get? x = some o) → (∀ x o, g.get? x = some o → s.heap.get? x = some o) → g.get? b = none → Fr base L h' m → News base L h' ((b, ob') :: news) → post g ob' h' r → Q r { s with heap := h', toks := tk' }) :
    wpAny (model Challenge.rw_nt0344_01.row.prog w) A (call (.ref f) vs) Q E s := by
  obtain ⟨ha, dp, fr, gd, un⟩ := A
  cases hh
  have hb := N (b, ob) (.head _)
  have up : ∀ x o, x ≠ b → s.heap.get? x = some o → (s.heap.hide b).get? x = some o := fun x o hx e => (Heap.hide_ne s.heap hx).trans e
  have dn : ∀ x o, (s.heap.hide b).get? x = some o → s.heap.get? x = some o := fun x o e => Heap.of_hide e
  have hgn : (s.heap.hide b).get? b = none := by
    cases q : (s.heap.hide b).get? b with
    | none => rfl
    | some o => have := dn _ _ q; rw [Heap.hide_self] at q; cases q
  have Fg : Fr base L (s.heap.hide b) m := by
    obtain ⟨oL, es, ep, hL, r⟩ := F.ns
    refine ⟨⟨oL, es, ep, up _ _ (fun e => hb.2.1 e.symm) hL, r⟩, fun x o e => up x o (fun q => ?_) (F.keep x o e), F.above⟩
    rw [q, hb.2.2] at e; cases e
  have Ng : News base L (s.heap.hide b) news := fun p hp => ⟨up _ _ (hoff p hp) (N p (.tail _ hp)).1, (N p (.tail _ hp)).2⟩
  refine C dp un gd fr s (s.heap.hide b) Q E (X.keeps Fg.keep) (T.keeps Fg.keep) dn (Nat.le_of_eq (Heap.hide_size _ _)) ⟨hb.1, hgn⟩ (hp _ up Ng Fg) hd hu fun r h' tk' ob' st hob hr => ret (s.heap.hide b) r h' tk' ob' up dn hgn ?_ ?_ hr
  · obtain ⟨oL, es, ep, hL, r⟩ := Fg.ns
    exact ⟨⟨oL, es, ep, st _ _ hL, r⟩, fun x o e => st x o (Fg.keep x o e), Fg.above⟩
  · intro p hp
    rcases List.mem_cons.mp hp with rfl | hp
    · exact ⟨hob, hb.2⟩
    · exact ⟨st _ _ (Ng p hp).1, (Ng p hp).2⟩

/-- a call that hands back a new list and changes nothing that stood -/
noncomputable def PureL (w : World) (mean : ExcName → Option Value) (mg mb : Str → Option Value) (f : Addr) (dd uu : Nat) (pre : Heap → Prop) (vs : List Value) (G : List Value → Prop) : Prop :=
  ∀ (dp un : Nat) (gd : Option (List Code)) (fr : Option (List Env)) (s : Shared) (Q E : Value → Shared → Prop),
    (KK w.params).In s.heap → Top qq (looseW qq lo) mean mg mb s.heap → pre s.heap → dp + dd < recursionLimit → un + uu < cLine →
    (∀ D ys n h' tk', (∀ b o, s.heap.get? b = some o → h'.get? b = some o) → s.heap.get? D = none → h'.get? D = some (listOf ys.toArray n) → G ys → Q (.ref D) { s with heap := h', toks := tk' }) →
    wpAny (model Challenge.rw_nt0344_01.row.prog w) (ar dp un gd fr) (call (.ref f) vs) Q E s

theorem PureL.use {w : World} {mean : ExcName → Option Value} {mg mb : Str → Option Value} {f : Addr} {dd uu : Nat} {pre : Heap → Prop} {vs : List Value} {G : List Value → Prop}
    (C : PureL w mean mg mb f dd uu pre vs G) {A : Around} {s : Shared} {Q E : Value → Shared → Prop} {base : Heap} {L : Addr} {m : Str → Option Value} {news : List (Addr × Obj)}
    (F : Fr base L s.heap m) (N : News base L s.heap news) (X : (KK w.params).In base) (T : Top qq (looseW qq lo) mean mg mb base) (hh : A.handled = none) (hp : pre s.heap) (hd : A.depth + dd < recursionLimit) (hu : A.units + uu < cLine)
    (ret : ∀ D ys n h' tk', Fr base L h' m → News base L h' ((D, listOf ys.toArray n) :: news) → (∀ p ∈ news, p.1 ≠ D) → G ys → Q (.ref D) { s with heap := h', toks := tk' }) :
    wpAny (model Challenge.rw_nt0344_01.row.prog w) A (call (.ref f) vs) Q E s := by
  obtain ⟨ha, dp, fr, gd, un⟩ := A
  cases hh
  refine C dp un gd fr s Q E (X.keeps F.keep) (T.keeps F.keep) hp hd hu fun D ys n h' tk' st hD hD' hr => ret D ys n h' tk' ?_ ?_ ?_ hr
  · obtain ⟨oL, es, ep, hL, r⟩ := F.ns
    exact ⟨⟨oL, es, ep, st _ _ hL, r⟩, fun b o e => st b o (F.keep b o e), F.above⟩
  · intro p hp
    rcases List.mem_cons.mp hp with rfl | hp
    · refine ⟨hD', ?_, ?_⟩
      · intro e
        obtain ⟨oL, es, ep, hL, r⟩ := F.ns
        rw [← e, hD] at hL; cases hL
      · cases q : base.get? D with
        | none => rfl
        | some o => have := F.keep _ _ q; rw [hD] at this; cases this
    · exact ⟨st _ _ (N p hp).1, (N p hp).2⟩
  · intro p hp e
    have := (N p hp).1
    rw [e, hD] at this; cases this
end Mine
end
-- part Comps
section
set_option maxRecDepth 100000
open PySem PySem.W PySem.Calls PyProof.Rows PyProof.V PySem.Spec
set_option Elab.async false
namespace Mine
section
variable {prog : Program} {w : World} {A : Around} {h₀ : Heap} {L : Addr} {m : Str → Option Value} {env : Env} {ct elt : Expr} {x : Str} {scope : Scope} {cl : List (Str × Addr)} {s : Shared} {S : List (Addr × Obj) → Prop} {P : Nat → Value → Prop} {Fin : List Value → List (Addr × Obj) → Prop}

/-- a comprehension without a test; J speaks of the items made, c of what the turns change -/
theorem cs_rest {σ : Type} {n : Nat} (Led : σ → List (Addr × Obj)) (J : Nat → List Value → σ → Prop) (c₀ : σ) (hj : J 0 [] c₀)
    (turn : ∀ i v I oI C oC D m₂ ys c h tk (E' : Value → Shared → Prop), i < n → P i v → J i ys c → LCg.NsObj oC m₂ → m₂ x = some v → Fr h₀ L h m → News h₀ L h ((I, oI) :: (C, oC) :: (D, LCg.lst ys) :: Led c) → LCg.Off3 I C D (Led c) → ((@Ne Nat I C) ∧ (@Ne Nat I D) ∧ (@Ne Nat C D)) →
      wpAny (model prog w) A (eval elt (compEnvC scope cl C env)) (LCg.CompEnd h₀ L m { s with heap := h, toks := tk } I oI C oC D (LCg.lst ys) S (fun y news' => ∃ c', news' = Led c' ∧ J (i + 1) (ys ++ [y]) c')) E' { s with heap := h, toks := tk })
    (fin : ∀ ys c, J n ys c → Fin ys (Led c)) : LCg.CompRest prog w A h₀ L m env elt x scope cl s S P Fin n 0 [] (Led c₀) := by
  have key : ∀ (j i : Nat) (ys : List Value) (c : σ), i + j = n → J i ys c → LCg.CompRest prog w A h₀ L m env elt x scope cl s S P Fin j i ys (Led c) := by
    intro j
    induction j with
    | zero =>
      intro i ys c hi hy
      obtain rfl : i = n := by omega
      exact LCg.CompRest.zero (fin ys c hy)
    | succ j ih =>
      intro i ys c hi hy
      refine LCg.CompRest.succ ?_
      intro v I oI C oC D m₂ h tk E' hv hC hx F N off ne
      refine wpAny_mono (turn i v I oI C oC D m₂ ys c h tk E' (by omega) hv hy hC hx F N off ne) (fun y s₂ hq => ?_) fun _ _ e => e
      obtain ⟨h', tk', nw, e, F', N', off', hS, c', rfl, hJ⟩ := hq
      exact ⟨h', tk', Led c', e, F', N', off', hS, ih (i + 1) _ c' (by omega) hJ⟩
  exact key n 0 [] c₀ (by omega) hj

/-- a comprehension with one test -/
theorem ct_rest {σ : Type} {n : Nat} (Led : σ → List (Addr × Obj)) (J : Nat → List Value → σ → Prop) (c₀ : σ) (hj : J 0 [] c₀)
    (turn : ∀ i v I oI C oC D m₂ ys c h tk (E' : Value → Shared → Prop), i < n → P i v → J i ys c → LCg.NsObj oC m₂ → m₂ x = some v → Fr h₀ L h m → News h₀ L h ((I, oI) :: (C, oC) :: (D, LCg.lst ys) :: Led c) → LCg.Off3 I C D (Led c) → ((@Ne Nat I C) ∧ (@Ne Nat I D) ∧ (@Ne Nat C D)) →
      wpAny (model prog w) A (isTrue ct (compEnvC scope cl C env) (eval ct (compEnvC scope cl C env))) (fun b s' => if b = true then wpAny (model prog w) A (eval elt (compEnvC scope cl C env)) (LCg.CompEnd h₀ L m { s with heap := h, toks := tk } I oI C oC D (LCg.lst ys) S (fun y news' => ∃ c', news' = Led c' ∧ J (i + 1) (ys ++ [y]) c')) E' s'
        else LCg.CompEnd h₀ L m { s with heap := h, toks := tk } I oI C oC D (LCg.lst ys) S (fun _ news' => ∃ c', news' = Led c' ∧ J (i + 1) ys c') Value.none s') E' { s with heap := h, toks := tk })
    (fin : ∀ ys c, J n ys c → Fin ys (Led c)) : LCt.CompRestT prog w A h₀ L m env ct elt x scope cl s S P Fin n 0 [] (Led c₀) := by
  have key : ∀ (j i : Nat) (ys : List Value) (c : σ), i + j = n → J i ys c → LCt.CompRestT prog w A h₀ L m env ct elt x scope cl s S P Fin j i ys (Led c) := by
    intro j
    induction j with
    | zero =>
      intro i ys c hi hy
      obtain rfl : i = n := by omega
      exact LCt.CompRestT.zero (fin ys c hy)
    | succ j ih =>
      intro i ys c hi hy
      refine LCt.CompRestT.succ ?_
      intro v I oI C oC D m₂ h tk E' hv hC hx F N off ne
      refine wpAny_mono (turn i v I oI C oC D m₂ ys c h tk E' (by omega) hv hy hC hx F N off ne) (fun b s₂ hq => ?_) fun _ _ e => e
      cases b with
      | true =>
        simp only [if_true] at hq ⊢
        refine wpAny_mono hq (fun y s₃ hr => ?_) fun _ _ e => e
        obtain ⟨h', tk', nw, e, F', N', off', hS, c', rfl, hJ⟩ := hr
        exact ⟨h', tk', Led c', e, F', N', off', hS, ih (i + 1) _ c' (by omega) hJ⟩
      | false =>
        simp only [Bool.false_eq_true, if_false] at hq ⊢
        obtain ⟨h', tk', nw, e, F', N', off', hS, c', rfl, hJ⟩ := hq
        exact ⟨h', tk', Led c', e, F', N', off', hS, ih (i + 1) _ c' (by omega) hJ⟩
  exact key n 0 [] c₀ (by omega) hj

/-- the ints of a filtered row, in the order of the row -/
theorem ints_snoc {ys : List Value} {l : List Int} {k : Int} {t : Tok} (h : IntsAre ys l) : IntsAre (ys ++ [.int k t]) (l ++ [k]) := IntsAre.append h (.cons k t .nil)

/-- over a range, ints, a test: the items are a filter -/
theorem ct_range {n : Nat} {a : Int} {news : List (Addr × Obj)} (p : Int → Bool) (g : Int → Int)
    (turn : ∀ (k : Int) t I oI C oC D m₂ ys h tk (E' : Value → Shared → Prop) (R : Bool → Int → List (Addr × Obj) → Prop), a ≤ k → k < a + (n : Int) → LCg.NsObj oC m₂ → m₂ x = some (.int k t) → Fr h₀ L h m → News h₀ L h ((I, oI) :: (C, oC) :: (D, LCg.lst ys) :: news) → LCg.Off3 I C D news → ((@Ne Nat I C) ∧ (@Ne Nat I D) ∧ (@Ne Nat C D)) →
      (p k = true → R true (g k) news) → (p k = false → R false 0 news) →
      wpAny (model prog w) A (isTrue ct (compEnvC scope cl C env) (eval ct (compEnvC scope cl C env))) (fun b s' => if b = true then wpAny (model prog w) A (eval elt (compEnvC scope cl C env)) (LCg.CompEnd h₀ L m { s with heap := h, toks := tk } I oI C oC D (LCg.lst ys) S (fun y news' => ∃ r t', y = .int r t' ∧ R true r news')) E' s'
        else LCg.CompEnd h₀ L m { s with heap := h, toks := tk } I oI C oC D (LCg.lst ys) S (fun _ news' => R false 0 news') Value.none s') E' { s with heap := h, toks := tk })
    (fin : ∀ ys, IntsAre ys (((rangeKs a n).filter p).map g) → Fin ys news) : LCt.CompRestT prog w A h₀ L m env ct elt x scope cl s S (fun i v => ∃ t, v = .int (a + (i : Int)) t) Fin n 0 [] news := by
  refine ct_rest (σ := Unit) (fun _ => news) (fun i ys _ => IntsAre ys ((((rangeKs a n).take i).filter p).map g)) () (by simp; exact .nil) ?_ ?_
  · rintro i v I oI C oC D m₂ ys c h tk E' hi ⟨t, rfl⟩ hJ hC hx F N off ne
    have hk' : (rangeKs a n)[i]? = some (a + (i : Int)) := by simp [rangeKs, hi]
    have hs : (rangeKs a n).take (i + 1) = (rangeKs a n).take i ++ [a + (i : Int)] := by simp [List.take_add_one, hk']
    refine wpAny_mono (turn (a + i) t I oI C oC D m₂ ys h tk E' (fun b r nw => nw = news ∧ p (a + i) = b ∧ (b = true → r = g (a + i))) (by omega) (by omega) hC hx F N off ne (fun q => ⟨rfl, q, fun _ => rfl⟩) (fun q => ⟨rfl, q, fun z => by cases z⟩)) (fun b s₂ hq => ?_) fun _ _ e => e
    cases b with
    | true =>
      simp only [if_true] at hq ⊢
      refine wpAny_mono hq (fun y s₃ hr => ?_) fun _ _ e => e
      obtain ⟨h', tk', nw, e, F', N', off', hS, r, t', hy, hn, hp, hg⟩ := hr
      subst hn
      refine ⟨h', tk', _, e, F', N', off', hS, (), rfl, ?_⟩
      rw [hs, List.filter_append, hy, hg trivial]
      simp only [List.filter_cons, hp, if_true, List.filter_nil, List.map_append, List.map_cons, List.map_nil]
      exact ints_snoc hJ
    | false =>
      simp only [Bool.false_eq_true, if_false] at hq ⊢
      obtain ⟨h', tk', nw, e, F', N', off', hS, hn, hp, _⟩ := hq
      subst hn
      refine ⟨h', tk', _, e, F', N', off', hS, (), rfl, ?_⟩
      rw [hs, List.filter_append]
      simp only [List.filter_cons, hp, Bool.false_eq_true, if_false, List.filter_nil, List.append_nil]
      exact hJ
  · intro ys c hJ
    refine fin ys ?_
    rw [List.take_of_length_le (Nat.le_of_eq (rangeKs_length _ _))] at hJ
    exact hJ

/-- over a list of ints, a test -/
theorem ct_list {vs : List Value} {ns : List Int} {news : List (Addr × Obj)} (p : Int → Bool) (g : Int → Int) (hi : IntsAre vs ns)
    (turn : ∀ (k : Int) t I oI C oC D m₂ ys h tk (E' : Value → Shared → Prop) (R : Bool → Int → List (Addr × Obj) → Prop), k ∈ ns → LCg.NsObj oC m₂ → m₂ x = some (.int k t) → Fr h₀ L h m → News h₀ L h ((I, oI) :: (C, oC) :: (D, LCg.lst ys) :: news) → LCg.Off3 I C D news → ((@Ne Nat I C) ∧ (@Ne Nat I D) ∧ (@Ne Nat C D)) →
      (p k = true → R true (g k) news) → (p k = false → R false 0 news) →
      wpAny (model prog w) A (isTrue ct (compEnvC scope cl C env) (eval ct (compEnvC scope cl C env))) (fun b s' => if b = true then wpAny (model prog w) A (eval elt (compEnvC scope cl C env)) (LCg.CompEnd h₀ L m { s with heap := h, toks := tk } I oI C oC D (LCg.lst ys) S (fun y news' => ∃ r t', y = .int r t' ∧ R true r news')) E' s'
        else LCg.CompEnd h₀ L m { s with heap := h, toks := tk } I oI C oC D (LCg.lst ys) S (fun _ news' => R false 0 news') Value.none s') E' { s with heap := h, toks := tk })
    (fin : ∀ ys, IntsAre ys ((ns.filter p).map g) → Fin ys news) : LCt.CompRestT prog w A h₀ L m env ct elt x scope cl s S (fun i v => vs.toArray[i]? = some v) Fin vs.toArray.size 0 [] news := by
  refine ct_rest (σ := Unit) (fun _ => news) (fun i ys _ => IntsAre ys (((ns.take i).filter p).map g)) () (by simp; exact .nil) ?_ ?_
  · rintro i v I oI C oC D m₂ ys c h tk E' hi' hv hJ hC hx F N off ne
    obtain ⟨k, t, rfl, hk⟩ := IntsAre.at hi i v (by simpa using hv)
    have hs : ns.take (i + 1) = ns.take i ++ [k] := by simp [List.take_add_one, hk]
    refine wpAny_mono (turn k t I oI C oC D m₂ ys h tk E' (fun b r nw => nw = news ∧ p k = b ∧ (b = true → r = g k)) (List.mem_of_getElem? hk) hC hx F N off ne (fun q => ⟨rfl, q, fun _ => rfl⟩) (fun q => ⟨rfl, q, fun z => by cases z⟩)) (fun b s₂ hq => ?_) fun _ _ e => e
    cases b with
    | true =>
      simp only [if_true] at hq ⊢
      refine wpAny_mono hq (fun y s₃ hr => ?_) fun _ _ e => e
      obtain ⟨h', tk', nw, e, F', N', off', hS, r, t', hy, hn, hp, hg⟩ := hr
      subst hn
      refine ⟨h', tk', _, e, F', N', off', hS, (), rfl, ?_⟩
      rw [hs, List.filter_append, hy, hg trivial]
      simp only [List.filter_cons, hp, if_true, List.filter_nil, List.map_append, List.map_cons, List.map_nil]
      exact ints_snoc hJ
    | false =>
      simp only [Bool.false_eq_true, if_false] at hq ⊢
      obtain ⟨h', tk', nw, e, F', N', off', hS, hn, hp, _⟩ := hq
      subst hn
      refine ⟨h', tk', _, e, F', N', off', hS, (), rfl, ?_⟩
      rw [hs, List.filter_append]
      simp only [List.filter_cons, hp, Bool.false_eq_true, if_false, List.filter_nil, List.append_nil]
      exact hJ
  · intro ys c hJ
    refine fin ys ?_
    rw [List.take_of_length_le (by simp [hi.length])] at hJ
    exact hJ
end
end Mine
end
-- part Plain
section
set_option maxRecDepth 100000
open PySem PySem.W PySem.Calls PyProof.Rows
set_option Elab.async false
namespace Mine

/-- the text of a list of codes -/
noncomputable def tx (cs : List Int) : Str := ⟨(cs.map Int.toNat).toArray⟩
/-- codes that are signs -/
noncomputable def Oks (cs : List Int) : Prop := ∀ c ∈ cs, 0 ≤ c ∧ c ≤ 1114111

theorem tx_len (cs : List Int) : (tx cs).length = cs.length := by simp [tx, Str.length]
theorem tx_list (cs : List Int) : (tx cs).cps.toList = cs.map Int.toNat := by simp [tx]
theorem tx_nil : tx [] = Str.ofString "" := by decide +kernel

theorem toNat_inj : ∀ {a b : List Int}, Oks a → Oks b → a.map Int.toNat = b.map Int.toNat → a = b
  | [], [], _, _, _ => rfl
  | [], _ :: _, _, _, h => by simp at h
  | _ :: _, [], _, _, h => by simp at h
  | x :: a, y :: b, ha, hb, h => by
    simp only [List.map_cons, List.cons.injEq] at h
    have h1 := ha x (.head _)
    have h2 := hb y (.head _)
    have e : x = y := by omega
    rw [e, toNat_inj (fun c hc => ha c (.tail _ hc)) (fun c hc => hb c (.tail _ hc)) h.2]
theorem tx_inj {a b : List Int} (ha : Oks a) (hb : Oks b) : tx a = tx b ↔ a = b := by
  constructor
  · intro h
    have := congrArg (fun x : Str => x.cps.toList) h
    simp only [tx_list] at this
    exact toNat_inj ha hb this
  · rintro rfl; rfl
theorem tx_app (a b : List Int) : tx a ++ tx b = tx (a ++ b) := by
  apply Str.ext'
  rw [Str.cps_append]
  simp [tx]

theorem Oks.drop {a : List Int} (h : Oks a) (n : Nat) : Oks (a.drop n) := fun c hc => h c (List.mem_of_mem_drop hc)
theorem Oks.take {a : List Int} (h : Oks a) (n : Nat) : Oks (a.take n) := fun c hc => h c (List.mem_of_mem_take hc)
theorem Oks.app {a b : List Int} (h : Oks a) (k : Oks b) : Oks (a ++ b) := fun c hc => (List.mem_append.mp hc).elim (h c) (k c)
theorem Oks.nil : Oks [] := fun _ hc => nomatch hc

theorem toNat_min (a : Int) (n : Nat) : (min a (n : Int)).toNat = min a.toNat n := by
  rcases Int.le_total a n with h | h
  · rw [Int.min_eq_left h, Nat.min_eq_left (Int.toNat_le.mpr h)]
  · rw [Int.min_eq_right h, Int.toNat_natCast, Nat.min_eq_right ((Int.le_toNat (Int.le_trans (Int.natCast_nonneg n) h)).mpr h)]
theorem cong_nat {n i i' : Nat} (hi : min i n = min i' n) : i = i' ∨ n ≤ i ∧ n ≤ i' := by
  rcases Nat.le_total n i with h | h <;> rcases Nat.le_total n i' with h' | h'
  · exact .inr ⟨h, h'⟩
  · rw [Nat.min_eq_right h, Nat.min_eq_left h'] at hi; exact .inr ⟨h, hi ▸ Nat.le_refl _⟩
  · rw [Nat.min_eq_left h, Nat.min_eq_right h'] at hi; exact .inr ⟨hi ▸ Nat.le_refl _, h'⟩
  · rw [Nat.min_eq_left h, Nat.min_eq_left h'] at hi; exact .inl hi
theorem cong_ends {n : Nat} {i i' : Int} (hi : min i (n : Int) = min i' n) : i.toNat = i'.toNat ∨ n ≤ i.toNat ∧ n ≤ i'.toNat :=
  cong_nat (by rw [← toNat_min, ← toNat_min, hi])
theorem min_min (a n : Int) : min (min a n) n = min a n := Int.min_eq_left (Int.min_le_right _ _)
theorem lt_sub_toNat (k : Nat) (j i : Int) : k < (j - i).toNat ↔ (k : Int) + i < j := by rw [Int.lt_toNat]; constructor <;> intro h <;> omega
theorem lt_min_iff (x j n : Int) (h : x < n) : x < j ↔ x < min j n := by rw [Int.lt_min]; exact ⟨fun q => ⟨q, h⟩, fun q => q.1⟩
theorem sl_clip {len : Nat} {i j : Int} (h0 : 0 ≤ i) (h1 : 0 ≤ j) : Builtin.Str.strSliceIndices (some i) (some j) 1 len = Builtin.Str.strSliceIndices (some (min i len)) (some (min j len)) 1 len := by
  have a1 : ¬ i < 0 := Int.not_lt.mpr h0
  have a2 : ¬ j < 0 := Int.not_lt.mpr h1
  have a3 : ¬ (min i (len : Int)) < 0 := Int.not_lt.mpr (Int.le_min.mpr ⟨h0, Int.natCast_nonneg _⟩)
  have a4 : ¬ (min j (len : Int)) < 0 := Int.not_lt.mpr (Int.le_min.mpr ⟨h1, Int.natCast_nonneg _⟩)
  have e1 : max (0 : Int) (min (min i (len : Int)) (len : Int)) = max 0 (min i (len : Int)) := by rw [min_min]
  have e2 : max (0 : Int) (min (min j (len : Int)) (len : Int)) = max 0 (min j (len : Int)) := by rw [min_min]
  simp only [Builtin.Str.strSliceIndices, if_neg a1, if_neg a2, if_neg a3, if_neg a4, show (1 : Int) > 0 by decide, if_true, e1, e2]

theorem sl_none {len : Nat} {i j : Int} (h0 : 0 ≤ i) (h1 : 0 ≤ j) (h : j ≤ i) (hl : j ≤ len) (hi : i ≤ len) : Builtin.Str.strSliceIndices (some i) (some j) 1 len = [] := by
  have a1 : ¬ i < 0 := Int.not_lt.mpr h0
  have a2 : ¬ j < 0 := Int.not_lt.mpr h1
  have e1 : max (0 : Int) (min i (len : Int)) = i := by omega
  have e2 : max (0 : Int) (min j (len : Int)) = j := by omega
  simp only [Builtin.Str.strSliceIndices, if_neg a1, if_neg a2, show (1 : Int) > 0 by decide, if_true, e1, e2]
  unfold sliceRange
  simp
  omega

theorem seg_eq (cs : List Int) {a b c d : Nat} (h : ∀ k, a + k < cs.length → (k < b ↔ k < d)) (h2 : a = c ∨ (cs.length ≤ a ∧ cs.length ≤ c)) : (cs.drop a).take b = (cs.drop c).take d := by
  apply List.ext_getElem?
  intro k
  simp only [List.getElem?_take, List.getElem?_drop]
  rcases h2 with rfl | ⟨h3, h4⟩
  · by_cases hk : a + k < cs.length
    · have := h k hk
      by_cases hb : k < b
      · rw [if_pos hb, if_pos (this.mp hb)]
      · rw [if_neg hb, if_neg (fun q => hb (this.mpr q))]
    · rw [List.getElem?_eq_none (by omega)]
      simp
  · rw [List.getElem?_eq_none (by omega), List.getElem?_eq_none (by omega)]
    simp

theorem tx_slice {cs : List Int} {i j : Int} (h0 : 0 ≤ i) (h1 : 0 ≤ j) : Txt.slice (tx cs) (some i) (some j) = tx ((cs.drop i.toNat).take (j - i).toNat) := by
  have hl := tx_len cs
  have e : Txt.slice (tx cs) (some i) (some j) = Txt.slice (tx cs) (some (min i (cs.length : Int))) (some (min j (cs.length : Int))) := by
    unfold Txt.slice
    rw [hl, sl_clip h0 h1]
  rw [e]
  by_cases h : min i (cs.length : Int) ≤ min j (cs.length : Int)
  · have := StrLaws.sliceText_plain (x := tx cs) (i := min i (cs.length : Int)) (j := min j (cs.length : Int)) ⟨by omega, h, by rw [tx_list]; simp; omega⟩
    refine Eq.trans this ?_
    rw [tx_list]
    unfold tx
    congr 1
    rw [← List.map_drop, ← List.map_take]
    congr 2
    refine seg_eq cs (fun k hk => ?_) (cong_ends (min_min _ _))
    rw [toNat_min] at hk
    have e1 : (k : Int) + i < cs.length := by omega
    rw [lt_sub_toNat, lt_sub_toNat, Int.min_eq_left (show i ≤ (cs.length : Int) by omega)]
    exact (lt_min_iff _ _ _ e1).symm
  · unfold Txt.slice
    rw [hl, sl_none (by omega) (by omega) (by omega) (by omega) (by omega)]
    have z : (j - i).toNat = 0 := by omega
    have n : ((1 : Int) == 1 && ([] : List Nat).length == cs.length) = false := by
      have : cs.length ≠ 0 := by omega
      simp
      omega
    rw [if_neg (by rw [n]; decide), z]
    rfl

theorem tx_slice_from {cs : List Int} {i : Int} (h0 : 0 ≤ i) : Txt.slice (tx cs) (some i) none = tx (cs.drop i.toNat) := by
  have e : Txt.slice (tx cs) (some i) none = Txt.slice (tx cs) (some i) (some (cs.length : Int)) := by
    unfold Txt.slice
    rw [StrLaws.sliceIdx_none_hi, tx_len]
  rw [e, tx_slice h0 (by omega)]
  congr 1
  rw [List.take_of_length_le (by simp; omega)]

theorem tx_slice_to {cs : List Int} {j : Int} (h0 : 0 ≤ j) : Txt.slice (tx cs) none (some j) = tx (cs.take j.toNat) := by
  have e : Txt.slice (tx cs) none (some j) = Txt.slice (tx cs) (some 0) (some j) := by
    unfold Txt.slice
    rw [StrLaws.sliceIdx_none_lo]
  rw [e, tx_slice (Int.le_refl 0) h0]
  congr 1
  simp
end Mine
end
-- part B1
section
set_option maxRecDepth 100000
open PySem PySem.W PySem.Calls PyProof.Rows
set_option Elab.async false
namespace Mine
variable (w : World) (mean : ExcName → Option Value) (mg mb : Str → Option Value)

/-- the stretch from i up to j -/
noncomputable def seg (a : List Int) (i j : Int) : List Int := (a.drop i.toNat).take (j - i).toNat
noncomputable def fromEnd (p n : Int) : Int := if p < 0 then max (n + p) 0 else min p n
noncomputable def clampP (p n : Int) : Int := min (max p 0) n

set_option maxHeartbeats 4000000
theorem w_clamp (place length : Int) (t1 t2) : Pure1 w mean mg mb 37 4 40 (fun _ => True) [.int place t1, .int length t2] (fun _ r => ∃ t, r = .int (clampP place length) t) := by
  k_with_none
  k_with "own ne" => (refine neN ?_; (try dsimp only); first | assumption | exact Ne.symm (by assumption) | exact Nat.ne_of_gt (by assumption) | exact Nat.ne_of_lt (by assumption) | fail "none")
  k_with "own room" => first | exact room1 hdp rfl | fail "none"
  k_with "own units" => first | exact units1 hun rfl | fail "none"
  k_with "eval Call Name" => refine Call_ ?_
  unfold Pure1; k_fill; intro dp un gd fr s Q E X T hpre hdp hun ret; refine wpAny_call ?_; k_dflt (refine' enterP ?k1 ?k2 ?k6 ?k7 ?k8 ?k9 ?kB ?_ ?c2 ?c3 ?c4 ?c5; (case k1 => assumption); (case k2 => assumption); (case k6 => k_is); (case k7 => k_is); (case k8 => ktr_room); (case k9 => exact BindsTo.of_eq rfl); (case c5 => decide); (case kB => exact locs rfl); (case c2 => exact rfl); (case c3 => exact rfl); (case c4 => exact rfl); k_whole; intro L' h' F' N'; (try dsimp only); (try k_fold))
  (repeat' (first | (k_unfold; (try dsimp only)) | (refine id ?_; k_unfold; (try dsimp only)) | (walk1; (all_goals (try (first | ((with_reducible show wpAny _ _ (exec _ _) _ _ _); k_fold) | ((with_reducible show wpAny _ _ (call _ _) _ _ _); k_fold))))) | (dsimp only; first | (walk1; (all_goals (try (first | ((with_reducible show wpAny _ _ (exec _ _) _ _ _); k_fold) | ((with_reducible show wpAny _ _ (call _ _) _ _ _); k_fold))))) | skip) | fail "no step"))
  all_goals exact ret _ _ _ (Fr.keep (by assumption)) ⟨_, by unfold clampP; congr 1; omega⟩

theorem w_from (place length : Int) (t1 t2) : Pure1 w mean mg mb 44 4 40 (fun _ => True) [.int place t1, .int length t2] (fun _ r => ∃ t, r = .int (fromEnd place length) t) := by
  k_with_none
  k_with "own ne" => (refine neN ?_; (try dsimp only); first | assumption | exact Ne.symm (by assumption) | exact Nat.ne_of_gt (by assumption) | exact Nat.ne_of_lt (by assumption) | fail "none")
  k_with "own room" => first | exact room1 hdp rfl | fail "none"
  k_with "own units" => first | exact units1 hun rfl | fail "none"
  k_with "eval Call Name" => refine Call_ ?_
  unfold Pure1; k_fill; intro dp un gd fr s Q E X T hpre hdp hun ret; refine wpAny_call ?_; k_dflt (refine' enterP ?k1 ?k2 ?k6 ?k7 ?k8 ?k9 ?kB ?_ ?c2 ?c3 ?c4 ?c5; (case k1 => assumption); (case k2 => assumption); (case k6 => k_is); (case k7 => k_is); (case k8 => ktr_room); (case k9 => exact BindsTo.of_eq rfl); (case c5 => decide); (case kB => exact locs rfl); (case c2 => exact rfl); (case c3 => exact rfl); (case c4 => exact rfl); k_whole; intro L' h' F' N'; (try dsimp only); (try k_fold))
  (repeat' (first | (k_unfold; (try dsimp only)) | (refine id ?_; k_unfold; (try dsimp only)) | (walk1; (all_goals (try (first | ((with_reducible show wpAny _ _ (exec _ _) _ _ _); k_fold) | ((with_reducible show wpAny _ _ (call _ _) _ _ _); k_fold))))) | (dsimp only; first | (walk1; (all_goals (try (first | ((with_reducible show wpAny _ _ (exec _ _) _ _ _); k_fold) | ((with_reducible show wpAny _ _ (call _ _) _ _ _); k_fold))))) | skip) | fail "no step"))
  all_goals exact ret _ _ _ (Fr.keep (by assumption)) ⟨_, by unfold fromEnd; congr 1; split <;> omega⟩


theorem seg_out {a : List Int} {i j : Int} (h : j ≤ i) : seg a i j = [] := by
  have : (j - i).toNat = 0 := by omega
  simp [seg, this]

theorem from_0 (p : Int) (n : Nat) : 0 ≤ fromEnd p n ∧ fromEnd p n ≤ n := by unfold fromEnd; split <;> omega
theorem clamp_0 (p : Int) (n : Nat) : 0 ≤ clampP p n ∧ clampP p n ≤ n := by unfold clampP; omega

theorem tx_out {a : List Int} {i j : Int} (h : ¬ i < j) : Str.ofString "" = tx (seg a i j) := by rw [seg_out (by omega)]; exact tx_nil.symm
theorem tx_seg {a : List Int} {i j : Int} (h0 : 0 ≤ i) (h1 : 0 ≤ j) : Txt.slice (tx a) (some i) (some j) = tx (seg a i j) := tx_slice h0 h1

theorem w_slice (a : List Int) (start e : Int) (t1 t2 t3) : Pure1 w mean mg mb 51 6 60 (fun _ => a.length ≤ 1000) [.str (tx a) t1, .int start t2, .int e t3] (fun _ r => ∃ t, r = .str (tx (seg a (fromEnd start a.length) (fromEnd e a.length))) t) := by
  k_with_none
  k_with "own ne" => (refine neN ?_; (try dsimp only); first | assumption | exact Ne.symm (by assumption) | exact Nat.ne_of_gt (by assumption) | exact Nat.ne_of_lt (by assumption) | fail "none")
  k_with "own room" => first | exact room1 hdp rfl | fail "none"
  k_with "own units" => first | exact units1 hun rfl | fail "none"
  k_with "eval Call Name" => refine Call_ ?_
  k_with "call ref" => (k_here; (with_reducible show wpAny _ _ (call (Value.ref 37) _) _ _ _); k_dflt (refine' Pure1.use (w_clamp _ _ _ _ _ _ _ _) ?k1 ?k2 ?k3 ?k4 ?k5 ?k6 ?k7 ?k8 ?_; (case k1 => k_asm); (case k2 => k_asm); (case k3 => k_asm); (case k4 => k_asm); (case k5 => rfl); (case k6 => ((repeat' apply And.intro) <;> (first | with_reducible assumption | ((with_reducible show Heap.IsList _ _ _); first | exact Heap.IsList.at (by assumption) (Fr.keep (by assumption) _) | exact News.isList (by assumption) (by k_mem) | k_extra "my pre") | exact IntsAre.nil | exact (fun _ hc => absurd hc List.not_mem_nil) | k_extra "my pre" | (first | assumption | exact Nat.le_trans (by assumption) (Nat.le_of_ble_eq_true rfl) | exact Nat.lt_of_le_of_lt (by assumption) (Nat.le_of_ble_eq_true rfl) | exact Int.natCast_nonneg _ | exact Int.le_trans (by assumption) (by decide) | exact Int.lt_of_le_of_lt (by assumption) (by decide) | exact Int.lt_of_lt_of_le (by assumption) (by decide) | ((repeat (rename (@LT.lt Nat _ _ _) ∧ _ => hxx; clear hxx)); (repeat (rename (@Ne Nat _ _) ∧ _ => hxx; clear hxx)); (repeat (rename (@Ne Nat _ _ ∧ _) ∧ _ => hxx; clear hxx)); omega)) | trivial | (dsimp only; omega) | assumption))); (case k7 => ktr_room); (case k8 => ktr_units)); intro r' h' tk' F' N' hr'; (try k_sweep); obtain ⟨tr', er'⟩ := hr'; subst er')
  k_with "call ref" => (k_here; (with_reducible show wpAny _ _ (call (Value.ref 44) _) _ _ _); k_dflt (refine' Pure1.use (w_from _ _ _ _ _ _ _ _) ?k1 ?k2 ?k3 ?k4 ?k5 ?k6 ?k7 ?k8 ?_; (case k1 => k_asm); (case k2 => k_asm); (case k3 => k_asm); (case k4 => k_asm); (case k5 => rfl); (case k6 => ((repeat' apply And.intro) <;> (first | with_reducible assumption | ((with_reducible show Heap.IsList _ _ _); first | exact Heap.IsList.at (by assumption) (Fr.keep (by assumption) _) | exact News.isList (by assumption) (by k_mem) | k_extra "my pre") | exact IntsAre.nil | exact (fun _ hc => absurd hc List.not_mem_nil) | k_extra "my pre" | (first | assumption | exact Nat.le_trans (by assumption) (Nat.le_of_ble_eq_true rfl) | exact Nat.lt_of_le_of_lt (by assumption) (Nat.le_of_ble_eq_true rfl) | exact Int.natCast_nonneg _ | exact Int.le_trans (by assumption) (by decide) | exact Int.lt_of_le_of_lt (by assumption) (by decide) | exact Int.lt_of_lt_of_le (by assumption) (by decide) | ((repeat (rename (@LT.lt Nat _ _ _) ∧ _ => hxx; clear hxx)); (repeat (rename (@Ne Nat _ _) ∧ _ => hxx; clear hxx)); (repeat (rename (@Ne Nat _ _ ∧ _) ∧ _ => hxx; clear hxx)); omega)) | trivial | (dsimp only; omega) | assumption))); (case k7 => ktr_room); (case k8 => ktr_units)); intro r' h' tk' F' N' hr'; (try k_sweep); obtain ⟨tr', er'⟩ := hr'; subst er')
  unfold Pure1; k_fill; intro dp un gd fr s Q E X T hpre hdp hun ret; refine wpAny_call ?_; k_dflt (refine' enterP ?k1 ?k2 ?k6 ?k7 ?k8 ?k9 ?kB ?_ ?c2 ?c3 ?c4 ?c5; (case k1 => assumption); (case k2 => assumption); (case k6 => k_is); (case k7 => k_is); (case k8 => ktr_room); (case k9 => exact BindsTo.of_eq rfl); (case c5 => decide); (case kB => exact locs rfl); (case c2 => exact rfl); (case c3 => exact rfl); (case c4 => exact rfl); k_whole; intro L' h' F' N'; (try dsimp only); (try k_fold))
  have hl := tx_len a
  (repeat' (first | (k_unfold; (try dsimp only)) | (refine id ?_; k_unfold; (try dsimp only)) | (walk1; (all_goals (try (first | ((with_reducible show wpAny _ _ (exec _ _) _ _ _); k_fold) | ((with_reducible show wpAny _ _ (call _ _) _ _ _); k_fold))))) | (dsimp only; first | (walk1; (all_goals (try (first | ((with_reducible show wpAny _ _ (exec _ _) _ _ _); k_fold) | ((with_reducible show wpAny _ _ (call _ _) _ _ _); k_fold))))) | skip) | fail "no step"))
  all_goals (simp only [hl] at *; first
    | exact ret _ _ _ (Fr.keep (by assumption)) ⟨_, by rw [tx_seg (from_0 _ _).1 (from_0 _ _).1]⟩
    | exact ret _ _ _ (Fr.keep (by assumption)) ⟨_, by rw [← tx_out (by assumption)]⟩)
theorem w_sliceN (a : List Int) (start : Int) (t1 t2) : Pure1 w mean mg mb 51 6 60 (fun _ => a.length ≤ 1000) [.str (tx a) t1, .int start t2, .none] (fun _ r => ∃ t, r = .str (tx (seg a (fromEnd start a.length) a.length)) t) := by
  k_with_none
  k_with "own ne" => (refine neN ?_; (try dsimp only); first | assumption | exact Ne.symm (by assumption) | exact Nat.ne_of_gt (by assumption) | exact Nat.ne_of_lt (by assumption) | fail "none")
  k_with "own room" => first | exact room1 hdp rfl | fail "none"
  k_with "own units" => first | exact units1 hun rfl | fail "none"
  k_with "eval Call Name" => refine Call_ ?_
  k_with "call ref" => (k_here; (with_reducible show wpAny _ _ (call (Value.ref 37) _) _ _ _); k_dflt (refine' Pure1.use (w_clamp _ _ _ _ _ _ _ _) ?k1 ?k2 ?k3 ?k4 ?k5 ?k6 ?k7 ?k8 ?_; (case k1 => k_asm); (case k2 => k_asm); (case k3 => k_asm); (case k4 => k_asm); (case k5 => rfl); (case k6 => ((repeat' apply And.intro) <;> (first | with_reducible assumption | ((with_reducible show Heap.IsList _ _ _); first | exact Heap.IsList.at (by assumption) (Fr.keep (by assumption) _) | exact News.isList (by assumption) (by k_mem) | k_extra "my pre") | exact IntsAre.nil | exact (fun _ hc => absurd hc List.not_mem_nil) | k_extra "my pre" | (first | assumption | exact Nat.le_trans (by assumption) (Nat.le_of_ble_eq_true rfl) | exact Nat.lt_of_le_of_lt (by assumption) (Nat.le_of_ble_eq_true rfl) | exact Int.natCast_nonneg _ | exact Int.le_trans (by assumption) (by decide) | exact Int.lt_of_le_of_lt (by assumption) (by decide) | exact Int.lt_of_lt_of_le (by assumption) (by decide) | ((repeat (rename (@LT.lt Nat _ _ _) ∧ _ => hxx; clear hxx)); (repeat (rename (@Ne Nat _ _) ∧ _ => hxx; clear hxx)); (repeat (rename (@Ne Nat _ _ ∧ _) ∧ _ => hxx; clear hxx)); omega)) | trivial | (dsimp only; omega) | assumption))); (case k7 => ktr_room); (case k8 => ktr_units)); intro r' h' tk' F' N' hr'; (try k_sweep); obtain ⟨tr', er'⟩ := hr'; subst er')
  k_with "call ref" => (k_here; (with_reducible show wpAny _ _ (call (Value.ref 44) _) _ _ _); k_dflt (refine' Pure1.use (w_from _ _ _ _ _ _ _ _) ?k1 ?k2 ?k3 ?k4 ?k5 ?k6 ?k7 ?k8 ?_; (case k1 => k_asm); (case k2 => k_asm); (case k3 => k_asm); (case k4 => k_asm); (case k5 => rfl); (case k6 => ((repeat' apply And.intro) <;> (first | with_reducible assumption | ((with_reducible show Heap.IsList _ _ _); first | exact Heap.IsList.at (by assumption) (Fr.keep (by assumption) _) | exact News.isList (by assumption) (by k_mem) | k_extra "my pre") | exact IntsAre.nil | exact (fun _ hc => absurd hc List.not_mem_nil) | k_extra "my pre" | (first | assumption | exact Nat.le_trans (by assumption) (Nat.le_of_ble_eq_true rfl) | exact Nat.lt_of_le_of_lt (by assumption) (Nat.le_of_ble_eq_true rfl) | exact Int.natCast_nonneg _ | exact Int.le_trans (by assumption) (by decide) | exact Int.lt_of_le_of_lt (by assumption) (by decide) | exact Int.lt_of_lt_of_le (by assumption) (by decide) | ((repeat (rename (@LT.lt Nat _ _ _) ∧ _ => hxx; clear hxx)); (repeat (rename (@Ne Nat _ _) ∧ _ => hxx; clear hxx)); (repeat (rename (@Ne Nat _ _ ∧ _) ∧ _ => hxx; clear hxx)); omega)) | trivial | (dsimp only; omega) | assumption))); (case k7 => ktr_room); (case k8 => ktr_units)); intro r' h' tk' F' N' hr'; (try k_sweep); obtain ⟨tr', er'⟩ := hr'; subst er')
  unfold Pure1; k_fill; intro dp un gd fr s Q E X T hpre hdp hun ret; refine wpAny_call ?_; k_dflt (refine' enterP ?k1 ?k2 ?k6 ?k7 ?k8 ?k9 ?kB ?_ ?c2 ?c3 ?c4 ?c5; (case k1 => assumption); (case k2 => assumption); (case k6 => k_is); (case k7 => k_is); (case k8 => ktr_room); (case k9 => exact BindsTo.of_eq rfl); (case c5 => decide); (case kB => exact locs rfl); (case c2 => exact rfl); (case c3 => exact rfl); (case c4 => exact rfl); k_whole; intro L' h' F' N'; (try dsimp only); (try k_fold))
  have hl := tx_len a
  (repeat' (first | (k_unfold; (try dsimp only)) | (refine id ?_; k_unfold; (try dsimp only)) | (walk1; (all_goals (try (first | ((with_reducible show wpAny _ _ (exec _ _) _ _ _); k_fold) | ((with_reducible show wpAny _ _ (call _ _) _ _ _); k_fold))))) | (dsimp only; first | (walk1; (all_goals (try (first | ((with_reducible show wpAny _ _ (exec _ _) _ _ _); k_fold) | ((with_reducible show wpAny _ _ (call _ _) _ _ _); k_fold))))) | skip) | fail "no step"))
  all_goals (simp only [hl] at *; first
    | exact ret _ _ _ (Fr.keep (by assumption)) ⟨_, by rw [tx_seg (from_0 _ _).1 (by omega)]⟩
    | exact ret _ _ _ (Fr.keep (by assumption)) ⟨_, by rw [← tx_out (by assumption)]⟩)
theorem w_substring (a : List Int) (start e : Int) (t1 t2 t3) : Pure1 w mean mg mb 58 6 60 (fun _ => a.length ≤ 1000) [.str (tx a) t1, .int start t2, .int e t3]
    (fun _ r => ∃ t, r = .str (tx (seg a (min (clampP start a.length) (clampP e a.length)) (max (clampP start a.length) (clampP e a.length)))) t) := by
  k_with_none
  k_with "own ne" => (refine neN ?_; (try dsimp only); first | assumption | exact Ne.symm (by assumption) | exact Nat.ne_of_gt (by assumption) | exact Nat.ne_of_lt (by assumption) | fail "none")
  k_with "own room" => first | exact room1 hdp rfl | fail "none"
  k_with "own units" => first | exact units1 hun rfl | fail "none"
  k_with "eval Call Name" => refine Call_ ?_
  k_with "call ref" => (k_here; (with_reducible show wpAny _ _ (call (Value.ref 37) _) _ _ _); k_dflt (refine' Pure1.use (w_clamp _ _ _ _ _ _ _ _) ?k1 ?k2 ?k3 ?k4 ?k5 ?k6 ?k7 ?k8 ?_; (case k1 => k_asm); (case k2 => k_asm); (case k3 => k_asm); (case k4 => k_asm); (case k5 => rfl); (case k6 => ((repeat' apply And.intro) <;> (first | with_reducible assumption | ((with_reducible show Heap.IsList _ _ _); first | exact Heap.IsList.at (by assumption) (Fr.keep (by assumption) _) | exact News.isList (by assumption) (by k_mem) | k_extra "my pre") | exact IntsAre.nil | exact (fun _ hc => absurd hc List.not_mem_nil) | k_extra "my pre" | (first | assumption | exact Nat.le_trans (by assumption) (Nat.le_of_ble_eq_true rfl) | exact Nat.lt_of_le_of_lt (by assumption) (Nat.le_of_ble_eq_true rfl) | exact Int.natCast_nonneg _ | exact Int.le_trans (by assumption) (by decide) | exact Int.lt_of_le_of_lt (by assumption) (by decide) | exact Int.lt_of_lt_of_le (by assumption) (by decide) | ((repeat (rename (@LT.lt Nat _ _ _) ∧ _ => hxx; clear hxx)); (repeat (rename (@Ne Nat _ _) ∧ _ => hxx; clear hxx)); (repeat (rename (@Ne Nat _ _ ∧ _) ∧ _ => hxx; clear hxx)); omega)) | trivial | (dsimp only; omega) | assumption))); (case k7 => ktr_room); (case k8 => ktr_units)); intro r' h' tk' F' N' hr'; (try k_sweep); obtain ⟨tr', er'⟩ := hr'; subst er')
  k_with "call ref" => (k_here; (with_reducible show wpAny _ _ (call (Value.ref 44) _) _ _ _); k_dflt (refine' Pure1.use (w_from _ _ _ _ _ _ _ _) ?k1 ?k2 ?k3 ?k4 ?k5 ?k6 ?k7 ?k8 ?_; (case k1 => k_asm); (case k2 => k_asm); (case k3 => k_asm); (case k4 => k_asm); (case k5 => rfl); (case k6 => ((repeat' apply And.intro) <;> (first | with_reducible assumption | ((with_reducible show Heap.IsList _ _ _); first | exact Heap.IsList.at (by assumption) (Fr.keep (by assumption) _) | exact News.isList (by assumption) (by k_mem) | k_extra "my pre") | exact IntsAre.nil | exact (fun _ hc => absurd hc List.not_mem_nil) | k_extra "my pre" | (first | assumption | exact Nat.le_trans (by assumption) (Nat.le_of_ble_eq_true rfl) | exact Nat.lt_of_le_of_lt (by assumption) (Nat.le_of_ble_eq_true rfl) | exact Int.natCast_nonneg _ | exact Int.le_trans (by assumption) (by decide) | exact Int.lt_of_le_of_lt (by assumption) (by decide) | exact Int.lt_of_lt_of_le (by assumption) (by decide) | ((repeat (rename (@LT.lt Nat _ _ _) ∧ _ => hxx; clear hxx)); (repeat (rename (@Ne Nat _ _) ∧ _ => hxx; clear hxx)); (repeat (rename (@Ne Nat _ _ ∧ _) ∧ _ => hxx; clear hxx)); omega)) | trivial | (dsimp only; omega) | assumption))); (case k7 => ktr_room); (case k8 => ktr_units)); intro r' h' tk' F' N' hr'; (try k_sweep); obtain ⟨tr', er'⟩ := hr'; subst er')
  unfold Pure1; k_fill; intro dp un gd fr s Q E X T hpre hdp hun ret; refine wpAny_call ?_; k_dflt (refine' enterP ?k1 ?k2 ?k6 ?k7 ?k8 ?k9 ?kB ?_ ?c2 ?c3 ?c4 ?c5; (case k1 => assumption); (case k2 => assumption); (case k6 => k_is); (case k7 => k_is); (case k8 => ktr_room); (case k9 => exact BindsTo.of_eq rfl); (case c5 => decide); (case kB => exact locs rfl); (case c2 => exact rfl); (case c3 => exact rfl); (case c4 => exact rfl); k_whole; intro L' h' F' N'; (try dsimp only); (try k_fold))
  have hl := tx_len a
  (repeat' (first | (k_unfold; (try dsimp only)) | (refine id ?_; k_unfold; (try dsimp only)) | (walk1; (all_goals (try (first | ((with_reducible show wpAny _ _ (exec _ _) _ _ _); k_fold) | ((with_reducible show wpAny _ _ (call _ _) _ _ _); k_fold))))) | (dsimp only; first | (walk1; (all_goals (try (first | ((with_reducible show wpAny _ _ (exec _ _) _ _ _); k_fold) | ((with_reducible show wpAny _ _ (call _ _) _ _ _); k_fold))))) | skip) | fail "no step"))
  all_goals (simp only [hl] at *; have c1 := clamp_0 start a.length; have c2 := clamp_0 e a.length; rw [tx_seg (by split <;> omega) (by split <;> omega)]; exact ret _ _ _ (Fr.keep (by assumption)) ⟨_, by congr 3 <;> (split <;> omega)⟩)
theorem w_substringN (a : List Int) (start : Int) (t1 t2) : Pure1 w mean mg mb 58 6 60 (fun _ => a.length ≤ 1000) [.str (tx a) t1, .int start t2, .none]
    (fun _ r => ∃ t, r = .str (tx (seg a (clampP start a.length) a.length)) t) := by
  k_with_none
  k_with "own ne" => (refine neN ?_; (try dsimp only); first | assumption | exact Ne.symm (by assumption) | exact Nat.ne_of_gt (by assumption) | exact Nat.ne_of_lt (by assumption) | fail "none")
  k_with "own room" => first | exact room1 hdp rfl | fail "none"
  k_with "own units" => first | exact units1 hun rfl | fail "none"
  k_with "eval Call Name" => refine Call_ ?_
  k_with "call ref" => (k_here; (with_reducible show wpAny _ _ (call (Value.ref 37) _) _ _ _); k_dflt (refine' Pure1.use (w_clamp _ _ _ _ _ _ _ _) ?k1 ?k2 ?k3 ?k4 ?k5 ?k6 ?k7 ?k8 ?_; (case k1 => k_asm); (case k2 => k_asm); (case k3 => k_asm); (case k4 => k_asm); (case k5 => rfl); (case k6 => ((repeat' apply And.intro) <;> (first | with_reducible assumption | ((with_reducible show Heap.IsList _ _ _); first | exact Heap.IsList.at (by assumption) (Fr.keep (by assumption) _) | exact News.isList (by assumption) (by k_mem) | k_extra "my pre") | exact IntsAre.nil | exact (fun _ hc => absurd hc List.not_mem_nil) | k_extra "my pre" | (first | assumption | exact Nat.le_trans (by assumption) (Nat.le_of_ble_eq_true rfl) | exact Nat.lt_of_le_of_lt (by assumption) (Nat.le_of_ble_eq_true rfl) | exact Int.natCast_nonneg _ | exact Int.le_trans (by assumption) (by decide) | exact Int.lt_of_le_of_lt (by assumption) (by decide) | exact Int.lt_of_lt_of_le (by assumption) (by decide) | ((repeat (rename (@LT.lt Nat _ _ _) ∧ _ => hxx; clear hxx)); (repeat (rename (@Ne Nat _ _) ∧ _ => hxx; clear hxx)); (repeat (rename (@Ne Nat _ _ ∧ _) ∧ _ => hxx; clear hxx)); omega)) | trivial | (dsimp only; omega) | assumption))); (case k7 => ktr_room); (case k8 => ktr_units)); intro r' h' tk' F' N' hr'; (try k_sweep); obtain ⟨tr', er'⟩ := hr'; subst er')
  k_with "call ref" => (k_here; (with_reducible show wpAny _ _ (call (Value.ref 44) _) _ _ _); k_dflt (refine' Pure1.use (w_from _ _ _ _ _ _ _ _) ?k1 ?k2 ?k3 ?k4 ?k5 ?k6 ?k7 ?k8 ?_; (case k1 => k_asm); (case k2 => k_asm); (case k3 => k_asm); (case k4 => k_asm); (case k5 => rfl); (case k6 => ((repeat' apply And.intro) <;> (first | with_reducible assumption | ((with_reducible show Heap.IsList _ _ _); first | exact Heap.IsList.at (by assumption) (Fr.keep (by assumption) _) | exact News.isList (by assumption) (by k_mem) | k_extra "my pre") | exact IntsAre.nil | exact (fun _ hc => absurd hc List.not_mem_nil) | k_extra "my pre" | (first | assumption | exact Nat.le_trans (by assumption) (Nat.le_of_ble_eq_true rfl) | exact Nat.lt_of_le_of_lt (by assumption) (Nat.le_of_ble_eq_true rfl) | exact Int.natCast_nonneg _ | exact Int.le_trans (by assumption) (by decide) | exact Int.lt_of_le_of_lt (by assumption) (by decide) | exact Int.lt_of_lt_of_le (by assumption) (by decide) | ((repeat (rename (@LT.lt Nat _ _ _) ∧ _ => hxx; clear hxx)); (repeat (rename (@Ne Nat _ _) ∧ _ => hxx; clear hxx)); (repeat (rename (@Ne Nat _ _ ∧ _) ∧ _ => hxx; clear hxx)); omega)) | trivial | (dsimp only; omega) | assumption))); (case k7 => ktr_room); (case k8 => ktr_units)); intro r' h' tk' F' N' hr'; (try k_sweep); obtain ⟨tr', er'⟩ := hr'; subst er')
  unfold Pure1; k_fill; intro dp un gd fr s Q E X T hpre hdp hun ret; refine wpAny_call ?_; k_dflt (refine' enterP ?k1 ?k2 ?k6 ?k7 ?k8 ?k9 ?kB ?_ ?c2 ?c3 ?c4 ?c5; (case k1 => assumption); (case k2 => assumption); (case k6 => k_is); (case k7 => k_is); (case k8 => ktr_room); (case k9 => exact BindsTo.of_eq rfl); (case c5 => decide); (case kB => exact locs rfl); (case c2 => exact rfl); (case c3 => exact rfl); (case c4 => exact rfl); k_whole; intro L' h' F' N'; (try dsimp only); (try k_fold))
  have hl := tx_len a
  (repeat' (first | (k_unfold; (try dsimp only)) | (refine id ?_; k_unfold; (try dsimp only)) | (walk1; (all_goals (try (first | ((with_reducible show wpAny _ _ (exec _ _) _ _ _); k_fold) | ((with_reducible show wpAny _ _ (call _ _) _ _ _); k_fold))))) | (dsimp only; first | (walk1; (all_goals (try (first | ((with_reducible show wpAny _ _ (exec _ _) _ _ _); k_fold) | ((with_reducible show wpAny _ _ (call _ _) _ _ _); k_fold))))) | skip) | fail "no step"))
  all_goals (simp only [hl] at *; have c1 := clamp_0 start a.length; rw [tx_seg (by split <;> omega) (by split <;> omega)]; exact ret _ _ _ (Fr.keep (by assumption)) ⟨_, by congr 3 <;> (split <;> omega)⟩)
theorem w_substr (a : List Int) (start e : Int) (t1 t2 t3) : Pure1 w mean mg mb 65 6 60 (fun _ => a.length ≤ 1000) [.str (tx a) t1, .int start t2, .int e t3]
    (fun _ r => ∃ t, r = .str (tx (seg a (fromEnd start a.length) (fromEnd start a.length + min (max e 0) (a.length - fromEnd start a.length)))) t) := by
  k_with_none
  k_with "own ne" => (refine neN ?_; (try dsimp only); first | assumption | exact Ne.symm (by assumption) | exact Nat.ne_of_gt (by assumption) | exact Nat.ne_of_lt (by assumption) | fail "none")
  k_with "own room" => first | exact room1 hdp rfl | fail "none"
  k_with "own units" => first | exact units1 hun rfl | fail "none"
  k_with "eval Call Name" => refine Call_ ?_
  k_with "call ref" => (k_here; (with_reducible show wpAny _ _ (call (Value.ref 37) _) _ _ _); k_dflt (refine' Pure1.use (w_clamp _ _ _ _ _ _ _ _) ?k1 ?k2 ?k3 ?k4 ?k5 ?k6 ?k7 ?k8 ?_; (case k1 => k_asm); (case k2 => k_asm); (case k3 => k_asm); (case k4 => k_asm); (case k5 => rfl); (case k6 => ((repeat' apply And.intro) <;> (first | with_reducible assumption | ((with_reducible show Heap.IsList _ _ _); first | exact Heap.IsList.at (by assumption) (Fr.keep (by assumption) _) | exact News.isList (by assumption) (by k_mem) | k_extra "my pre") | exact IntsAre.nil | exact (fun _ hc => absurd hc List.not_mem_nil) | k_extra "my pre" | (first | assumption | exact Nat.le_trans (by assumption) (Nat.le_of_ble_eq_true rfl) | exact Nat.lt_of_le_of_lt (by assumption) (Nat.le_of_ble_eq_true rfl) | exact Int.natCast_nonneg _ | exact Int.le_trans (by assumption) (by decide) | exact Int.lt_of_le_of_lt (by assumption) (by decide) | exact Int.lt_of_lt_of_le (by assumption) (by decide) | ((repeat (rename (@LT.lt Nat _ _ _) ∧ _ => hxx; clear hxx)); (repeat (rename (@Ne Nat _ _) ∧ _ => hxx; clear hxx)); (repeat (rename (@Ne Nat _ _ ∧ _) ∧ _ => hxx; clear hxx)); omega)) | trivial | (dsimp only; omega) | assumption))); (case k7 => ktr_room); (case k8 => ktr_units)); intro r' h' tk' F' N' hr'; (try k_sweep); obtain ⟨tr', er'⟩ := hr'; subst er')
  k_with "call ref" => (k_here; (with_reducible show wpAny _ _ (call (Value.ref 44) _) _ _ _); k_dflt (refine' Pure1.use (w_from _ _ _ _ _ _ _ _) ?k1 ?k2 ?k3 ?k4 ?k5 ?k6 ?k7 ?k8 ?_; (case k1 => k_asm); (case k2 => k_asm); (case k3 => k_asm); (case k4 => k_asm); (case k5 => rfl); (case k6 => ((repeat' apply And.intro) <;> (first | with_reducible assumption | ((with_reducible show Heap.IsList _ _ _); first | exact Heap.IsList.at (by assumption) (Fr.keep (by assumption) _) | exact News.isList (by assumption) (by k_mem) | k_extra "my pre") | exact IntsAre.nil | exact (fun _ hc => absurd hc List.not_mem_nil) | k_extra "my pre" | (first | assumption | exact Nat.le_trans (by assumption) (Nat.le_of_ble_eq_true rfl) | exact Nat.lt_of_le_of_lt (by assumption) (Nat.le_of_ble_eq_true rfl) | exact Int.natCast_nonneg _ | exact Int.le_trans (by assumption) (by decide) | exact Int.lt_of_le_of_lt (by assumption) (by decide) | exact Int.lt_of_lt_of_le (by assumption) (by decide) | ((repeat (rename (@LT.lt Nat _ _ _) ∧ _ => hxx; clear hxx)); (repeat (rename (@Ne Nat _ _) ∧ _ => hxx; clear hxx)); (repeat (rename (@Ne Nat _ _ ∧ _) ∧ _ => hxx; clear hxx)); omega)) | trivial | (dsimp only; omega) | assumption))); (case k7 => ktr_room); (case k8 => ktr_units)); intro r' h' tk' F' N' hr'; (try k_sweep); obtain ⟨tr', er'⟩ := hr'; subst er')
  unfold Pure1; k_fill; intro dp un gd fr s Q E X T hpre hdp hun ret; refine wpAny_call ?_; k_dflt (refine' enterP ?k1 ?k2 ?k6 ?k7 ?k8 ?k9 ?kB ?_ ?c2 ?c3 ?c4 ?c5; (case k1 => assumption); (case k2 => assumption); (case k6 => k_is); (case k7 => k_is); (case k8 => ktr_room); (case k9 => exact BindsTo.of_eq rfl); (case c5 => decide); (case kB => exact locs rfl); (case c2 => exact rfl); (case c3 => exact rfl); (case c4 => exact rfl); k_whole; intro L' h' F' N'; (try dsimp only); (try k_fold))
  have hl := tx_len a
  (repeat' (first | (k_unfold; (try dsimp only)) | (refine id ?_; k_unfold; (try dsimp only)) | (walk1; (all_goals (try (first | ((with_reducible show wpAny _ _ (exec _ _) _ _ _); k_fold) | ((with_reducible show wpAny _ _ (call _ _) _ _ _); k_fold))))) | (dsimp only; first | (walk1; (all_goals (try (first | ((with_reducible show wpAny _ _ (exec _ _) _ _ _); k_fold) | ((with_reducible show wpAny _ _ (call _ _) _ _ _); k_fold))))) | skip) | fail "no step"))
  all_goals (simp only [hl] at *; have c1 := from_0 start a.length; generalize fromEnd start a.length = f at *; first
    | (rw [tx_seg (by omega) (by (repeat' split) <;> omega)]; exact ret _ _ _ (Fr.keep (by assumption)) ⟨_, by congr 3; (repeat' split) <;> omega⟩)
    | exact ret _ _ _ (Fr.keep (by assumption)) ⟨_, by rw [tx_out (a := a)]; intro q; rename_i z; revert z; (repeat' split) <;> omega⟩)
theorem w_substrN (a : List Int) (start : Int) (t1 t2) : Pure1 w mean mg mb 65 6 60 (fun _ => a.length ≤ 1000) [.str (tx a) t1, .int start t2, .none]
    (fun _ r => ∃ t, r = .str (tx (seg a (fromEnd start a.length) a.length)) t) := by
  k_with_none
  k_with "own ne" => (refine neN ?_; (try dsimp only); first | assumption | exact Ne.symm (by assumption) | exact Nat.ne_of_gt (by assumption) | exact Nat.ne_of_lt (by assumption) | fail "none")
  k_with "own room" => first | exact room1 hdp rfl | fail "none"
  k_with "own units" => first | exact units1 hun rfl | fail "none"
  k_with "eval Call Name" => refine Call_ ?_
  k_with "call ref" => (k_here; (with_reducible show wpAny _ _ (call (Value.ref 37) _) _ _ _); k_dflt (refine' Pure1.use (w_clamp _ _ _ _ _ _ _ _) ?k1 ?k2 ?k3 ?k4 ?k5 ?k6 ?k7 ?k8 ?_; (case k1 => k_asm); (case k2 => k_asm); (case k3 => k_asm); (case k4 => k_asm); (case k5 => rfl); (case k6 => ((repeat' apply And.intro) <;> (first | with_reducible assumption | ((with_reducible show Heap.IsList _ _ _); first | exact Heap.IsList.at (by assumption) (Fr.keep (by assumption) _) | exact News.isList (by assumption) (by k_mem) | k_extra "my pre") | exact IntsAre.nil | exact (fun _ hc => absurd hc List.not_mem_nil) | k_extra "my pre" | (first | assumption | exact Nat.le_trans (by assumption) (Nat.le_of_ble_eq_true rfl) | exact Nat.lt_of_le_of_lt (by assumption) (Nat.le_of_ble_eq_true rfl) | exact Int.natCast_nonneg _ | exact Int.le_trans (by assumption) (by decide) | exact Int.lt_of_le_of_lt (by assumption) (by decide) | exact Int.lt_of_lt_of_le (by assumption) (by decide) | ((repeat (rename (@LT.lt Nat _ _ _) ∧ _ => hxx; clear hxx)); (repeat (rename (@Ne Nat _ _) ∧ _ => hxx; clear hxx)); (repeat (rename (@Ne Nat _ _ ∧ _) ∧ _ => hxx; clear hxx)); omega)) | trivial | (dsimp only; omega) | assumption))); (case k7 => ktr_room); (case k8 => ktr_units)); intro r' h' tk' F' N' hr'; (try k_sweep); obtain ⟨tr', er'⟩ := hr'; subst er')
  k_with "call ref" => (k_here; (with_reducible show wpAny _ _ (call (Value.ref 44) _) _ _ _); k_dflt (refine' Pure1.use (w_from _ _ _ _ _ _ _ _) ?k1 ?k2 ?k3 ?k4 ?k5 ?k6 ?k7 ?k8 ?_; (case k1 => k_asm); (case k2 => k_asm); (case k3 => k_asm); (case k4 => k_asm); (case k5 => rfl); (case k6 => ((repeat' apply And.intro) <;> (first | with_reducible assumption | ((with_reducible show Heap.IsList _ _ _); first | exact Heap.IsList.at (by assumption) (Fr.keep (by assumption) _) | exact News.isList (by assumption) (by k_mem) | k_extra "my pre") | exact IntsAre.nil | exact (fun _ hc => absurd hc List.not_mem_nil) | k_extra "my pre" | (first | assumption | exact Nat.le_trans (by assumption) (Nat.le_of_ble_eq_true rfl) | exact Nat.lt_of_le_of_lt (by assumption) (Nat.le_of_ble_eq_true rfl) | exact Int.natCast_nonneg _ | exact Int.le_trans (by assumption) (by decide) | exact Int.lt_of_le_of_lt (by assumption) (by decide) | exact Int.lt_of_lt_of_le (by assumption) (by decide) | ((repeat (rename (@LT.lt Nat _ _ _) ∧ _ => hxx; clear hxx)); (repeat (rename (@Ne Nat _ _) ∧ _ => hxx; clear hxx)); (repeat (rename (@Ne Nat _ _ ∧ _) ∧ _ => hxx; clear hxx)); omega)) | trivial | (dsimp only; omega) | assumption))); (case k7 => ktr_room); (case k8 => ktr_units)); intro r' h' tk' F' N' hr'; (try k_sweep); obtain ⟨tr', er'⟩ := hr'; subst er')
  unfold Pure1; k_fill; intro dp un gd fr s Q E X T hpre hdp hun ret; refine wpAny_call ?_; k_dflt (refine' enterP ?k1 ?k2 ?k6 ?k7 ?k8 ?k9 ?kB ?_ ?c2 ?c3 ?c4 ?c5; (case k1 => assumption); (case k2 => assumption); (case k6 => k_is); (case k7 => k_is); (case k8 => ktr_room); (case k9 => exact BindsTo.of_eq rfl); (case c5 => decide); (case kB => exact locs rfl); (case c2 => exact rfl); (case c3 => exact rfl); (case c4 => exact rfl); k_whole; intro L' h' F' N'; (try dsimp only); (try k_fold))
  have hl := tx_len a
  (repeat' (first | (k_unfold; (try dsimp only)) | (refine id ?_; k_unfold; (try dsimp only)) | (walk1; (all_goals (try (first | ((with_reducible show wpAny _ _ (exec _ _) _ _ _); k_fold) | ((with_reducible show wpAny _ _ (call _ _) _ _ _); k_fold))))) | (dsimp only; first | (walk1; (all_goals (try (first | ((with_reducible show wpAny _ _ (exec _ _) _ _ _); k_fold) | ((with_reducible show wpAny _ _ (call _ _) _ _ _); k_fold))))) | skip) | fail "no step"))
  all_goals (simp only [hl] at *; have c1 := from_0 start a.length; generalize fromEnd start a.length = f at *; first
    | (rw [tx_seg (by omega) (by omega)]; exact ret _ _ _ (Fr.keep (by assumption)) ⟨_, by congr 3; omega⟩)
    | exact ret _ _ _ (Fr.keep (by assumption)) ⟨_, by rw [tx_out (a := a)]; omega⟩)

theorem Oks.seg {a : List Int} (h : Oks a) (i j : Int) : Oks (seg a i j) := (h.drop _).take _
/-- b stands in a at k -/
noncomputable def St (a b : List Int) (k : Int) : Bool := decide (seg a k (k + b.length) = b)

theorem w_stands (a b : List Int) (at' : Int) (t1 t2 t3) : Pure1 w mean mg mb 72 6 60 (fun _ => Oks a ∧ Oks b ∧ a.length ≤ 1000 ∧ b.length ≤ 1000 ∧ 0 ≤ at' ∧ at' ≤ 1000) [.str (tx a) t1, .str (tx b) t2, .int at' t3] (fun _ r => r = .bool (St a b at')) := by
  k_with_none
  k_with "own ne" => (refine neN ?_; (try dsimp only); first | assumption | exact Ne.symm (by assumption) | exact Nat.ne_of_gt (by assumption) | exact Nat.ne_of_lt (by assumption) | fail "none")
  k_with "own room" => first | exact room1 hdp rfl | fail "none"
  k_with "own units" => first | exact units1 hun rfl | fail "none"
  k_with "eval Call Name" => refine Call_ ?_
  k_with "call ref" => (k_here; (with_reducible show wpAny _ _ (call (Value.ref 37) _) _ _ _); k_dflt (refine' Pure1.use (w_clamp _ _ _ _ _ _ _ _) ?k1 ?k2 ?k3 ?k4 ?k5 ?k6 ?k7 ?k8 ?_; (case k1 => k_asm); (case k2 => k_asm); (case k3 => k_asm); (case k4 => k_asm); (case k5 => rfl); (case k6 => ((repeat' apply And.intro) <;> (first | with_reducible assumption | ((with_reducible show Heap.IsList _ _ _); first | exact Heap.IsList.at (by assumption) (Fr.keep (by assumption) _) | exact News.isList (by assumption) (by k_mem) | k_extra "my pre") | exact IntsAre.nil | exact (fun _ hc => absurd hc List.not_mem_nil) | k_extra "my pre" | (first | assumption | exact Nat.le_trans (by assumption) (Nat.le_of_ble_eq_true rfl) | exact Nat.lt_of_le_of_lt (by assumption) (Nat.le_of_ble_eq_true rfl) | exact Int.natCast_nonneg _ | exact Int.le_trans (by assumption) (by decide) | exact Int.lt_of_le_of_lt (by assumption) (by decide) | exact Int.lt_of_lt_of_le (by assumption) (by decide) | ((repeat (rename (@LT.lt Nat _ _ _) ∧ _ => hxx; clear hxx)); (repeat (rename (@Ne Nat _ _) ∧ _ => hxx; clear hxx)); (repeat (rename (@Ne Nat _ _ ∧ _) ∧ _ => hxx; clear hxx)); omega)) | trivial | (dsimp only; omega) | assumption))); (case k7 => ktr_room); (case k8 => ktr_units)); intro r' h' tk' F' N' hr'; (try k_sweep); obtain ⟨tr', er'⟩ := hr'; subst er')
  k_with "call ref" => (k_here; (with_reducible show wpAny _ _ (call (Value.ref 44) _) _ _ _); k_dflt (refine' Pure1.use (w_from _ _ _ _ _ _ _ _) ?k1 ?k2 ?k3 ?k4 ?k5 ?k6 ?k7 ?k8 ?_; (case k1 => k_asm); (case k2 => k_asm); (case k3 => k_asm); (case k4 => k_asm); (case k5 => rfl); (case k6 => ((repeat' apply And.intro) <;> (first | with_reducible assumption | ((with_reducible show Heap.IsList _ _ _); first | exact Heap.IsList.at (by assumption) (Fr.keep (by assumption) _) | exact News.isList (by assumption) (by k_mem) | k_extra "my pre") | exact IntsAre.nil | exact (fun _ hc => absurd hc List.not_mem_nil) | k_extra "my pre" | (first | assumption | exact Nat.le_trans (by assumption) (Nat.le_of_ble_eq_true rfl) | exact Nat.lt_of_le_of_lt (by assumption) (Nat.le_of_ble_eq_true rfl) | exact Int.natCast_nonneg _ | exact Int.le_trans (by assumption) (by decide) | exact Int.lt_of_le_of_lt (by assumption) (by decide) | exact Int.lt_of_lt_of_le (by assumption) (by decide) | ((repeat (rename (@LT.lt Nat _ _ _) ∧ _ => hxx; clear hxx)); (repeat (rename (@Ne Nat _ _) ∧ _ => hxx; clear hxx)); (repeat (rename (@Ne Nat _ _ ∧ _) ∧ _ => hxx; clear hxx)); omega)) | trivial | (dsimp only; omega) | assumption))); (case k7 => ktr_room); (case k8 => ktr_units)); intro r' h' tk' F' N' hr'; (try k_sweep); obtain ⟨tr', er'⟩ := hr'; subst er')
  unfold Pure1; k_fill; intro dp un gd fr s Q E X T hpre hdp hun ret; refine wpAny_call ?_; k_dflt (refine' enterP ?k1 ?k2 ?k6 ?k7 ?k8 ?k9 ?kB ?_ ?c2 ?c3 ?c4 ?c5; (case k1 => assumption); (case k2 => assumption); (case k6 => k_is); (case k7 => k_is); (case k8 => ktr_room); (case k9 => exact BindsTo.of_eq rfl); (case c5 => decide); (case kB => exact locs rfl); (case c2 => exact rfl); (case c3 => exact rfl); (case c4 => exact rfl); k_whole; intro L' h' F' N'; (try dsimp only); (try k_fold))
  have hl := tx_len a
  have hlb := tx_len b
  obtain ⟨oa, ob, ha, hb, h0, h1⟩ := hpre
  (repeat' (first | (k_unfold; (try dsimp only)) | (refine id ?_; k_unfold; (try dsimp only)) | (walk1; (all_goals (try (first | ((with_reducible show wpAny _ _ (exec _ _) _ _ _); k_fold) | ((with_reducible show wpAny _ _ (call _ _) _ _ _); k_fold))))) | (dsimp only; first | (walk1; (all_goals (try (first | ((with_reducible show wpAny _ _ (exec _ _) _ _ _); k_fold) | ((with_reducible show wpAny _ _ (call _ _) _ _ _); k_fold))))) | skip) | fail "no step"))
  all_goals (simp only [hl, hlb] at *; rw [tx_seg h0 (by omega)]; refine ret _ _ _ (Fr.keep (by assumption)) ?_; congr 1; rw [Bool.eq_iff_iff]; simp only [St, beq_iff_eq, decide_eq_true_eq]; exact tx_inj (oa.seg _ _) ob)
end Mine
end
-- part B2
section
set_option maxRecDepth 100000
open PySem PySem.W PySem.Calls PyProof.Rows
set_option Elab.async false
namespace Mine
variable (w : World) (mean : ExcName → Option Value) (mg mb : Str → Option Value)

/-- what find_from gives -/
noncomputable def FindF (a b : List Int) (st k : Int) : Prop :=
  (k = -1 ∧ ∀ i, clampP st a.length ≤ i → i + b.length ≤ a.length → St a b i = false) ∨
  (clampP st a.length ≤ k ∧ k + b.length ≤ a.length ∧ St a b k = true ∧ ∀ i, clampP st a.length ≤ i → i < k → St a b i = false)
/-- what find_back gives -/
noncomputable def FindB (a b : List Int) (st k : Int) : Prop :=
  (k = -1 ∧ ∀ i, 0 ≤ i → i ≤ clampP st a.length → i + b.length ≤ a.length → St a b i = false) ∨
  (0 ≤ k ∧ k ≤ clampP st a.length ∧ k + b.length ≤ a.length ∧ St a b k = true ∧ ∀ i, k < i → i ≤ clampP st a.length → i + b.length ≤ a.length → St a b i = false)

set_option maxHeartbeats 4000000
theorem w_find (a b : List Int) (st : Int) (t1 t2 t3) : Pure1 w mean mg mb 79 8 80 (fun _ => Oks a ∧ Oks b ∧ a.length ≤ 100 ∧ b.length ≤ 100) [.str (tx a) t1, .str (tx b) t2, .int st t3] (fun _ r => ∃ k t, r = .int k t ∧ FindF a b st k) := by
  unfold Pure1; k_fill; intro dp un gd fr s Q E X T hpre hdp hun ret; refine wpAny_call ?_; k_dflt (refine' enterP ?k1 ?k2 ?k6 ?k7 ?k8 ?k9 ?kB ?_ ?c2 ?c3 ?c4 ?c5; (case k1 => assumption); (case k2 => assumption); (case k6 => k_is); (case k7 => k_is); (case k8 => ktr_room); (case k9 => exact BindsTo.of_eq rfl); (case c5 => decide); (case kB => exact locs rfl); (case c2 => exact rfl); (case c3 => exact rfl); (case c4 => exact rfl); k_whole; intro L' h' F' N'; (try dsimp only); (try k_fold))
  have hl := tx_len a
  have hlb := tx_len b
  obtain ⟨oa, ob, ha, hb⟩ := hpre
  have hc := clamp_0 st (tx a).length
  k_with_none
  k_with "own ne" => (refine neN ?_; (try dsimp only); first | assumption | exact Ne.symm (by assumption) | exact Nat.ne_of_gt (by assumption) | exact Nat.ne_of_lt (by assumption) | fail "none")
  k_with "own room" => first | exact room1 hdp rfl | fail "none"
  k_with "own units" => first | exact units1 hun rfl | fail "none"
  k_with "eval Call Name" => refine Call_ ?_
  k_with "pyIter ref" => k_extra "my loop"
  k_with "call ref" => (k_here; (with_reducible show wpAny _ _ (call (Value.ref 37) _) _ _ _); k_dflt (refine' Pure1.use (w_clamp _ _ _ _ _ _ _ _) ?k1 ?k2 ?k3 ?k4 ?k5 ?k6 ?k7 ?k8 ?_; (case k1 => k_asm); (case k2 => k_asm); (case k3 => k_asm); (case k4 => k_asm); (case k5 => rfl); (case k6 => ((repeat' apply And.intro) <;> (first | with_reducible assumption | ((with_reducible show Heap.IsList _ _ _); first | exact Heap.IsList.at (by assumption) (Fr.keep (by assumption) _) | exact News.isList (by assumption) (by k_mem) | k_extra "my pre") | exact IntsAre.nil | exact (fun _ hc => absurd hc List.not_mem_nil) | k_extra "my pre" | (first | assumption | exact Nat.le_trans (by assumption) (Nat.le_of_ble_eq_true rfl) | exact Nat.lt_of_le_of_lt (by assumption) (Nat.le_of_ble_eq_true rfl) | exact Int.natCast_nonneg _ | exact Int.le_trans (by assumption) (by decide) | exact Int.lt_of_le_of_lt (by assumption) (by decide) | exact Int.lt_of_lt_of_le (by assumption) (by decide) | ((repeat (rename (@LT.lt Nat _ _ _) ∧ _ => hxx; clear hxx)); (repeat (rename (@Ne Nat _ _) ∧ _ => hxx; clear hxx)); (repeat (rename (@Ne Nat _ _ ∧ _) ∧ _ => hxx; clear hxx)); omega)) | trivial | (dsimp only; omega) | assumption))); (case k7 => ktr_room); (case k8 => ktr_units)); intro r' h' tk' F' N' hr'; (try k_sweep); obtain ⟨tr', er'⟩ := hr'; subst er')
  k_with "call ref" => (k_here; (with_reducible show wpAny _ _ (call (Value.ref 72) _) _ _ _); k_dflt (refine' Pure1.use (w_stands _ _ _ _ _ _ _ _ _ _) ?k1 ?k2 ?k3 ?k4 ?k5 ?k6 ?k7 ?k8 ?_; (case k1 => k_asm); (case k2 => k_asm); (case k3 => k_asm); (case k4 => k_asm); (case k5 => rfl); (case k6 => ((repeat' apply And.intro) <;> (first | with_reducible assumption | ((with_reducible show Heap.IsList _ _ _); first | exact Heap.IsList.at (by assumption) (Fr.keep (by assumption) _) | exact News.isList (by assumption) (by k_mem) | k_extra "my pre") | exact IntsAre.nil | exact (fun _ hc => absurd hc List.not_mem_nil) | k_extra "my pre" | (first | assumption | exact Nat.le_trans (by assumption) (Nat.le_of_ble_eq_true rfl) | exact Nat.lt_of_le_of_lt (by assumption) (Nat.le_of_ble_eq_true rfl) | exact Int.natCast_nonneg _ | exact Int.le_trans (by assumption) (by decide) | exact Int.lt_of_le_of_lt (by assumption) (by decide) | exact Int.lt_of_lt_of_le (by assumption) (by decide) | ((repeat (rename (@LT.lt Nat _ _ _) ∧ _ => hxx; clear hxx)); (repeat (rename (@Ne Nat _ _) ∧ _ => hxx; clear hxx)); (repeat (rename (@Ne Nat _ _ ∧ _) ∧ _ => hxx; clear hxx)); omega)) | trivial | (dsimp only; omega) | assumption))); (case k7 => ktr_room); (case k8 => ktr_units)); intro r' h' tk' F' N' hr'; (try k_sweep); subst hr')
  k_with "my loop" => (k_here; k_dflt ((rename Fr _ _ _ _ => lF'); (rename News _ _ _ _ => lN'); (rename IsRange _ _ _ _ _ _ _ _ => rgX); (with_unfolding_all refine' rng_search (fun k => St a b k = false) (by rfl) rgX ?b1 ?b2 ?b3 ?b4 lF' lN' ?_ ?_); (case b1 => omega); (case b2 => omega); (case b3 => omega); (case b4 => omega); (all_goals clear lF' lN' rgX); rotate_left; (intro uL' h' tk' kP F' N'); rotate_left; (intro k t' h' tk' own' k1 k2 kP kOff F' N'); (all_goals (try dsimp only [envOf] at F' N')); (all_goals (try simp only [List.nil_append, List.cons_append] at N')); (all_goals (try k_fold))))
  (repeat' (first | (k_unfold; (try dsimp only)) | (refine id ?_; k_unfold; (try dsimp only)) | (walk1; (all_goals (try (first | ((with_reducible show wpAny _ _ (exec _ _) _ _ _); k_fold) | ((with_reducible show wpAny _ _ (call _ _) _ _ _); k_fold))))) | (dsimp only; first | (walk1; (all_goals (try (first | ((with_reducible show wpAny _ _ (exec _ _) _ _ _); k_fold) | ((with_reducible show wpAny _ _ (call _ _) _ _ _); k_fold))))) | skip) | fail "no step"))
  all_goals try (first
    | (refine srch_end (by assumption) (by assumption) ?s1 ?s2 ?s3; (case s1 => (intro p hp; simpa using hp)); (case s2 => (intro z hz; first | rfl | ((try dsimp only); rw [if_neg hz]))); (case s3 => assumption))
    | (simp only [hl, hlb] at *; first
      | exact ret _ _ _ (Fr.keep (by assumption)) ⟨_, _, rfl, .inr ⟨k1, by omega, by assumption, kP⟩⟩
      | exact ret _ _ _ (Fr.keep (by assumption)) ⟨_, _, rfl, .inl ⟨rfl, fun i h1 h2 => kP i h1 (by omega)⟩⟩))
  all_goals (refine srch_end (by assumption) (by assumption) ?s1 ?s2 ?s3; (case s1 => (intro p hp; simpa using hp)); (case s2 => (intro z hz; first | rfl | ((try dsimp only); rw [if_neg hz]))); (case s3 => assumption))
theorem w_findB (a b : List Int) (st : Int) (t1 t2 t3) : Pure1 w mean mg mb 86 8 80 (fun _ => Oks a ∧ Oks b ∧ a.length ≤ 100 ∧ b.length ≤ 100) [.str (tx a) t1, .str (tx b) t2, .int st t3] (fun _ r => ∃ k t, r = .int k t ∧ FindB a b st k) := by
  unfold Pure1; k_fill; intro dp un gd fr s Q E X T hpre hdp hun ret; refine wpAny_call ?_; k_dflt (refine' enterP ?k1 ?k2 ?k6 ?k7 ?k8 ?k9 ?kB ?_ ?c2 ?c3 ?c4 ?c5; (case k1 => assumption); (case k2 => assumption); (case k6 => k_is); (case k7 => k_is); (case k8 => ktr_room); (case k9 => exact BindsTo.of_eq rfl); (case c5 => decide); (case kB => exact locs rfl); (case c2 => exact rfl); (case c3 => exact rfl); (case c4 => exact rfl); k_whole; intro L' h' F' N'; (try dsimp only); (try k_fold))
  have hl := tx_len a
  have hlb := tx_len b
  obtain ⟨oa, ob, ha, hb⟩ := hpre
  have hc := clamp_0 st (tx a).length
  k_with_none
  k_with "own ne" => (refine neN ?_; (try dsimp only); first | assumption | exact Ne.symm (by assumption) | exact Nat.ne_of_gt (by assumption) | exact Nat.ne_of_lt (by assumption) | fail "none")
  k_with "own room" => first | exact room1 hdp rfl | fail "none"
  k_with "own units" => first | exact units1 hun rfl | fail "none"
  k_with "eval Call Name" => refine Call_ ?_
  k_with "pyIter ref" => k_extra "my loop"
  k_with "call ref" => (k_here; (with_reducible show wpAny _ _ (call (Value.ref 37) _) _ _ _); k_dflt (refine' Pure1.use (w_clamp _ _ _ _ _ _ _ _) ?k1 ?k2 ?k3 ?k4 ?k5 ?k6 ?k7 ?k8 ?_; (case k1 => k_asm); (case k2 => k_asm); (case k3 => k_asm); (case k4 => k_asm); (case k5 => rfl); (case k6 => ((repeat' apply And.intro) <;> (first | with_reducible assumption | ((with_reducible show Heap.IsList _ _ _); first | exact Heap.IsList.at (by assumption) (Fr.keep (by assumption) _) | exact News.isList (by assumption) (by k_mem) | k_extra "my pre") | exact IntsAre.nil | exact (fun _ hc => absurd hc List.not_mem_nil) | k_extra "my pre" | (first | assumption | exact Nat.le_trans (by assumption) (Nat.le_of_ble_eq_true rfl) | exact Nat.lt_of_le_of_lt (by assumption) (Nat.le_of_ble_eq_true rfl) | exact Int.natCast_nonneg _ | exact Int.le_trans (by assumption) (by decide) | exact Int.lt_of_le_of_lt (by assumption) (by decide) | exact Int.lt_of_lt_of_le (by assumption) (by decide) | ((repeat (rename (@LT.lt Nat _ _ _) ∧ _ => hxx; clear hxx)); (repeat (rename (@Ne Nat _ _) ∧ _ => hxx; clear hxx)); (repeat (rename (@Ne Nat _ _ ∧ _) ∧ _ => hxx; clear hxx)); omega)) | trivial | (dsimp only; omega) | assumption))); (case k7 => ktr_room); (case k8 => ktr_units)); intro r' h' tk' F' N' hr'; (try k_sweep); obtain ⟨tr', er'⟩ := hr'; subst er')
  k_with "call ref" => (k_here; (with_reducible show wpAny _ _ (call (Value.ref 72) _) _ _ _); k_dflt (refine' Pure1.use (w_stands _ _ _ _ _ _ _ _ _ _) ?k1 ?k2 ?k3 ?k4 ?k5 ?k6 ?k7 ?k8 ?_; (case k1 => k_asm); (case k2 => k_asm); (case k3 => k_asm); (case k4 => k_asm); (case k5 => rfl); (case k6 => ((repeat' apply And.intro) <;> (first | with_reducible assumption | ((with_reducible show Heap.IsList _ _ _); first | exact Heap.IsList.at (by assumption) (Fr.keep (by assumption) _) | exact News.isList (by assumption) (by k_mem) | k_extra "my pre") | exact IntsAre.nil | exact (fun _ hc => absurd hc List.not_mem_nil) | k_extra "my pre" | (first | assumption | exact Nat.le_trans (by assumption) (Nat.le_of_ble_eq_true rfl) | exact Nat.lt_of_le_of_lt (by assumption) (Nat.le_of_ble_eq_true rfl) | exact Int.natCast_nonneg _ | exact Int.le_trans (by assumption) (by decide) | exact Int.lt_of_le_of_lt (by assumption) (by decide) | exact Int.lt_of_lt_of_le (by assumption) (by decide) | ((repeat (rename (@LT.lt Nat _ _ _) ∧ _ => hxx; clear hxx)); (repeat (rename (@Ne Nat _ _) ∧ _ => hxx; clear hxx)); (repeat (rename (@Ne Nat _ _ ∧ _) ∧ _ => hxx; clear hxx)); omega)) | trivial | (dsimp only; omega) | assumption))); (case k7 => ktr_room); (case k8 => ktr_units)); intro r' h' tk' F' N' hr'; (try k_sweep); subst hr')
  k_with "my loop" => (k_here; k_dflt ((rename Fr _ _ _ _ => lF'); (rename News _ _ _ _ => lN'); (rename IsRange _ _ _ _ _ _ _ _ => rgX); (with_unfolding_all refine' rng_searchD (fun k => St a b k = false) (by rfl) rgX ?b1 ?b2 ?b3 ?b4 lF' lN' ?_ ?_); (case b1 => first | omega | (split <;> omega)); (case b2 => first | omega | (split <;> omega)); (case b3 => first | omega | (split <;> omega)); (case b4 => first | omega | (split <;> omega)); (all_goals clear lF' lN' rgX); rotate_left; (intro uL' h' tk' kP F' N'); rotate_left; (intro k t' h' tk' own' k1 k2 kP kOff F' N'); (all_goals (try dsimp only [envOf] at F' N')); (all_goals (try simp only [List.nil_append, List.cons_append] at N')); (all_goals (try k_fold))))
  (repeat' (first | (k_unfold; (try dsimp only)) | (refine id ?_; k_unfold; (try dsimp only)) | (walk1; (all_goals (try (first | ((with_reducible show wpAny _ _ (exec _ _) _ _ _); k_fold) | ((with_reducible show wpAny _ _ (call _ _) _ _ _); k_fold))))) | (dsimp only; first | (walk1; (all_goals (try (first | ((with_reducible show wpAny _ _ (exec _ _) _ _ _); k_fold) | ((with_reducible show wpAny _ _ (call _ _) _ _ _); k_fold))))) | skip) | fail "no step"))
  all_goals try (first
    | (refine srch_end (by assumption) (by assumption) ?s1 ?s2 ?s3; (case s1 => (intro p hp; simpa using hp)); (case s2 => (intro z hz; first | rfl | ((try dsimp only); rw [if_neg hz]))); (case s3 => assumption))
    | (simp only [hl, hlb] at *; first
      | exact ret _ _ _ (Fr.keep (by assumption)) ⟨_, _, rfl, .inr ⟨by omega, by (revert k1; split <;> omega), by (revert k1; split <;> omega), by assumption, fun i h1 h2 h3 => kP i (by split <;> omega) h1⟩⟩
      | exact ret _ _ _ (Fr.keep (by assumption)) ⟨_, _, rfl, .inl ⟨rfl, fun i h0 h1 h2 => kP i (by split <;> omega) (by omega)⟩⟩))
end Mine
end
-- part B3
section
set_option maxRecDepth 100000
open PySem PySem.W PySem.Calls PyProof.Rows
set_option Elab.async false
namespace Mine
variable (w : World) (mean : ExcName → Option Value) (mg mb : Str → Option Value)

noncomputable def isW (c : Int) : Bool := (decide (c = 9) || (decide (c = 11) || (decide (c = 12) || (decide (c = 32) || (decide (c = 160) || (decide (c = 5760) || (decide (c = 6158) || (decide (c = 8239) || (decide (c = 8287) || (decide (c = 12288) || (decide (c = 65279) || false)))))))))))
  || (decide (8192 ≤ c) && decide (c ≤ 8202))
noncomputable def isL (c : Int) : Bool := decide (c = 10) || (decide (c = 13) || (decide (c = 8232) || (decide (c = 8233) || false)))
theorem isW_1 {b x y : Bool} (h : b = true) : b = (b || (x && y)) := by subst h; rfl
theorem isW_2 {c : Int} {b : Bool} (h : b = false) (k : 8192 ≤ c) : decide (c ≤ 8202) = (b || (decide (8192 ≤ c) && decide (c ≤ 8202))) := by simp [h, k]
theorem isW_3 {c : Int} {b : Bool} (h : b = false) (k : ¬ 8192 ≤ c) : decide (8192 ≤ c) = (b || (decide (8192 ≤ c) && decide (c ≤ 8202))) := by simp [h, k]

set_option maxHeartbeats 4000000
theorem w_white (c : Int) (t1) : Pure1 w mean mg mb 23 4 40 (fun _ => True) [.int c t1] (fun _ r => r = .bool (isW c)) := by
  unfold Pure1; k_fill; intro dp un gd fr s Q E X T hpre hdp hun ret; refine wpAny_call ?_; k_dflt (refine' enterP ?k1 ?k2 ?k6 ?k7 ?k8 ?k9 ?kB ?_ ?c2 ?c3 ?c4 ?c5; (case k1 => assumption); (case k2 => assumption); (case k6 => k_is); (case k7 => k_is); (case k8 => ktr_room); (case k9 => exact BindsTo.of_eq rfl); (case c5 => decide); (case kB => exact locs rfl); (case c2 => exact rfl); (case c3 => exact rfl); (case c4 => exact rfl); k_whole; intro L' h' F' N'; (try dsimp only); (try k_fold))
  k_with_none
  k_with "own ne" => (refine neN ?_; (try dsimp only); first | assumption | exact Ne.symm (by assumption) | exact Nat.ne_of_gt (by assumption) | exact Nat.ne_of_lt (by assumption) | fail "none")
  k_with "own room" => first | exact room1 hdp rfl | fail "none"
  k_with "own units" => first | exact units1 hun rfl | fail "none"
  k_with "eval Call Name" => refine Call_ ?_
  k_with "pyIter ref" => k_extra "my loop"
  (repeat' (first | (k_unfold; (try dsimp only)) | (refine id ?_; k_unfold; (try dsimp only)) | (walk1; (all_goals (try (first | ((with_reducible show wpAny _ _ (exec _ _) _ _ _); k_fold) | ((with_reducible show wpAny _ _ (call _ _) _ _ _); k_fold))))) | (dsimp only; first | (walk1; (all_goals (try (first | ((with_reducible show wpAny _ _ (exec _ _) _ _ _); k_fold) | ((with_reducible show wpAny _ _ (call _ _) _ _ _); k_fold))))) | skip) | fail "no step"))
  all_goals (refine ret _ _ _ (Fr.keep (by assumption)) (congrArg Value.bool ?_); first | exact isW_1 (by assumption) | exact isW_2 (by assumption) (by assumption) | exact isW_3 (by assumption) (by assumption))
theorem w_line (c : Int) (t1) : Pure1 w mean mg mb 30 4 40 (fun _ => True) [.int c t1] (fun _ r => r = .bool (isL c)) := by
  unfold Pure1; k_fill; intro dp un gd fr s Q E X T hpre hdp hun ret; refine wpAny_call ?_; k_dflt (refine' enterP ?k1 ?k2 ?k6 ?k7 ?k8 ?k9 ?kB ?_ ?c2 ?c3 ?c4 ?c5; (case k1 => assumption); (case k2 => assumption); (case k6 => k_is); (case k7 => k_is); (case k8 => ktr_room); (case k9 => exact BindsTo.of_eq rfl); (case c5 => decide); (case kB => exact locs rfl); (case c2 => exact rfl); (case c3 => exact rfl); (case c4 => exact rfl); k_whole; intro L' h' F' N'; (try dsimp only); (try k_fold))
  k_with_none
  k_with "own ne" => (refine neN ?_; (try dsimp only); first | assumption | exact Ne.symm (by assumption) | exact Nat.ne_of_gt (by assumption) | exact Nat.ne_of_lt (by assumption) | fail "none")
  k_with "own room" => first | exact room1 hdp rfl | fail "none"
  k_with "own units" => first | exact units1 hun rfl | fail "none"
  k_with "eval Call Name" => refine Call_ ?_
  k_with "pyIter ref" => k_extra "my loop"
  (repeat' (first | (k_unfold; (try dsimp only)) | (refine id ?_; k_unfold; (try dsimp only)) | (walk1; (all_goals (try (first | ((with_reducible show wpAny _ _ (exec _ _) _ _ _); k_fold) | ((with_reducible show wpAny _ _ (call _ _) _ _ _); k_fold))))) | (dsimp only; first | (walk1; (all_goals (try (first | ((with_reducible show wpAny _ _ (exec _ _) _ _ _); k_fold) | ((with_reducible show wpAny _ _ (call _ _) _ _ _); k_fold))))) | skip) | fail "no step"))
  all_goals (exact ret _ _ _ (Fr.keep (by assumption)) rfl)
theorem w_blank (c : Int) (t1) : Pure1 w mean mg mb 100 6 60 (fun _ => 0 ≤ c ∧ c ≤ 1114111) [.str (tx [c]) t1] (fun _ r => r = .bool (isW c || isL c)) := by
  unfold Pure1; k_fill; intro dp un gd fr s Q E X T hpre hdp hun ret; refine wpAny_call ?_; k_dflt (refine' enterP ?k1 ?k2 ?k6 ?k7 ?k8 ?k9 ?kB ?_ ?c2 ?c3 ?c4 ?c5; (case k1 => assumption); (case k2 => assumption); (case k6 => k_is); (case k7 => k_is); (case k8 => ktr_room); (case k9 => exact BindsTo.of_eq rfl); (case c5 => decide); (case kB => exact locs rfl); (case c2 => exact rfl); (case c3 => exact rfl); (case c4 => exact rfl); k_whole; intro L' h' F' N'; (try dsimp only); (try k_fold))
  k_with_none
  k_with "own ne" => (refine neN ?_; (try dsimp only); first | assumption | exact Ne.symm (by assumption) | exact Nat.ne_of_gt (by assumption) | exact Nat.ne_of_lt (by assumption) | fail "none")
  k_with "own room" => first | exact room1 hdp rfl | fail "none"
  k_with "own units" => first | exact units1 hun rfl | fail "none"
  k_with "eval Call Name" => refine Call_ ?_
  k_with "pyIter ref" => k_extra "my loop"
  k_with "call ref" => (k_here; (with_reducible show wpAny _ _ (call (Value.ref 23) _) _ _ _); k_dflt (refine' Pure1.use (w_white _ _ _ _ _ _) ?k1 ?k2 ?k3 ?k4 ?k5 ?k6 ?k7 ?k8 ?_; (case k1 => k_asm); (case k2 => k_asm); (case k3 => k_asm); (case k4 => k_asm); (case k5 => rfl); (case k6 => ((repeat' apply And.intro) <;> (first | with_reducible assumption | ((with_reducible show Heap.IsList _ _ _); first | exact Heap.IsList.at (by assumption) (Fr.keep (by assumption) _) | exact News.isList (by assumption) (by k_mem) | k_extra "my pre") | exact IntsAre.nil | exact (fun _ hc => absurd hc List.not_mem_nil) | k_extra "my pre" | (first | assumption | exact Nat.le_trans (by assumption) (Nat.le_of_ble_eq_true rfl) | exact Nat.lt_of_le_of_lt (by assumption) (Nat.le_of_ble_eq_true rfl) | exact Int.natCast_nonneg _ | exact Int.le_trans (by assumption) (by decide) | exact Int.lt_of_le_of_lt (by assumption) (by decide) | exact Int.lt_of_lt_of_le (by assumption) (by decide) | ((repeat (rename (@LT.lt Nat _ _ _) ∧ _ => hxx; clear hxx)); (repeat (rename (@Ne Nat _ _) ∧ _ => hxx; clear hxx)); (repeat (rename (@Ne Nat _ _ ∧ _) ∧ _ => hxx; clear hxx)); omega)) | trivial | (dsimp only; omega) | assumption))); (case k7 => ktr_room); (case k8 => ktr_units)); intro r' h' tk' F' N' hr'; (try k_sweep); subst hr')
  k_with "call ref" => (k_here; (with_reducible show wpAny _ _ (call (Value.ref 30) _) _ _ _); k_dflt (refine' Pure1.use (w_line _ _ _ _ _ _) ?k1 ?k2 ?k3 ?k4 ?k5 ?k6 ?k7 ?k8 ?_; (case k1 => k_asm); (case k2 => k_asm); (case k3 => k_asm); (case k4 => k_asm); (case k5 => rfl); (case k6 => ((repeat' apply And.intro) <;> (first | with_reducible assumption | ((with_reducible show Heap.IsList _ _ _); first | exact Heap.IsList.at (by assumption) (Fr.keep (by assumption) _) | exact News.isList (by assumption) (by k_mem) | k_extra "my pre") | exact IntsAre.nil | exact (fun _ hc => absurd hc List.not_mem_nil) | k_extra "my pre" | (first | assumption | exact Nat.le_trans (by assumption) (Nat.le_of_ble_eq_true rfl) | exact Nat.lt_of_le_of_lt (by assumption) (Nat.le_of_ble_eq_true rfl) | exact Int.natCast_nonneg _ | exact Int.le_trans (by assumption) (by decide) | exact Int.lt_of_le_of_lt (by assumption) (by decide) | exact Int.lt_of_lt_of_le (by assumption) (by decide) | ((repeat (rename (@LT.lt Nat _ _ _) ∧ _ => hxx; clear hxx)); (repeat (rename (@Ne Nat _ _) ∧ _ => hxx; clear hxx)); (repeat (rename (@Ne Nat _ _ ∧ _) ∧ _ => hxx; clear hxx)); omega)) | trivial | (dsimp only; omega) | assumption))); (case k7 => ktr_room); (case k8 => ktr_units)); intro r' h' tk' F' N' hr'; (try k_sweep); subst hr')
  have ec : (c.toNat : Int) = c := by omega
  (repeat' (first | (k_unfold; (try dsimp only)) | (refine id ?_; k_unfold; (try dsimp only)) | (walk1; (all_goals (try (first | ((with_reducible show wpAny _ _ (exec _ _) _ _ _); k_fold) | ((with_reducible show wpAny _ _ (call _ _) _ _ _); k_fold))))) | (dsimp only; first | (walk1; (all_goals (try (first | ((with_reducible show wpAny _ _ (exec _ _) _ _ _); k_fold) | ((with_reducible show wpAny _ _ (call _ _) _ _ _); k_fold))))) | skip) | fail "no step"))
  all_goals (rw [ec] at *; refine ret _ _ _ (Fr.keep (by assumption)) (congrArg Value.bool ?_); rename_i hw9; first | (rw [hw9]; rfl) | (simp [*]; done))
theorem w_putin (a p : List Int) (at' many : Int) (t1 t2 t3 t4) : Pure1 w mean mg mb 121 4 40 (fun _ => a.length ≤ 1000 ∧ p.length ≤ 1000 ∧ 0 ≤ at' ∧ 0 ≤ many ∧ at' ≤ 1000 ∧ many ≤ 1000) [.str (tx a) t1, .int at' t2, .int many t3, .str (tx p) t4]
   (fun _ r => ∃ t, r = .str (tx (a.take at'.toNat ++ p ++ a.drop (at' + many).toNat)) t) := by
  unfold Pure1; k_fill; intro dp un gd fr s Q E X T hpre hdp hun ret; refine wpAny_call ?_; k_dflt (refine' enterP ?k1 ?k2 ?k6 ?k7 ?k8 ?k9 ?kB ?_ ?c2 ?c3 ?c4 ?c5; (case k1 => assumption); (case k2 => assumption); (case k6 => k_is); (case k7 => k_is); (case k8 => ktr_room); (case k9 => exact BindsTo.of_eq rfl); (case c5 => decide); (case kB => exact locs rfl); (case c2 => exact rfl); (case c3 => exact rfl); (case c4 => exact rfl); k_whole; intro L' h' F' N'; (try dsimp only); (try k_fold))
  k_with_none
  k_with "own ne" => (refine neN ?_; (try dsimp only); first | assumption | exact Ne.symm (by assumption) | exact Nat.ne_of_gt (by assumption) | exact Nat.ne_of_lt (by assumption) | fail "none")
  k_with "own room" => first | exact room1 hdp rfl | fail "none"
  k_with "own units" => first | exact units1 hun rfl | fail "none"
  k_with "eval Call Name" => refine Call_ ?_
  k_with "pyIter ref" => k_extra "my loop"
  k_with "call ref" => (k_here; (with_reducible show wpAny _ _ (call (Value.ref 23) _) _ _ _); k_dflt (refine' Pure1.use (w_white _ _ _ _ _ _) ?k1 ?k2 ?k3 ?k4 ?k5 ?k6 ?k7 ?k8 ?_; (case k1 => k_asm); (case k2 => k_asm); (case k3 => k_asm); (case k4 => k_asm); (case k5 => rfl); (case k6 => ((repeat' apply And.intro) <;> (first | with_reducible assumption | ((with_reducible show Heap.IsList _ _ _); first | exact Heap.IsList.at (by assumption) (Fr.keep (by assumption) _) | exact News.isList (by assumption) (by k_mem) | k_extra "my pre") | exact IntsAre.nil | exact (fun _ hc => absurd hc List.not_mem_nil) | k_extra "my pre" | (first | assumption | exact Nat.le_trans (by assumption) (Nat.le_of_ble_eq_true rfl) | exact Nat.lt_of_le_of_lt (by assumption) (Nat.le_of_ble_eq_true rfl) | exact Int.natCast_nonneg _ | exact Int.le_trans (by assumption) (by decide) | exact Int.lt_of_le_of_lt (by assumption) (by decide) | exact Int.lt_of_lt_of_le (by assumption) (by decide) | ((repeat (rename (@LT.lt Nat _ _ _) ∧ _ => hxx; clear hxx)); (repeat (rename (@Ne Nat _ _) ∧ _ => hxx; clear hxx)); (repeat (rename (@Ne Nat _ _ ∧ _) ∧ _ => hxx; clear hxx)); omega)) | trivial | (dsimp only; omega) | assumption))); (case k7 => ktr_room); (case k8 => ktr_units)); intro r' h' tk' F' N' hr'; (try k_sweep); subst hr')
  k_with "call ref" => (k_here; (with_reducible show wpAny _ _ (call (Value.ref 30) _) _ _ _); k_dflt (refine' Pure1.use (w_line _ _ _ _ _ _) ?k1 ?k2 ?k3 ?k4 ?k5 ?k6 ?k7 ?k8 ?_; (case k1 => k_asm); (case k2 => k_asm); (case k3 => k_asm); (case k4 => k_asm); (case k5 => rfl); (case k6 => ((repeat' apply And.intro) <;> (first | with_reducible assumption | ((with_reducible show Heap.IsList _ _ _); first | exact Heap.IsList.at (by assumption) (Fr.keep (by assumption) _) | exact News.isList (by assumption) (by k_mem) | k_extra "my pre") | exact IntsAre.nil | exact (fun _ hc => absurd hc List.not_mem_nil) | k_extra "my pre" | (first | assumption | exact Nat.le_trans (by assumption) (Nat.le_of_ble_eq_true rfl) | exact Nat.lt_of_le_of_lt (by assumption) (Nat.le_of_ble_eq_true rfl) | exact Int.natCast_nonneg _ | exact Int.le_trans (by assumption) (by decide) | exact Int.lt_of_le_of_lt (by assumption) (by decide) | exact Int.lt_of_lt_of_le (by assumption) (by decide) | ((repeat (rename (@LT.lt Nat _ _ _) ∧ _ => hxx; clear hxx)); (repeat (rename (@Ne Nat _ _) ∧ _ => hxx; clear hxx)); (repeat (rename (@Ne Nat _ _ ∧ _) ∧ _ => hxx; clear hxx)); omega)) | trivial | (dsimp only; omega) | assumption))); (case k7 => ktr_room); (case k8 => ktr_units)); intro r' h' tk' F' N' hr'; (try k_sweep); subst hr')
  have hl := tx_len a
  have hlp := tx_len p
  (repeat' (first | (k_unfold; (try dsimp only)) | (refine id ?_; k_unfold; (try dsimp only)) | (walk1; (all_goals (try (first | ((with_reducible show wpAny _ _ (exec _ _) _ _ _); k_fold) | ((with_reducible show wpAny _ _ (call _ _) _ _ _); k_fold))))) | (dsimp only; first | (walk1; (all_goals (try (first | ((with_reducible show wpAny _ _ (exec _ _) _ _ _); k_fold) | ((with_reducible show wpAny _ _ (call _ _) _ _ _); k_fold))))) | skip) | fail "no step"))
  all_goals (rw [tx_slice_to (by omega), tx_slice_from (by omega), tx_app, tx_app]; exact ret _ _ _ (Fr.keep (by assumption)) ⟨_, rfl⟩)
/-- joined with a text between -/
noncomputable def joinL (sp : List Int) : List (List Int) → List Int
  | [] => []
  | [x] => x
  | x :: y :: r => x ++ sp ++ joinL sp (y :: r)
theorem tx_join (sp : List Int) : ∀ L : List (List Int), Txt.join (tx sp) (L.map tx) = tx (joinL sp L)
  | [] => rfl
  | [x] => by
    have : Txt.join (tx sp) [tx x] = Str.join (tx sp) [tx x] := StrLaws.glued_eq_join _ _
    rw [List.map_cons, List.map_nil, this]; rfl
  | x :: y :: r => by
    have ih := tx_join sp (y :: r)
    have e : ∀ l, Txt.join (tx sp) l = Str.join (tx sp) l := fun l => StrLaws.glued_eq_join _ _
    rw [e] at ih ⊢
    rw [List.map_cons, List.map_cons]
    rw [List.map_cons] at ih
    show tx x ++ tx sp ++ Str.join (tx sp) (tx y :: r.map tx) = _
    rw [ih, tx_app, tx_app]
    rfl
theorem joinL_ones : ∀ cs : List Int, joinL [] (cs.map fun c => [c]) = cs
  | [] => rfl
  | [x] => rfl
  | x :: y :: r => by
    have ih := joinL_ones (y :: r)
    rw [List.map_cons] at ih
    show [x] ++ [] ++ joinL [] ([y] :: r.map fun c => [c]) = _
    rw [ih]; rfl
theorem filt_all {α : Type} (l : List α) : l.filter (fun _ => true) = l := List.filter_eq_self.mpr fun _ _ => rfl
theorem join_ones_tx (cs : List Int) : Txt.join (Str.ofString "") (cs.map fun a => (⟨#[a.toNat]⟩ : Str)) = tx cs := by
  rw [← tx_nil]
  have : (cs.map fun a => (⟨#[a.toNat]⟩ : Str)) = (cs.map fun c => [c]).map tx := by rw [List.map_map]; rfl
  rw [this, tx_join, joinL_ones]
theorem w_textfrom (l : Addr) (vs : List Value) (cs : List Int) : Pure1 w mean mg mb 133 8 80 (fun h => h.IsList l vs.toArray ∧ IntsAre vs cs ∧ Oks cs ∧ cs.length ≤ 1000) [.ref l]
   (fun _ r => ∃ t, r = .str (tx cs) t) := by
  unfold Pure1; k_fill; intro dp un gd fr s Q E X T hpre hdp hun ret; refine wpAny_call ?_; k_dflt (refine' enterP ?k1 ?k2 ?k6 ?k7 ?k8 ?k9 ?kB ?_ ?c2 ?c3 ?c4 ?c5; (case k1 => assumption); (case k2 => assumption); (case k6 => k_is); (case k7 => k_is); (case k8 => ktr_room); (case k9 => exact BindsTo.of_eq rfl); (case c5 => decide); (case kB => exact locs rfl); (case c2 => exact rfl); (case c3 => exact rfl); (case c4 => exact rfl); k_whole; intro L' h' F' N'; (try dsimp only); (try k_fold))
  k_with_none
  k_with "own ne" => (refine neN ?_; (try dsimp only); first | assumption | exact Ne.symm (by assumption) | exact Nat.ne_of_gt (by assumption) | exact Nat.ne_of_lt (by assumption) | fail "none")
  k_with "own room" => first | exact room1 hdp rfl | fail "none"
  k_with "own units" => first | exact units1 hun rfl | fail "none"
  k_with "eval Call Name" => refine Call_ ?_
  k_with "pyIter ref" => k_extra "my loop"
  k_with "call ref" => (k_here; (with_reducible show wpAny _ _ (call (Value.ref 23) _) _ _ _); k_dflt (refine' Pure1.use (w_white _ _ _ _ _ _) ?k1 ?k2 ?k3 ?k4 ?k5 ?k6 ?k7 ?k8 ?_; (case k1 => k_asm); (case k2 => k_asm); (case k3 => k_asm); (case k4 => k_asm); (case k5 => rfl); (case k6 => ((repeat' apply And.intro) <;> (first | with_reducible assumption | ((with_reducible show Heap.IsList _ _ _); first | exact Heap.IsList.at (by assumption) (Fr.keep (by assumption) _) | exact News.isList (by assumption) (by k_mem) | k_extra "my pre") | exact IntsAre.nil | exact (fun _ hc => absurd hc List.not_mem_nil) | k_extra "my pre" | (first | assumption | exact Nat.le_trans (by assumption) (Nat.le_of_ble_eq_true rfl) | exact Nat.lt_of_le_of_lt (by assumption) (Nat.le_of_ble_eq_true rfl) | exact Int.natCast_nonneg _ | exact Int.le_trans (by assumption) (by decide) | exact Int.lt_of_le_of_lt (by assumption) (by decide) | exact Int.lt_of_lt_of_le (by assumption) (by decide) | ((repeat (rename (@LT.lt Nat _ _ _) ∧ _ => hxx; clear hxx)); (repeat (rename (@Ne Nat _ _) ∧ _ => hxx; clear hxx)); (repeat (rename (@Ne Nat _ _ ∧ _) ∧ _ => hxx; clear hxx)); omega)) | trivial | (dsimp only; omega) | assumption))); (case k7 => ktr_room); (case k8 => ktr_units)); intro r' h' tk' F' N' hr'; (try k_sweep); subst hr')
  k_with "call ref" => (k_here; (with_reducible show wpAny _ _ (call (Value.ref 30) _) _ _ _); k_dflt (refine' Pure1.use (w_line _ _ _ _ _ _) ?k1 ?k2 ?k3 ?k4 ?k5 ?k6 ?k7 ?k8 ?_; (case k1 => k_asm); (case k2 => k_asm); (case k3 => k_asm); (case k4 => k_asm); (case k5 => rfl); (case k6 => ((repeat' apply And.intro) <;> (first | with_reducible assumption | ((with_reducible show Heap.IsList _ _ _); first | exact Heap.IsList.at (by assumption) (Fr.keep (by assumption) _) | exact News.isList (by assumption) (by k_mem) | k_extra "my pre") | exact IntsAre.nil | exact (fun _ hc => absurd hc List.not_mem_nil) | k_extra "my pre" | (first | assumption | exact Nat.le_trans (by assumption) (Nat.le_of_ble_eq_true rfl) | exact Nat.lt_of_le_of_lt (by assumption) (Nat.le_of_ble_eq_true rfl) | exact Int.natCast_nonneg _ | exact Int.le_trans (by assumption) (by decide) | exact Int.lt_of_le_of_lt (by assumption) (by decide) | exact Int.lt_of_lt_of_le (by assumption) (by decide) | ((repeat (rename (@LT.lt Nat _ _ _) ∧ _ => hxx; clear hxx)); (repeat (rename (@Ne Nat _ _) ∧ _ => hxx; clear hxx)); (repeat (rename (@Ne Nat _ _ ∧ _) ∧ _ => hxx; clear hxx)); omega)) | trivial | (dsimp only; omega) | assumption))); (case k7 => ktr_room); (case k8 => ktr_units)); intro r' h' tk' F' N' hr'; (try k_sweep); subst hr')
  k_with "call builtin:chr" => k_extra "my chr"
  k_with "call builtin:str.join" => k_extra "my join"
  obtain ⟨hl, hi, ho, hz⟩ := hpre
  k_with "my chr" => ((have hc9 := ho _ (by with_reducible assumption)); refine chr_of_range hc9.1 hc9.2 ?_)
  (repeat' (first | (k_unfold; (try dsimp only)) | (refine id ?_; k_unfold; (try dsimp only)) | (walk1; (all_goals (try (first | ((with_reducible show wpAny _ _ (exec _ _) _ _ _); k_fold) | ((with_reducible show wpAny _ _ (call _ _) _ _ _); k_fold))))) | (dsimp only; first | (walk1; (all_goals (try (first | ((with_reducible show wpAny _ _ (exec _ _) _ _ _); k_fold) | ((with_reducible show wpAny _ _ (call _ _) _ _ _); k_fold))))) | skip) | fail "no step"))
  all_goals (simp only [join_ones_tx, filt_all]; exact ret _ _ _ (Fr.keep (by assumption)) ⟨_, rfl⟩)
end Mine
end
-- part B4
section
set_option maxRecDepth 100000
open PySem PySem.W PySem.Calls PyProof.Rows
set_option Elab.async false
namespace Mine
variable (w : World) (mean : ExcName → Option Value) (mg mb : Str → Option Value)

/-- the sign at i -/
noncomputable def sg (a : List Int) (i : Int) : Int := a.getD i.toNat 0
theorem sg_ok {a : List Int} (h : Oks a) {i : Int} (h0 : 0 ≤ i) (h1 : i < a.length) : 0 ≤ sg a i ∧ sg a i ≤ 1114111 := by
  have hi : i.toNat < a.length := by omega
  unfold sg
  rw [List.getD_eq_getElem?_getD, List.getElem?_eq_getElem hi]
  exact h _ (List.getElem_mem hi)
theorem tx_item {a : List Int} {i : Int} (h0 : 0 ≤ i) (h1 : i < a.length) : Txt.item (tx a) i = tx [sg a i] := by
  have hi : i.toNat < a.length := by omega
  rw [item_at h0 (by rw [tx_len]; exact h1) rfl]
  unfold sg tx
  rw [List.getD_eq_getElem?_getD, List.getElem?_eq_getElem hi]
  simp [hi]

/-- the order of two rows of signs -/
noncomputable def ordL : List Int → List Int → Int
  | [], [] => 0
  | [], _ :: _ => -1
  | _ :: _, [] => 1
  | x :: a, y :: b => if x = y then ordL a b else if x < y then -1 else 1
theorem ordL_skip : ∀ (k : Nat) {a b : List Int}, (∀ i, i < k → a.getD i 0 = b.getD i 0) → k ≤ a.length → k ≤ b.length → ordL a b = ordL (a.drop k) (b.drop k)
  | 0, _, _, _, _, _ => by simp
  | k + 1, [], _, _, h, _ => by simp at h
  | k + 1, _ :: _, [], _, _, h => by simp at h
  | k + 1, x :: a, y :: b, h, h1, h2 => by
    have e : x = y := by simpa using h 0 (by omega)
    have ih := ordL_skip k (a := a) (b := b) (fun i hi => by simpa using h (i + 1) (by omega)) (by simpa using h1) (by simpa using h2)
    subst e
    simp only [ordL, if_true, List.drop_succ_cons]
    exact ih
theorem ordL_at {a b : List Int} {k : Int} (h0 : 0 ≤ k) (h1 : k < a.length) (h2 : k < b.length) (h : ∀ i, 0 ≤ i → i < k → sg a i = sg b i) (hn : sg a k ≠ sg b k) : ordL a b = if sg a k < sg b k then -1 else 1 := by
  have hi : k.toNat < a.length := by omega
  have hj : k.toNat < b.length := by omega
  rw [ordL_skip k.toNat (fun i hi => by have := h (i : Int) (by omega) (by omega); simpa [sg] using this) (by omega) (by omega)]
  unfold sg at *
  rw [List.getD_eq_getElem?_getD, List.getElem?_eq_getElem hi, List.getD_eq_getElem?_getD, List.getElem?_eq_getElem hj] at *
  rw [List.drop_eq_getElem_cons hi, List.drop_eq_getElem_cons hj]
  simp only [Option.getD_some] at *
  simp only [ordL, if_neg hn]
theorem ordL_end {a b : List Int} (h : ∀ i, 0 ≤ i → i < (a.length : Int) → i < b.length → sg a i = sg b i) : ordL a b = if (a.length : Int) = b.length then 0 else if (a.length : Int) < b.length then -1 else 1 := by
  rw [ordL_skip (min a.length b.length) (fun i hi => by have := h (i : Int) (by omega) (by omega) (by omega); simpa [sg] using this) (by omega) (by omega)]
  rcases Nat.lt_trichotomy a.length b.length with c | c | c
  · have e1 : a.drop (min a.length b.length) = [] := List.drop_eq_nil_of_le (by omega)
    have e2 : b.drop (min a.length b.length) ≠ [] := by intro q; have := congrArg List.length q; simp at this; omega
    rw [e1]
    cases q : b.drop (min a.length b.length) with
    | nil => exact absurd q e2
    | cons y r => rw [if_neg (by omega), if_pos (by omega)]; rfl
  · have e1 : a.drop (min a.length b.length) = [] := List.drop_eq_nil_of_le (by omega)
    have e2 : b.drop (min a.length b.length) = [] := List.drop_eq_nil_of_le (by omega)
    rw [e1, e2, if_pos (by omega)]; rfl
  · have e1 : b.drop (min a.length b.length) = [] := List.drop_eq_nil_of_le (by omega)
    have e2 : a.drop (min a.length b.length) ≠ [] := by intro q; have := congrArg List.length q; simp at this; omega
    rw [e1]
    cases q : a.drop (min a.length b.length) with
    | nil => exact absurd q e2
    | cons y r => rw [if_neg (by omega), if_neg (by omega)]; rfl

theorem item_ord {a : List Int} (o : Oks a) {k : Int} (h0 : 0 ≤ k) (h1 : k < a.length) : (((Txt.item (tx a) k).cps.getD 0 0 : Nat) : Int) = sg a k := by
  have := sg_ok o h0 h1
  rw [tx_item h0 h1]
  simp [tx]
  omega
theorem item_ne {a b : List Int} (o : Oks a) (o' : Oks b) {k : Int} (h0 : 0 ≤ k) (h1 : k < a.length) (h2 : k < b.length) : (Txt.item (tx a) k != Txt.item (tx b) k) = decide (sg a k ≠ sg b k) := by
  have e1 : Oks [sg a k] := fun c hc => by rw [List.mem_singleton.mp hc]; exact sg_ok o h0 h1
  have e2 : Oks [sg b k] := fun c hc => by rw [List.mem_singleton.mp hc]; exact sg_ok o' h0 h2
  rw [tx_item h0 h1, tx_item h0 h2, Bool.eq_iff_iff]
  simp only [bne_iff_ne, decide_eq_true_eq, ne_eq]
  rw [tx_inj e1 e2]
  simp

set_option maxHeartbeats 4000000
theorem w_order (a b : List Int) (t1 t2) : Pure1 w mean mg mb 128 8 80 (fun _ => Oks a ∧ Oks b ∧ a.length ≤ 1000 ∧ b.length ≤ 1000) [.str (tx a) t1, .str (tx b) t2] (fun _ r => ∃ t, r = .int (ordL a b) t) := by
  unfold Pure1; k_fill; intro dp un gd fr s Q E X T hpre hdp hun ret; refine wpAny_call ?_; k_dflt (refine' enterP ?k1 ?k2 ?k6 ?k7 ?k8 ?k9 ?kB ?_ ?c2 ?c3 ?c4 ?c5; (case k1 => assumption); (case k2 => assumption); (case k6 => k_is); (case k7 => k_is); (case k8 => ktr_room); (case k9 => exact BindsTo.of_eq rfl); (case c5 => decide); (case kB => exact locs rfl); (case c2 => exact rfl); (case c3 => exact rfl); (case c4 => exact rfl); k_whole; intro L' h' F' N'; (try dsimp only); (try k_fold))
  k_with_none
  k_with "own ne" => (refine neN ?_; (try dsimp only); first | assumption | exact Ne.symm (by assumption) | exact Nat.ne_of_gt (by assumption) | exact Nat.ne_of_lt (by assumption) | fail "none")
  k_with "own room" => first | exact room1 hdp rfl | fail "none"
  k_with "own units" => first | exact units1 hun rfl | fail "none"
  k_with "eval Call Name" => refine Call_ ?_
  k_with "pyIter ref" => k_extra "my loop"
  k_with "exec While" => k_extra "my while"
  have hl := tx_len a
  have hlb := tx_len b
  obtain ⟨oa, ob, ha, hb⟩ := hpre
  k_with "my loop" => (k_here; k_dflt ((rename Fr _ _ _ _ => lF'); (rename News _ _ _ _ => lN'); (rename IsRange _ _ _ _ _ _ _ _ => rgX); (with_unfolding_all refine' rng_search (fun k => sg a k = sg b k) (by rfl) rgX ?b1 ?b2 ?b3 ?b4 lF' lN' ?_ ?_); (case b1 => first | omega | (split <;> omega)); (case b2 => first | omega | (split <;> omega)); (case b3 => first | omega | (split <;> omega)); (case b4 => first | omega | (split <;> omega)); (all_goals clear lF' lN' rgX); rotate_left; (intro uL' h' tk' kP F' N'); rotate_left; (intro k t' h' tk' own' k1 k2 kP kOff F' N'); (all_goals (try dsimp only [envOf] at F' N')); (all_goals (try simp only [List.nil_append, List.cons_append] at N')); (all_goals (try k_fold))))
  (repeat' (first | (k_unfold; (try dsimp only)) | (refine id ?_; k_unfold; (try dsimp only)) | (walk1; (all_goals (try (first | ((with_reducible show wpAny _ _ (exec _ _) _ _ _); k_fold) | ((with_reducible show wpAny _ _ (call _ _) _ _ _); k_fold))))) | (dsimp only; first | (walk1; (all_goals (try (first | ((with_reducible show wpAny _ _ (exec _ _) _ _ _); k_fold) | ((with_reducible show wpAny _ _ (call _ _) _ _ _); k_fold))))) | skip) | fail "no step"))
  all_goals (first
    | (have q1 : k < (a.length : Int) := by (revert k2; rw [hl, hlb]; split <;> omega)
       have q2 : k < (b.length : Int) := by (revert k2; rw [hl, hlb]; split <;> omega)
       have e1 := item_ord oa k1 q1
       have e2 := item_ord ob k1 q2
       have e3 := item_ne oa ob k1 q1 q2
       simp only [e1, e2, e3, decide_eq_true_eq, decide_eq_false_iff_not, ne_eq, Decidable.not_not] at *
       first
       | exact ret _ _ _ (Fr.keep (by assumption)) ⟨_, by rw [ordL_at k1 q1 q2 kP (by assumption), if_pos (by assumption)]⟩
       | exact ret _ _ _ (Fr.keep (by assumption)) ⟨_, by rw [ordL_at k1 q1 q2 kP (by assumption), if_neg (by assumption)]⟩
       | (refine srch_end (by assumption) (by assumption) ?s1 ?s2 ?s3; (case s1 => (intro p hp; simpa using hp)); (case s2 => (intro z hz; first | rfl | ((try dsimp only); rw [if_neg hz]))); (case s3 => assumption)))
    | (have hE := ordL_end (a := a) (b := b) (fun i h0 h1 h2 => kP i h0 (by rw [hl, hlb]; split <;> omega))
       rw [hl, hlb] at *
       first
       | exact ret _ _ _ (Fr.keep (by assumption)) ⟨_, by rw [hE, if_pos (by assumption)]⟩
       | exact ret _ _ _ (Fr.keep (by assumption)) ⟨_, by rw [hE, if_neg (by assumption), if_pos (by assumption)]⟩
       | exact ret _ _ _ (Fr.keep (by assumption)) ⟨_, by rw [hE, if_neg (by assumption), if_neg (by assumption)]⟩))
end Mine
end
-- part B5
section
set_option maxRecDepth 100000
open PySem PySem.W PySem.Calls PyProof.Rows
set_option Elab.async false
namespace Mine
variable (w : World) (mean : ExcName → Option Value) (mg mb : Str → Option Value)

noncomputable def bl (c : Int) : Bool := isW c || isL c
theorem w_blankI (a : List Int) (i : Int) (t1) : Pure1 w mean mg mb 100 6 60 (fun _ => Oks a ∧ 0 ≤ i ∧ i < a.length) [.str (Txt.item (tx a) i) t1] (fun _ r => r = .bool (bl (sg a i))) := by
  intro dp un gd fr s Q E X T hpre hdp hun ret
  obtain ⟨o, h0, h1⟩ := hpre
  rw [tx_item h0 h1]
  exact w_blank w mean mg mb (sg a i) t1 dp un gd fr s Q E X T (sg_ok o h0 h1) hdp hun ret

noncomputable def TrimP (a : List Int) (f l : Int) : Prop := 0 ≤ f ∧ f ≤ l ∧ l ≤ a.length ∧ (∀ i, 0 ≤ i → i < f → bl (sg a i) = true) ∧ (∀ i, l ≤ i → i < a.length → bl (sg a i) = true) ∧ (f = l ∨ (bl (sg a f) = false ∧ bl (sg a (l - 1)) = false))

set_option maxHeartbeats 4000000
theorem w_trim (a : List Int) (t1) : Pure1 w mean mg mb 107 10 100 (fun _ => Oks a ∧ a.length ≤ 1000) [.str (tx a) t1] (fun _ r => ∃ f l t, r = .str (tx (seg a f l)) t ∧ TrimP a f l) := by
  unfold Pure1; k_fill; intro dp un gd fr s Q E X T hpre hdp hun ret; refine wpAny_call ?_; k_dflt (refine' enterP ?k1 ?k2 ?k6 ?k7 ?k8 ?k9 ?kB ?_ ?c2 ?c3 ?c4 ?c5; (case k1 => assumption); (case k2 => assumption); (case k6 => k_is); (case k7 => k_is); (case k8 => ktr_room); (case k9 => exact BindsTo.of_eq rfl); (case c5 => decide); (case kB => exact locs rfl); (case c2 => exact rfl); (case c3 => exact rfl); (case c4 => exact rfl); k_whole; intro L' h' F' N'; (try dsimp only); (try k_fold))
  k_with_none
  k_with "own ne" => (refine neN ?_; (try dsimp only); first | assumption | exact Ne.symm (by assumption) | exact Nat.ne_of_gt (by assumption) | exact Nat.ne_of_lt (by assumption) | fail "none")
  k_with "own room" => first | exact room1 hdp rfl | fail "none"
  k_with "own units" => first | exact units1 hun rfl | fail "none"
  k_with "eval Call Name" => refine Call_ ?_
  k_with "pyIter ref" => k_extra "my loop"
  k_with "exec While" => k_extra "my while"
  k_with "call ref" => (k_here; (with_reducible show wpAny _ _ (call (Value.ref 100) _) _ _ _); k_dflt (refine' Pure1.use (w_blankI _ _ _ _ _ _ _) ?k1 ?k2 ?k3 ?k4 ?k5 ?k6 ?k7 ?k8 ?_; (case k1 => k_asm); (case k2 => k_asm); (case k3 => k_asm); (case k4 => k_asm); (case k5 => rfl); (case k6 => ((repeat' apply And.intro) <;> (first | with_reducible assumption | ((with_reducible show Heap.IsList _ _ _); first | exact Heap.IsList.at (by assumption) (Fr.keep (by assumption) _) | exact News.isList (by assumption) (by k_mem) | k_extra "my pre") | exact IntsAre.nil | exact (fun _ hc => absurd hc List.not_mem_nil) | k_extra "my pre" | (first | assumption | exact Nat.le_trans (by assumption) (Nat.le_of_ble_eq_true rfl) | exact Nat.lt_of_le_of_lt (by assumption) (Nat.le_of_ble_eq_true rfl) | exact Int.natCast_nonneg _ | exact Int.le_trans (by assumption) (by decide) | exact Int.lt_of_le_of_lt (by assumption) (by decide) | exact Int.lt_of_lt_of_le (by assumption) (by decide) | ((repeat (rename (@LT.lt Nat _ _ _) ∧ _ => hxx; clear hxx)); (repeat (rename (@Ne Nat _ _) ∧ _ => hxx; clear hxx)); (repeat (rename (@Ne Nat _ _ ∧ _) ∧ _ => hxx; clear hxx)); omega)) | trivial | (dsimp only; omega) | assumption))); (case k7 => ktr_room); (case k8 => ktr_units)); intro r' h' tk' F' N' hr'; (try k_sweep); subst hr')
  have hl := tx_len a
  obtain ⟨oa, ha⟩ := hpre
  k_with "my while" => (k_here; k_dflt ((rename Fr _ _ _ _ => lF'); (rename News _ _ _ _ => lN'); (with_unfolding_all refine' while_st (σ := Int × Tok) ([]) (fun _ => []) (fun c => [(Str.ofString "last", Value.int c.1 c.2)]) (fun c => cW.1 ≤ c.1 ∧ c.1 ≤ (a.length : Int) ∧ ∀ i, c.1 ≤ i → i < (a.length : Int) → bl (sg a i) = true) (fun c => c.1.toNat) (((tx a).length, _)) lF' lN' ?n1 ?n2 ?n3 ?_); (case n1 => (repeat' (first | exact True.intro | (refine And.intro ?_ ?_) | k_mem))); (case n2 => (repeat' (first | exact True.intro | (refine And.intro ?_ ?_) | exact rfl))); (case n3 => exact ⟨by omega, by omega, fun i h1 h2 => by omega⟩); (clear lF' lN'); (intro cV u' h' tk' hcV F' N'); (dsimp only [kstB, forgB, envOf] at F' N' hcV); (try simp only [List.nil_append, List.cons_append] at N'); (try k_fold)))
  k_with "my while" => (k_here; k_dflt ((rename Fr _ _ _ _ => lF'); (rename News _ _ _ _ => lN'); (with_unfolding_all refine' while_st (σ := Int × Tok) ([]) (fun _ => []) (fun c => [(Str.ofString "first", Value.int c.1 c.2)]) (fun c => 0 ≤ c.1 ∧ c.1 ≤ (a.length : Int) ∧ ∀ i, 0 ≤ i → i < c.1 → bl (sg a i) = true) (fun c => ((a.length : Int) - c.1).toNat) ((0, _)) lF' lN' ?n1 ?n2 ?n3 ?_); (case n1 => (repeat' (first | exact True.intro | (refine And.intro ?_ ?_) | k_mem))); (case n2 => (repeat' (first | exact True.intro | (refine And.intro ?_ ?_) | exact rfl))); (case n3 => exact ⟨by omega, by omega, fun i h1 h2 => by omega⟩); (clear lF' lN'); (intro cW u' h' tk' hcW F' N'); (dsimp only [kstB, forgB, envOf] at F' N' hcW); (try simp only [List.nil_append, List.cons_append] at N'); (try k_fold)))
  (repeat' (first | (k_unfold; (try dsimp only)) | (refine id ?_; k_unfold; (try dsimp only)) | (walk1; (all_goals (try (first | ((with_reducible show wpAny _ _ (exec _ _) _ _ _); k_fold) | ((with_reducible show wpAny _ _ (call _ _) _ _ _); k_fold))))) | (dsimp only; first | (walk1; (all_goals (try (first | ((with_reducible show wpAny _ _ (exec _ _) _ _ _); k_fold) | ((with_reducible show wpAny _ _ (call _ _) _ _ _); k_fold))))) | skip) | fail "no step"))
  all_goals try ((try dsimp only [WPost]); refine' WEnd.intro ((cV.1 - 1, _)) (by assumption) (by assumption) ?e1 ?e2 ?e3 ?e4 ?e5; (case e2 => (repeat' (first | exact True.intro | (refine And.intro ?_ ?_) | exact rfl))); (case e1 => (repeat' (first | exact True.intro | (refine And.intro ?_ ?_) | k_mem))); (case e3 => (intro z; dsimp only [OffB, OffN]; intro z1; first | rfl | (simp only [z1, if_false]; done))); (case e4 => (refine ⟨by omega, by omega, fun i h1 h2 => ?_⟩; by_cases hi : cV.1 ≤ i; exact hcV.2.2 i hi h2; (have : i = cV.1 - 1 := by omega); subst this; assumption)); (case e5 => omega))
  all_goals try ((try dsimp only [WPost]); refine' WEnd.intro ((cW.1 + 1, _)) (by assumption) (by assumption) ?e1 ?e2 ?e3 ?e4 ?e5; (case e2 => (repeat' (first | exact True.intro | (refine And.intro ?_ ?_) | exact rfl))); (case e1 => (repeat' (first | exact True.intro | (refine And.intro ?_ ?_) | k_mem))); (case e3 => (intro z; dsimp only [OffB, OffN]; intro z1; first | rfl | (simp only [z1, if_false]; done))); (case e4 => (refine ⟨by omega, by omega, fun i h1 h2 => ?_⟩; by_cases hi : i < cW.1; exact hcW.2.2 i h1 hi; (have : i = cW.1 := by omega); subst this; assumption)); (case e5 => omega))
  all_goals (rw [tx_seg (by omega) (by omega)]; first
    | exact ret _ _ _ (Fr.keep (by assumption)) ⟨_, _, _, rfl, by omega, by omega, by omega, hcW.2.2, hcV.2.2, .inr ⟨by assumption, by assumption⟩⟩
    | exact ret _ _ _ (Fr.keep (by assumption)) ⟨_, _, _, rfl, by omega, by omega, by omega, hcW.2.2, hcV.2.2, .inl (by omega)⟩)
end Mine
end
-- part Parts
section
set_option maxRecDepth 100000
open PySem PySem.W PySem.Calls PyProof.Rows
set_option Elab.async false
namespace Mine

/-- the parts, read from the left: cur stands read since the last cut -/
noncomputable def partsF (sp : List Int) (cur left : List Int) : List (List Int) :=
  match left with
  | [] => [cur]
  | x :: r => if (x :: r).take sp.length = sp ∧ (sp ≠ [] ∨ cur ≠ []) then cur :: partsF sp [] ((x :: r).drop sp.length) else partsF sp (cur ++ [x]) r
termination_by 2 * left.length + (if cur = [] then 0 else 1)
decreasing_by
  · rename_i h
    simp only [List.length_drop, List.length_cons, if_true]
    rcases h.2 with h2 | h2
    · have : 0 < sp.length := List.length_pos_iff.mpr h2
      omega
    · rw [if_neg h2]; omega
  · simp only [List.length_cons]
    split <;> split <;> omega

noncomputable def partsA (sp a : List Int) : List (List Int) := if a = [] ∧ sp = [] then [] else partsF sp [] a

theorem drop_at {a : List Int} {i : Int} (h0 : 0 ≤ i) (h1 : i < a.length) : a.drop i.toNat = sg a i :: a.drop (i + 1).toNat := by
  have hi : i.toNat < a.length := by omega
  have e : (i + 1).toNat = i.toNat + 1 := by omega
  rw [List.drop_eq_getElem_cons hi, e]
  unfold sg
  rw [List.getD_eq_getElem?_getD, List.getElem?_eq_getElem hi]
  rfl
theorem seg_next {a : List Int} {i j : Int} (h0 : 0 ≤ i) (h1 : i ≤ j) (h2 : j < a.length) : seg a i (j + 1) = seg a i j ++ [sg a j] := by
  have e : (j + 1 - i).toNat = (j - i).toNat + 1 := by omega
  unfold seg
  rw [e, List.take_add_one]
  congr 1
  rw [List.getElem?_drop]
  have hj : j.toNat < a.length := by omega
  have e2 : i.toNat + (j - i).toNat = j.toNat := by omega
  rw [e2, List.getElem?_eq_getElem hj]
  unfold sg
  rw [List.getD_eq_getElem?_getD, List.getElem?_eq_getElem hj]
  rfl
theorem seg_same (a : List Int) (i : Int) : seg a i i = [] := seg_out (Int.le_refl _)
theorem seg_nil {a : List Int} {i j : Int} (h0 : 0 ≤ i) (h2 : j ≤ a.length) : seg a i j = [] ↔ j ≤ i := by
  constructor
  · intro h
    have := congrArg List.length h
    simp [seg] at this
    omega
  · exact seg_out
theorem seg_all {a : List Int} {i : Int} (h0 : 0 ≤ i) : seg a i a.length = a.drop i.toNat := by
  unfold seg
  rw [List.take_of_length_le]
  simp; omega
theorem St_iff {a b : List Int} {k : Int} : St a b k = true ↔ (a.drop k.toNat).take b.length = b := by
  unfold St seg
  have e : (k + (b.length : Int) - k).toNat = b.length := by omega
  rw [decide_eq_true_eq, e]
theorem St_len {a b : List Int} {k : Int} (h0 : 0 ≤ k) (h1 : k ≤ a.length) (h : St a b k = true) : k + b.length ≤ a.length := by
  have := congrArg List.length (St_iff.mp h)
  simp at this
  omega

theorem parts_skip {a b : List Int} {bg pt : Int} (h0 : 0 ≤ bg) (h1 : bg ≤ pt) (h2 : pt < a.length) (h : St a b pt = false ∨ pt + b.length = bg) :
    partsF b (seg a bg pt) (a.drop pt.toNat) = partsF b (seg a bg (pt + 1)) (a.drop (pt + 1).toNat) := by
  rw [drop_at (by omega) h2, partsF, if_neg, ← seg_next h0 h1 h2]
  rintro ⟨q1, q2⟩
  rw [← drop_at (by omega) h2] at q1
  have := St_iff.mpr q1
  rcases h with h | h
  · rw [h] at this; cases this
  · rcases q2 with q2 | q2
    · have : 0 < b.length := List.length_pos_iff.mpr q2
      omega
    · exact q2 (seg_out (by omega))
theorem parts_cut {a b : List Int} {bg pt : Int} (h0 : 0 ≤ bg) (h1 : bg ≤ pt) (h2 : pt < a.length) (h : St a b pt = true) (hn : pt + b.length ≠ bg) :
    partsF b (seg a bg pt) (a.drop pt.toNat) = seg a bg pt :: partsF b (seg a (pt + b.length) (pt + b.length)) (a.drop (pt + b.length).toNat) := by
  have q := St_iff.mp h
  rw [drop_at (by omega) h2] at q ⊢
  have hc : b ≠ [] ∨ seg a bg pt ≠ [] := by
    by_cases hb : b = []
    · right
      subst hb
      intro e
      have := (seg_nil h0 (by omega)).mp e
      simp at hn; omega
    · exact .inl hb
  rw [partsF, if_pos ⟨q, hc⟩, seg_same, ← drop_at (by omega) h2, List.drop_drop]
  congr 3
  omega
theorem parts_end {a b : List Int} {bg : Int} (h0 : 0 ≤ bg) : partsF b (seg a bg a.length) (a.drop (a.length : Int).toNat) = [a.drop bg.toNat] := by
  rw [seg_all h0]
  have : a.drop (a.length : Int).toNat = [] := List.drop_eq_nil_of_le (by omega)
  rw [this, partsF]

/-- joined again -/
theorem joinL_cons (sp x : List Int) {L : List (List Int)} (h : L ≠ []) : joinL sp (x :: L) = x ++ sp ++ joinL sp L := by
  cases L with
  | nil => exact absurd rfl h
  | cons y r => rfl
theorem partsF_all (sp : List Int) : ∀ (n : Nat) (cur left : List Int), 2 * left.length + (if cur = [] then 0 else 1) ≤ n → partsF sp cur left ≠ [] ∧ joinL sp (partsF sp cur left) = cur ++ left ∧ (partsF sp cur left).length ≤ left.length + (if sp = [] ∧ cur = [] ∧ left ≠ [] then 0 else 1) := by
  intro n
  induction n with
  | zero =>
    intro cur left h
    cases left with
    | nil => rw [partsF]; simp [joinL]
    | cons x r => simp at h
  | succ n ih =>
    intro cur left h
    cases left with
    | nil => rw [partsF]; simp [joinL]
    | cons x r =>
      rw [partsF]
      split
      · rename_i hc
        have hm : 2 * ((x :: r).drop sp.length).length + (if ([] : List Int) = [] then 0 else 1) ≤ n := by
          simp only [List.length_drop, List.length_cons, if_true] at h ⊢
          rcases hc.2 with h2 | h2
          · have : 0 < sp.length := List.length_pos_iff.mpr h2
            split at h <;> omega
          · rw [if_neg h2] at h; omega
        obtain ⟨i1, i2, i3⟩ := ih [] _ hm
        refine ⟨by simp, ?_, ?_⟩
        · rw [joinL_cons _ _ i1, i2, List.nil_append, List.append_assoc]
          congr 1
          conv => lhs; lhs; rw [← hc.1]
          exact List.take_append_drop _ _
        · by_cases hs : sp = []
          · subst hs
            have hcur : cur ≠ [] := by rcases hc.2 with h2 | h2; exact absurd rfl h2; exact h2
            simp [hcur] at i3 ⊢
            omega
          · have : 0 < sp.length := List.length_pos_iff.mpr hs
            simp [hs] at i3 ⊢
            omega
      · have hm : 2 * r.length + (if cur ++ [x] = [] then 0 else 1) ≤ n := by
          simp at h ⊢
          split at h <;> omega
        obtain ⟨i1, i2, i3⟩ := ih (cur ++ [x]) r hm
        refine ⟨i1, ?_, ?_⟩
        · rw [i2]; simp
        · simp at i3 ⊢
          omega
theorem partsF_ne (sp cur left : List Int) : partsF sp cur left ≠ [] := (partsF_all sp _ cur left (Nat.le_refl _)).1
theorem joinL_parts (sp a : List Int) : joinL sp (partsA sp a) = a := by
  unfold partsA
  split
  · rename_i h; rw [h.1]; rfl
  · exact (partsF_all sp _ [] a (Nat.le_refl _)).2.1
theorem partsA_len (sp a : List Int) : (partsA sp a).length ≤ a.length + 1 := by
  unfold partsA
  split
  · simp
  · have := (partsF_all sp _ [] a (Nat.le_refl _)).2.2
    split at this <;> omega
theorem parts_ones : ∀ a : List Int, a ≠ [] → partsF [] [] a = a.map fun c => [c]
  | [], h => absurd rfl h
  | [x], _ => by
    rw [partsF, if_neg (by simp), partsF]; rfl
  | x :: y :: r, _ => by
    have ih := parts_ones (y :: r) (by simp)
    rw [partsF, if_neg (by simp), partsF, if_pos (by simp)]
    simp only [List.length_nil, List.drop_zero, List.nil_append]
    rw [ih]; rfl
theorem partsA_nil (a : List Int) : partsA [] a = a.map fun c => [c] := by
  unfold partsA
  split
  · rename_i h; rw [h.1]; rfl
  · rename_i h
    exact parts_ones a fun e => h ⟨e, rfl⟩
theorem partsA_ne {sp a : List Int} (h : sp ≠ []) : partsA sp a = partsF sp [] a := by
  unfold partsA
  rw [if_neg fun q => h q.2]
end Mine
end
-- part B6
section
set_option maxRecDepth 100000
open PySem PySem.W PySem.Calls PyProof.Rows
set_option Elab.async false
namespace Mine
variable (w : World) (mean : ExcName → Option Value) (mg mb : Str → Option Value)

structure SpS where
  D : Addr
  ys : List Value
  n : Nat
  L : List (List Int)
  bg : Int
  pt : Int
  tb : Tok
  tp : Tok

theorem tx_empty {a : List Int} : (tx a == Str.ofString "") = decide (a = []) := by
  cases a with
  | nil => rw [tx_nil]; simp
  | cons x r =>
    have : ¬ (tx (x :: r) = Str.ofString "") := by
      rw [← tx_nil]; intro h
      have := congrArg (fun x : Str => x.cps.toList.length) h
      simp [tx] at this
    simp [this]
theorem strs_snoc {vs : List Value} {L : List (List Int)} {x : List Int} {t : Tok} (h : StrsAre vs (L.map tx)) : StrsAre (vs ++ [.str (tx x) t]) ((L ++ [x]).map tx) := by
  rw [List.map_append]
  exact h.append' (.cons _ _ .nil)

theorem take_cut {α : Type} {L r : List α} {x : α} {n : Nat} (h : n = L.length + 1) : (L ++ x :: r).take n = L ++ [x] := by
  subst h
  rw [List.append_cons, List.take_left']
  simp
theorem parts_nonempty {a b : List Int} (q : (tx a == Str.ofString "") = false) : partsA b a = partsF b [] a := by
  unfold partsA
  rw [if_neg]
  rintro ⟨e1, _⟩
  rw [tx_empty, e1] at q
  simp at q

set_option maxHeartbeats 8000000
theorem w_split (a b : List Int) (lim : Int) (t1 t2 t3) : PureL w mean mg mb 93 10 100 (fun _ => Oks a ∧ Oks b ∧ a.length ≤ 100 ∧ b.length ≤ 100 ∧ 0 ≤ lim) [.str (tx a) t1, .str (tx b) t2, .int lim t3]
    (fun ys => StrsAre ys (((partsA b a).take lim.toNat).map tx)) := by
  unfold PureL; k_fill; intro dp un gd fr s Q E X T hpre hdp hun ret; refine wpAny_call ?_; k_dflt (refine' enterP ?k1 ?k2 ?k6 ?k7 ?k8 ?k9 ?kB ?_ ?c2 ?c3 ?c4 ?c5; (case k1 => assumption); (case k2 => assumption); (case k6 => k_is); (case k7 => k_is); (case k8 => ktr_room); (case k9 => exact BindsTo.of_eq rfl); (case c5 => decide); (case kB => exact locs rfl); (case c2 => exact rfl); (case c3 => exact rfl); (case c4 => exact rfl); k_whole; intro L' h' F' N'; (try dsimp only); (try k_fold))
  k_with_none
  k_with "own ne" => (refine neN ?_; (try dsimp only); first | assumption | exact Ne.symm (by assumption) | exact Nat.ne_of_gt (by assumption) | exact Nat.ne_of_lt (by assumption) | fail "none")
  k_with "own room" => first | exact room1 hdp rfl | fail "none"
  k_with "own units" => first | exact units1 hun rfl | fail "none"
  k_with "eval Call Name" => refine Call_ ?_
  k_with "pyIter ref" => k_extra "my loop"
  k_with "exec While" => k_extra "my while"
  k_with "call builtin:len" => (k_here; (with_reducible show wpAny _ _ (call (Value.builtin "len") [Value.ref _]) _ _ _); k_dflt (refine' call_len_list (News.isList ?k1 ?k2) ?k3 ?_; (case k1 => k_asm); (case k2 => k_mem); (case k3 => (simp only [List.push_toArray, List.size_toArray, Array.size_push, List.length_append, List.length_cons, List.length_nil]; omega))))
  k_with "call ref" => (k_here; (with_reducible show wpAny _ _ (call (Value.ref 72) _) _ _ _); k_dflt (refine' Pure1.use (w_stands _ _ _ _ _ _ _ _ _ _) ?k1 ?k2 ?k3 ?k4 ?k5 ?k6 ?k7 ?k8 ?_; (case k1 => k_asm); (case k2 => k_asm); (case k3 => k_asm); (case k4 => k_asm); (case k5 => rfl); (case k6 => ((repeat' apply And.intro) <;> (first | with_reducible assumption | ((with_reducible show Heap.IsList _ _ _); first | exact Heap.IsList.at (by assumption) (Fr.keep (by assumption) _) | exact News.isList (by assumption) (by k_mem) | k_extra "my pre") | exact IntsAre.nil | exact (fun _ hc => absurd hc List.not_mem_nil) | k_extra "my pre" | (first | assumption | exact Nat.le_trans (by assumption) (Nat.le_of_ble_eq_true rfl) | exact Nat.lt_of_le_of_lt (by assumption) (Nat.le_of_ble_eq_true rfl) | exact Int.natCast_nonneg _ | exact Int.le_trans (by assumption) (by decide) | exact Int.lt_of_le_of_lt (by assumption) (by decide) | exact Int.lt_of_lt_of_le (by assumption) (by decide) | ((repeat (rename (@LT.lt Nat _ _ _) ∧ _ => hxx; clear hxx)); (repeat (rename (@Ne Nat _ _) ∧ _ => hxx; clear hxx)); (repeat (rename (@Ne Nat _ _ ∧ _) ∧ _ => hxx; clear hxx)); omega)) | trivial | (dsimp only; omega) | assumption))); (case k7 => ktr_room); (case k8 => ktr_units)); intro r' h' tk' F' N' hr'; (try k_sweep); subst hr')
  have hl := tx_len a
  have hlb := tx_len b
  obtain ⟨oa, ob, ha, hb, h0⟩ := hpre
  k_with "my while" => (k_here; k_dflt ((rename Fr _ _ _ _ => lF'); (rename News _ _ _ _ => lN'); (with_unfolding_all refine' while_st (σ := SpS) ([Str.ofString "end"]) (fun c => [(c.D, listOf c.ys.toArray c.n)]) (fun c => [(Str.ofString "found", Value.ref c.D), (Str.ofString "begin", Value.int c.bg c.tb), (Str.ofString "at", Value.int c.pt c.tp)]) (fun c => 0 ≤ c.bg ∧ c.bg ≤ c.pt ∧ c.pt ≤ (a.length : Int) ∧ StrsAre c.ys (c.L.map tx) ∧ (c.L.length : Int) < lim ∧ (c.ys.length : Int) = c.L.length ∧ (c.L.length : Int) ≤ c.bg ∧ c.L ++ partsF b (seg a c.bg c.pt) (a.drop c.pt.toNat) = partsF b [] a) (fun c => 2 * ((a.length : Int) - c.pt).toNat + (if c.bg = c.pt then 0 else 1)) (⟨_, [], _, [], 0, 0, _, _⟩) lF' lN' ?n1 ?n2 ?n3 ?_); (case n1 => (repeat' (first | exact True.intro | (refine And.intro ?_ ?_) | k_mem))); (case n2 => (repeat' (first | exact True.intro | (refine And.intro ?_ ?_) | exact rfl))); (case n3 => (dsimp only; exact ⟨by omega, by omega, by omega, .nil, by simp; omega, rfl, Int.le_refl 0, by rw [seg_same]; rfl⟩)); (clear lF' lN'); (intro c u' h' tk' hc F' N'); (dsimp only [kstB, forgB, envOf] at F' N' hc); (try simp only [List.nil_append, List.cons_append] at N'); (try k_fold)))
  (repeat' (first | (k_unfold; (try dsimp only)) | (refine id ?_; k_unfold; (try dsimp only)) | (walk1; (all_goals (try (first | ((with_reducible show wpAny _ _ (exec _ _) _ _ _); k_fold) | ((with_reducible show wpAny _ _ (call _ _) _ _ _); k_fold))))) | (dsimp only; first | (walk1; (all_goals (try (first | ((with_reducible show wpAny _ _ (exec _ _) _ _ _); k_fold) | ((with_reducible show wpAny _ _ (call _ _) _ _ _); k_fold))))) | skip) | fail "no step"))
  all_goals (rename News _ _ _ _ => nN)
  · refine ret _ [] _ _ _ (Fr.keep (by assumption)) (News.fresh nN (.head _)) (News.get nN (.head _)) ?_
    have e : lim.toNat = 0 := by omega
    rw [e]; exact .nil
  · refine ret _ [] _ _ _ (Fr.keep (by assumption)) (News.fresh nN (.head _)) (News.get nN (.head _)) ?_
    have e1 : a = [] := by have q := ‹(tx a == Str.ofString "") = true›; rw [tx_empty] at q; simpa using q
    have e2 : b = [] := by have q := ‹(tx b == Str.ofString "") = true›; rw [tx_empty] at q; simpa using q
    rw [e1, e2, show partsA [] [] = [] from rfl]; simp; exact .nil
  · refine ret _ [_] _ _ _ (Fr.keep (by assumption)) (News.fresh nN (.head _)) (News.get nN (.head _)) ?_
    have e1 : a = [] := by have q := ‹(tx a == Str.ofString "") = true›; rw [tx_empty] at q; simpa using q
    have e2 : b ≠ [] := by have q := ‹(tx b == Str.ofString "") = false›; rw [tx_empty] at q; simpa using q
    have e : lim.toNat = (lim.toNat - 1) + 1 := by omega
    rw [partsA_ne e2, e1, partsF, e]
    simp only [List.take_succ_cons, List.take_nil, List.map_cons, List.map_nil]
    exact .cons _ _ .nil
  all_goals (have hA := parts_nonempty (b := b) ‹(tx a == Str.ofString "") = false›)
  all_goals (simp only [tx_seg (show 0 ≤ c.bg from hc.1) (show 0 ≤ c.pt by omega), tx_slice_from (show 0 ≤ c.bg from hc.1), List.push_toArray, List.size_toArray, List.length_append, List.length_cons, List.length_nil, hl, hlb] at *)
  all_goals try ((try dsimp only [WPost]); refine' WEnd.intro (⟨c.D, c.ys, c.n, c.L, c.bg, c.pt + 1, c.tb, _⟩) (by assumption) (by assumption) ?e1 ?e2 ?e3 ?e4 ?e5; (case e2 => (repeat' (first | exact True.intro | (refine And.intro ?_ ?_) | exact rfl))); (case e1 => (repeat' (first | exact True.intro | (refine And.intro ?_ ?_) | k_mem))); (case e3 => (intro z; dsimp only [OffB, OffN]; intro z1 z2 z3 z4; first | rfl | (simp only [z1, z2, z3, z4, if_false]; done))); (case e4 => (dsimp only; refine ⟨by omega, by omega, by omega, hc.2.2.2.1, by omega, by omega, by omega, ?_⟩; rw [← parts_skip (by omega) (by omega) (by omega) (by first | exact .inl (by assumption) | exact .inr (by omega))]; exact hc.2.2.2.2.2.2.2)); (case e5 => (dsimp only; split <;> split <;> omega)))
  · have q1 := St_len (by omega) (by omega) ‹St a b c.pt = true›
    have q2 := parts_cut hc.1 hc.2.1 (by omega) ‹St a b c.pt = true› (by omega)
    have q3 := hc.2.2.2.2.2.2.2
    rw [q2] at q3
    refine ret _ (c.ys ++ [_]) _ _ _ (Fr.keep (by assumption)) (News.fresh nN (.head _)) (News.get nN (.head _)) ?_
    rw [hA, ← q3, take_cut (by omega)]
    exact strs_snoc hc.2.2.2.1
  · ((try dsimp only [WPost]); refine' WEnd.intro (⟨c.D, c.ys ++ [Value.str (tx (seg a c.bg c.pt)) _], c.n + 1, c.L ++ [seg a c.bg c.pt], c.pt + b.length, c.pt + b.length, _, _⟩) (by assumption) (by assumption) ?e1 ?e2 ?e3 ?e4 ?e5; (case e2 => (repeat' (first | exact True.intro | (refine And.intro ?_ ?_) | exact rfl))); (case e1 => (repeat' (first | exact True.intro | (refine And.intro ?_ ?_) | k_mem))); (case e3 => (intro z; dsimp only [OffB, OffN]; intro z1 z2 z3 z4; first | rfl | (simp only [z1, z2, z3, z4, if_false]; done))); (case e4 => (dsimp only; have q1 := St_len (by omega) (by omega) ‹St a b c.pt = true›; have q2 := parts_cut hc.1 hc.2.1 (by omega) ‹St a b c.pt = true› (by omega); have q3 := hc.2.2.2.2.2.2.2; rw [q2] at q3; refine ⟨by omega, by omega, by omega, strs_snoc hc.2.2.2.1, by simp; omega, by simp; omega, by simp; omega, by rw [List.append_assoc]; exact q3⟩)); (case e5 => (dsimp only; have q1 := St_len (by omega) (by omega) ‹St a b c.pt = true›; split <;> split <;> omega)))
  · have e : c.pt = a.length := by omega
    have q3 := hc.2.2.2.2.2.2.2
    rw [e, parts_end hc.1] at q3
    refine ret _ (c.ys ++ [_]) _ _ _ (Fr.keep (by assumption)) (News.fresh nN (.head _)) (News.get nN (.head _)) ?_
    rw [hA, ← q3, List.take_of_length_le (by simp; omega)]
    exact strs_snoc hc.2.2.2.1
end Mine
end
-- part B7
section
set_option maxRecDepth 100000
open PySem PySem.W PySem.Calls PyProof.Rows
set_option Elab.async false
namespace Mine
variable (w : World) (mean : ExcName → Option Value) (mg mb : Str → Option Value)

/-- what a sign and the next stand for -/
noncomputable def pc (wl : List Int) (at' many : Int) (c d : Int) : Option (List Int) :=
  if c = 36 then (if d = 36 then some [36] else if d = 38 then some (seg wl at' (at' + many)) else if d = 96 then some (wl.take at'.toNat) else if d = 39 then some (wl.drop (at' + many).toNat) else none) else none
noncomputable def fillL (f : Int → Int → Option (List Int)) : List Int → List Int
  | [] => []
  | [c] => [c]
  | c :: d :: r => match f c d with
    | some p => p ++ fillL f r
    | none => c :: fillL f (d :: r)
theorem seg_one {a : List Int} {i : Int} (h0 : 0 ≤ i) (h1 : i < a.length) : seg a i (i + 1) = [sg a i] := by
  rw [seg_next h0 (Int.le_refl _) h1, seg_same]; rfl
theorem lit_d : Str.ofString "$" = tx [36] := by decide +kernel
theorem lit_a : Str.ofString "&" = tx [38] := by decide +kernel
theorem lit_b : Str.ofString "`" = tx [96] := by decide +kernel
theorem lit_q : Str.ofString "'" = tx [39] := by decide +kernel
theorem one_ok {k : Int} (h0 : 0 ≤ k) (h1 : k ≤ 1114111) : Oks [k] := fun c hc => by rw [List.mem_singleton.mp hc]; exact ⟨h0, h1⟩
theorem item_is {a : List Int} (o : Oks a) {i k : Int} (h0 : 0 ≤ i) (h1 : i < a.length) (k0 : 0 ≤ k) (k1 : k ≤ 1114111) : (Txt.item (tx a) i == tx [k]) = decide (sg a i = k) := by
  have b := sg_ok o h0 h1
  rw [tx_item h0 h1, Bool.eq_iff_iff, beq_iff_eq, decide_eq_true_eq, tx_inj (one_ok b.1 b.2) (one_ok k0 k1)]
  simp
theorem mark_is {a : List Int} (o : Oks a) {i j k : Int} (h0 : 0 ≤ i) (hj : j = i + 1) (k0 : 0 ≤ k) (k1 : k ≤ 1114111) : (Txt.slice (tx a) (some i) (some j) == tx [k]) = decide (i < a.length ∧ sg a i = k) := by
  subst hj
  rw [tx_seg h0 (by omega), Bool.eq_iff_iff, beq_iff_eq, decide_eq_true_eq, tx_inj (o.seg _ _) (one_ok k0 k1)]
  by_cases h : i < a.length
  · rw [seg_one h0 h]; simp [h]
  · have : seg a i (i + 1) = [] := by
      unfold seg
      rw [List.drop_eq_nil_of_le (by omega)]; simp
    rw [this]; simp [h]
theorem fill_skip {f : Int → Int → Option (List Int)} {a : List Int} {i : Int} (h0 : 0 ≤ i) (h1 : i < a.length) (h : i + 1 < a.length → f (sg a i) (sg a (i + 1)) = none) : fillL f (a.drop i.toNat) = [sg a i] ++ fillL f (a.drop (i + 1).toNat) := by
  rw [drop_at h0 h1]
  by_cases h2 : i + 1 < a.length
  · rw [drop_at (by omega) h2, fillL, h h2]
    rfl
  · have : a.drop (i + 1).toNat = [] := List.drop_eq_nil_of_le (by omega)
    rw [this]; rfl
theorem fill_take {f : Int → Int → Option (List Int)} {a p : List Int} {i : Int} (h0 : 0 ≤ i) (h1 : i + 1 < a.length) (h : f (sg a i) (sg a (i + 1)) = some p) : fillL f (a.drop i.toNat) = p ++ fillL f (a.drop (i + 2).toNat) := by
  rw [drop_at h0 (by omega), drop_at (by omega) h1, fillL, h]
  have : (i + 1 + 1).toNat = (i + 2).toNat := by omega
  rw [this]
theorem joinL_flat : ∀ L : List (List Int), joinL [] L = L.flatten
  | [] => rfl
  | [x] => by simp [joinL]
  | x :: y :: r => by
    have ih := joinL_flat (y :: r)
    show x ++ [] ++ joinL [] (y :: r) = _
    rw [ih]; simp
theorem sum_tx : ∀ L : List (List Int), ((L.map tx).map (·.length)).sum = L.flatten.length
  | [] => rfl
  | x :: r => by
    have ih := sum_tx r
    simp only [List.map_cons, List.sum_cons, List.flatten_cons, List.length_append, tx_len] at ih ⊢
    rw [ih]
theorem pc_d {wl : List Int} {a m c d : Int} (hc : c = 36) (hd : d = 36) : pc wl a m c d = some [36] := by subst hc hd; rfl
theorem pc_a {wl : List Int} {a m c d : Int} (hc : c = 36) (hd : d = 38) : pc wl a m c d = some (seg wl a (a + m)) := by subst hc hd; rfl
theorem pc_b {wl : List Int} {a m c d : Int} (hc : c = 36) (hd : d = 96) : pc wl a m c d = some (wl.take a.toNat) := by subst hc hd; rfl
theorem pc_q {wl : List Int} {a m c d : Int} (hc : c = 36) (hd : d = 39) : pc wl a m c d = some (wl.drop (a + m).toNat) := by subst hc hd; rfl
theorem pc_n {wl : List Int} {a m c d : Int} (hc : ¬ c = 36) : pc wl a m c d = none := by unfold pc; rw [if_neg hc]
theorem pc_m {wl : List Int} {a m c d : Int} (h1 : ¬ d = 36) (h2 : ¬ d = 38) (h3 : ¬ d = 96) (h4 : ¬ d = 39) : pc wl a m c d = none := by unfold pc; rw [if_neg h1, if_neg h2, if_neg h3, if_neg h4, ite_self]
structure FiS where
  D : Addr
  ys : List Value
  n : Nat
  L : List (List Int)
  sp : Int
  ts : Tok

set_option maxHeartbeats 8000000
theorem w_fill (tm wl : List Int) (at' many : Int) (t1 t2 t3 t4) : Pure1 w mean mg mb 114 10 100 (fun _ => Oks tm ∧ Oks wl ∧ tm.length ≤ 100 ∧ wl.length ≤ 100 ∧ 0 ≤ at' ∧ 0 ≤ many ∧ at' ≤ 100 ∧ many ≤ 100) [.str (tx tm) t1, .str (tx wl) t2, .int at' t3, .int many t4]
    (fun _ r => ∃ t, r = .str (tx (fillL (pc wl at' many) tm)) t) := by
  unfold Pure1; k_fill; intro dp un gd fr s Q E X T hpre hdp hun ret; refine wpAny_call ?_; k_dflt (refine' enterP ?k1 ?k2 ?k6 ?k7 ?k8 ?k9 ?kB ?_ ?c2 ?c3 ?c4 ?c5; (case k1 => assumption); (case k2 => assumption); (case k6 => k_is); (case k7 => k_is); (case k8 => ktr_room); (case k9 => exact BindsTo.of_eq rfl); (case c5 => decide); (case kB => exact locs rfl); (case c2 => exact rfl); (case c3 => exact rfl); (case c4 => exact rfl); k_whole; intro L' h' F' N'; (try dsimp only); (try k_fold))
  k_with_none
  k_with "own ne" => (refine neN ?_; (try dsimp only); first | assumption | exact Ne.symm (by assumption) | exact Nat.ne_of_gt (by assumption) | exact Nat.ne_of_lt (by assumption) | fail "none")
  k_with "own room" => first | exact room1 hdp rfl | fail "none"
  k_with "own units" => first | exact units1 hun rfl | fail "none"
  k_with "eval Call Name" => refine Call_ ?_
  k_with "pyIter ref" => k_extra "my loop"
  k_with "exec While" => k_extra "my while"
  k_with "call builtin:len" => (k_here; (with_reducible show wpAny _ _ (call (Value.builtin "len") [Value.ref _]) _ _ _); k_dflt (refine' call_len_list (News.isList ?k1 ?k2) ?k3 ?_; (case k1 => k_asm); (case k2 => k_mem); (case k3 => (simp only [List.push_toArray, List.size_toArray, Array.size_push, List.length_append, List.length_cons, List.length_nil]; omega))))
  k_with "CompEnd" => k_extra "my end"
  k_with "CompSrcT" => k_extra "my comp"
  k_with "CompSrc" => k_extra "my comp"
  k_with "eval ListComp" => (k_here; k_dflt (first | ((with_reducible show wpAny _ _ (eval (Expr.ListComp _ [⟨Expr.Name _ _, _, [_], _⟩] _ _) _) _ _ _); refine LCt.ListComp_T (F₀ := by k_asm) (by with_unfolding_all rfl) (by decide) (by rfl) (by decide) (by rfl) ?_) | (refine LCg.ListComp_U (F₀ := by k_asm) (by with_unfolding_all rfl) (by decide) (by rfl) (by decide) (by rfl) ?_)))
  k_with "exec Assign cons ListComp" => (k_here; k_dflt (first | ((with_reducible show wpAny _ _ (exec (Stmt.Assign _ (Expr.ListComp _ [⟨Expr.Name _ _, _, [_], _⟩] _ _) _) _) _ _ _); refine LCt.Assign_ListComp_T (F₀ := by k_asm) (by rfl) (by with_unfolding_all rfl) (by with_unfolding_all rfl) (by decide) (by rfl) (by decide) (by rfl) (by rfl) (by rfl) ?_) | (refine LCg.Assign_ListComp_U (F₀ := by k_asm) (by rfl) (by with_unfolding_all rfl) (by with_unfolding_all rfl) (by decide) (by rfl) (by decide) (by rfl) (by rfl) (by rfl) ?_)))
  k_with "call builtin:str.join" => k_extra "my join"
  have hl := tx_len tm
  have hlb := tx_len wl
  obtain ⟨ot, ow, ht, hw, h0, h1, h2, h3⟩ := hpre
  k_with "my while" => (k_here; k_dflt ((rename Fr _ _ _ _ => lF'); (rename News _ _ _ _ => lN'); (with_unfolding_all refine' while_st (σ := FiS) ([Str.ofString "mark"]) (fun c => [(c.D, listOf c.ys.toArray c.n)]) (fun c => [(Str.ofString "found", Value.ref c.D), (Str.ofString "spot", Value.int c.sp c.ts)]) (fun c => 0 ≤ c.sp ∧ c.sp ≤ (tm.length : Int) ∧ StrsAre c.ys (c.L.map tx) ∧ (c.ys.length : Int) = c.L.length ∧ (c.L.length : Int) ≤ c.sp ∧ (c.L.flatten.length : Int) ≤ 100 * c.sp ∧ c.L.flatten ++ fillL (pc wl at' many) (tm.drop c.sp.toNat) = fillL (pc wl at' many) tm) (fun c => ((tm.length : Int) - c.sp).toNat) (⟨_, [], _, [], 0, _⟩) lF' lN' ?n1 ?n2 ?n3 ?_); (case n1 => (repeat' (first | exact True.intro | (refine And.intro ?_ ?_) | k_mem))); (case n2 => (repeat' (first | exact True.intro | (refine And.intro ?_ ?_) | exact rfl))); (case n3 => (dsimp only; exact ⟨by omega, by omega, .nil, rfl, Int.le_refl 0, Int.le_refl 0, rfl⟩)); (clear lF' lN'); (intro c u' h' tk' hc F' N'); (dsimp only [kstB, forgB, envOf] at F' N' hc); (try simp only [List.nil_append, List.cons_append] at N'); (try k_fold)))
  k_with "my join" => (k_here; (rename News _ _ _ _ => nN); k_dflt (refine' join_listC (News.isList nN (.head _)) hc.2.2.1 ?j1 ?j2 ?_); (case j1 => decide +kernel); (case j2 => (rw [sum_tx, List.length_map]; omega)); intro t' k')
  (repeat' (first | (k_unfold; (try dsimp only)) | (refine id ?_; k_unfold; (try dsimp only)) | (walk1; (all_goals (try (first | ((with_reducible show wpAny _ _ (exec _ _) _ _ _); k_fold) | ((with_reducible show wpAny _ _ (call _ _) _ _ _); k_fold))))) | (dsimp only; first | (walk1; (all_goals (try (first | ((with_reducible show wpAny _ _ (exec _ _) _ _ _); k_fold) | ((with_reducible show wpAny _ _ (call _ _) _ _ _); k_fold))))) | skip) | fail "no step"))
  all_goals (try (simp only [hl, hlb] at *))
  all_goals (try (rename News _ _ _ _ => nN))
  all_goals try (
    have g0 := hc.1
    have g1 : c.sp < (tm.length : Int) := by assumption
    have gd := item_is ot g0 g1 (k := 36) (by decide) (by decide)
    have g2 := mark_is ot (i := c.sp + 1) (j := c.sp + 2) (k := 36) (by omega) (by omega) (by decide) (by decide)
    have g3 := mark_is ot (i := c.sp + 1) (j := c.sp + 2) (k := 38) (by omega) (by omega) (by decide) (by decide)
    have g4 := mark_is ot (i := c.sp + 1) (j := c.sp + 2) (k := 96) (by omega) (by omega) (by decide) (by decide)
    have g5 := mark_is ot (i := c.sp + 1) (j := c.sp + 2) (k := 39) (by omega) (by omega) (by decide) (by decide)
    have gi := tx_item g0 g1
    rw [← lit_d] at gd g2
    rw [← lit_a] at g3
    rw [← lit_b] at g4
    rw [← lit_q] at g5
    simp only [gd, g2, g3, g4, g5, decide_eq_true_eq, decide_eq_false_iff_not] at *
    simp only [gi, lit_d, tx_seg h0 (show 0 ≤ at' + many by omega), tx_slice_to h0, tx_slice_from (show 0 ≤ at' + many by omega), List.push_toArray] at nN)
  · have qf := fill_take g0 (by omega) (pc_d (wl := wl) (a := at') (m := many) ‹sg tm c.sp = 36› (‹c.sp + 1 < (tm.length : Int) ∧ sg tm (c.sp + 1) = 36›).2)
    ((try dsimp only [WPost]); refine' WEnd.intro (⟨c.D, c.ys ++ [Value.str (tx ([36])) _], c.n + 1, c.L ++ [[36]], c.sp + 2, _⟩) (by assumption) (by assumption) ?e1 ?e2 ?e3 ?e4 ?e5; (case e2 => (repeat' (first | exact True.intro | (refine And.intro ?_ ?_) | exact rfl))); (case e1 => (repeat' (first | exact True.intro | (refine And.intro ?_ ?_) | k_mem))); (case e3 => (intro z; dsimp only [OffB, OffN]; intro z1 z2 z3; first | rfl | (simp only [z1, z2, z3, if_false]; done))); (case e4 => (dsimp only; have q3 := hc.2.2.2.2.2.2; rw [qf] at q3; have hz : ([36] : List Int).length ≤ 100 := (by (simp [seg]; try omega)); refine ⟨by omega, by omega, strs_snoc hc.2.2.1, by (first | (simp; done) | (simp; omega)), by (first | (simp; done) | (simp; omega)), by (rw [List.flatten_append, List.length_append]; simp only [List.flatten_cons, List.flatten_nil, List.append_nil]; omega), ?_⟩; rw [List.flatten_append]; simp only [List.flatten_cons, List.flatten_nil, List.append_nil]; rw [List.append_assoc, ← q3])); (case e5 => (dsimp only; omega)))
  · have qf := fill_take g0 (by omega) (pc_a (wl := wl) (a := at') (m := many) ‹sg tm c.sp = 36› (‹c.sp + 1 < (tm.length : Int) ∧ sg tm (c.sp + 1) = 38›).2)
    ((try dsimp only [WPost]); refine' WEnd.intro (⟨c.D, c.ys ++ [Value.str (tx (seg wl at' (at' + many))) _], c.n + 1, c.L ++ [seg wl at' (at' + many)], c.sp + 2, _⟩) (by assumption) (by assumption) ?e1 ?e2 ?e3 ?e4 ?e5; (case e2 => (repeat' (first | exact True.intro | (refine And.intro ?_ ?_) | exact rfl))); (case e1 => (repeat' (first | exact True.intro | (refine And.intro ?_ ?_) | k_mem))); (case e3 => (intro z; dsimp only [OffB, OffN]; intro z1 z2 z3; first | rfl | (simp only [z1, z2, z3, if_false]; done))); (case e4 => (dsimp only; have q3 := hc.2.2.2.2.2.2; rw [qf] at q3; have hz : (seg wl at' (at' + many) : List Int).length ≤ 100 := (by (simp [seg]; try omega)); refine ⟨by omega, by omega, strs_snoc hc.2.2.1, by (first | (simp; done) | (simp; omega)), by (first | (simp; done) | (simp; omega)), by (rw [List.flatten_append, List.length_append]; simp only [List.flatten_cons, List.flatten_nil, List.append_nil]; omega), ?_⟩; rw [List.flatten_append]; simp only [List.flatten_cons, List.flatten_nil, List.append_nil]; rw [List.append_assoc, ← q3])); (case e5 => (dsimp only; omega)))
  · have qf := fill_take g0 (by omega) (pc_b (wl := wl) (a := at') (m := many) ‹sg tm c.sp = 36› (‹c.sp + 1 < (tm.length : Int) ∧ sg tm (c.sp + 1) = 96›).2)
    ((try dsimp only [WPost]); refine' WEnd.intro (⟨c.D, c.ys ++ [Value.str (tx (wl.take at'.toNat)) _], c.n + 1, c.L ++ [wl.take at'.toNat], c.sp + 2, _⟩) (by assumption) (by assumption) ?e1 ?e2 ?e3 ?e4 ?e5; (case e2 => (repeat' (first | exact True.intro | (refine And.intro ?_ ?_) | exact rfl))); (case e1 => (repeat' (first | exact True.intro | (refine And.intro ?_ ?_) | k_mem))); (case e3 => (intro z; dsimp only [OffB, OffN]; intro z1 z2 z3; first | rfl | (simp only [z1, z2, z3, if_false]; done))); (case e4 => (dsimp only; have q3 := hc.2.2.2.2.2.2; rw [qf] at q3; have hz : (wl.take at'.toNat : List Int).length ≤ 100 := (by (simp [seg]; try omega)); refine ⟨by omega, by omega, strs_snoc hc.2.2.1, by (first | (simp; done) | (simp; omega)), by (first | (simp; done) | (simp; omega)), by (rw [List.flatten_append, List.length_append]; simp only [List.flatten_cons, List.flatten_nil, List.append_nil]; omega), ?_⟩; rw [List.flatten_append]; simp only [List.flatten_cons, List.flatten_nil, List.append_nil]; rw [List.append_assoc, ← q3])); (case e5 => (dsimp only; omega)))
  · have qf := fill_take g0 (by omega) (pc_q (wl := wl) (a := at') (m := many) ‹sg tm c.sp = 36› (‹c.sp + 1 < (tm.length : Int) ∧ sg tm (c.sp + 1) = 39›).2)
    ((try dsimp only [WPost]); refine' WEnd.intro (⟨c.D, c.ys ++ [Value.str (tx (wl.drop (at' + many).toNat)) _], c.n + 1, c.L ++ [wl.drop (at' + many).toNat], c.sp + 2, _⟩) (by assumption) (by assumption) ?e1 ?e2 ?e3 ?e4 ?e5; (case e2 => (repeat' (first | exact True.intro | (refine And.intro ?_ ?_) | exact rfl))); (case e1 => (repeat' (first | exact True.intro | (refine And.intro ?_ ?_) | k_mem))); (case e3 => (intro z; dsimp only [OffB, OffN]; intro z1 z2 z3; first | rfl | (simp only [z1, z2, z3, if_false]; done))); (case e4 => (dsimp only; have q3 := hc.2.2.2.2.2.2; rw [qf] at q3; have hz : (wl.drop (at' + many).toNat : List Int).length ≤ 100 := (by (simp [seg]; try omega)); refine ⟨by omega, by omega, strs_snoc hc.2.2.1, by (first | (simp; done) | (simp; omega)), by (first | (simp; done) | (simp; omega)), by (rw [List.flatten_append, List.length_append]; simp only [List.flatten_cons, List.flatten_nil, List.append_nil]; omega), ?_⟩; rw [List.flatten_append]; simp only [List.flatten_cons, List.flatten_nil, List.append_nil]; rw [List.append_assoc, ← q3])); (case e5 => (dsimp only; omega)))
  · have qf := fill_skip (f := pc wl at' many) g0 g1 (fun z => pc_m (fun e => ‹¬(c.sp + 1 < (tm.length : Int) ∧ sg tm (c.sp + 1) = 36)› ⟨z, e⟩) (fun e => ‹¬(c.sp + 1 < (tm.length : Int) ∧ sg tm (c.sp + 1) = 38)› ⟨z, e⟩) (fun e => ‹¬(c.sp + 1 < (tm.length : Int) ∧ sg tm (c.sp + 1) = 96)› ⟨z, e⟩) (fun e => ‹¬(c.sp + 1 < (tm.length : Int) ∧ sg tm (c.sp + 1) = 39)› ⟨z, e⟩))
    ((try dsimp only [WPost]); refine' WEnd.intro (⟨c.D, c.ys ++ [Value.str (tx ([sg tm c.sp])) _], c.n + 1, c.L ++ [[sg tm c.sp]], c.sp - 1 + 2, _⟩) (by assumption) (by assumption) ?e1 ?e2 ?e3 ?e4 ?e5; (case e2 => (repeat' (first | exact True.intro | (refine And.intro ?_ ?_) | exact rfl))); (case e1 => (repeat' (first | exact True.intro | (refine And.intro ?_ ?_) | k_mem))); (case e3 => (intro z; dsimp only [OffB, OffN]; intro z1 z2 z3; first | rfl | (simp only [z1, z2, z3, if_false]; done))); (case e4 => (dsimp only; have q3 := hc.2.2.2.2.2.2; rw [qf] at q3; have hz : ([sg tm c.sp] : List Int).length ≤ 100 := (by (simp [seg]; try omega)); refine ⟨by omega, by omega, strs_snoc hc.2.2.1, by (first | (simp; done) | (simp; omega)), by (first | (simp; done) | (simp; omega)), by (rw [List.flatten_append, List.length_append]; simp only [List.flatten_cons, List.flatten_nil, List.append_nil]; omega), ?_⟩; rw [List.flatten_append]; simp only [List.flatten_cons, List.flatten_nil, List.append_nil]; rw [List.append_assoc, ← q3, show (c.sp - 1 + 2).toNat = (c.sp + 1).toNat by omega])); (case e5 => (dsimp only; omega)))
  · have qf := fill_skip (f := pc wl at' many) g0 g1 (fun z => pc_n ‹¬ sg tm c.sp = 36›)
    ((try dsimp only [WPost]); refine' WEnd.intro (⟨c.D, c.ys ++ [Value.str (tx ([sg tm c.sp])) _], c.n + 1, c.L ++ [[sg tm c.sp]], c.sp - 1 + 2, _⟩) (by assumption) (by assumption) ?e1 ?e2 ?e3 ?e4 ?e5; (case e2 => (repeat' (first | exact True.intro | (refine And.intro ?_ ?_) | exact rfl))); (case e1 => (repeat' (first | exact True.intro | (refine And.intro ?_ ?_) | k_mem))); (case e3 => (intro z; dsimp only [OffB, OffN]; intro z1 z2 z3; first | rfl | (simp only [z1, z2, z3, if_false]; done))); (case e4 => (dsimp only; have q3 := hc.2.2.2.2.2.2; rw [qf] at q3; have hz : ([sg tm c.sp] : List Int).length ≤ 100 := (by (simp [seg]; try omega)); refine ⟨by omega, by omega, strs_snoc hc.2.2.1, by (first | (simp; done) | (simp; omega)), by (first | (simp; done) | (simp; omega)), by (rw [List.flatten_append, List.length_append]; simp only [List.flatten_cons, List.flatten_nil, List.append_nil]; omega), ?_⟩; rw [List.flatten_append]; simp only [List.flatten_cons, List.flatten_nil, List.append_nil]; rw [List.append_assoc, ← q3, show (c.sp - 1 + 2).toNat = (c.sp + 1).toNat by omega])); (case e5 => (dsimp only; omega)))
  · have e : c.sp = tm.length := by omega
    have q3 := hc.2.2.2.2.2.2
    have e2 : tm.drop c.sp.toNat = [] := List.drop_eq_nil_of_le (by omega)
    rw [e2] at q3
    rw [← tx_nil, tx_join, joinL_flat]
    exact ret _ _ _ (Fr.keep (by assumption)) ⟨_, by rw [← q3, fillL, List.append_nil]⟩
end Mine
end
-- part Rc
section
set_option maxRecDepth 100000
open PySem PySem.W PySem.Calls PyProof.Rows PyProof.V PySem.Spec
set_option Elab.async false
namespace Mine
theorem range_contains (r : Addr) (a b c k : Int) (t u v t' : Tok) :
    Meets (Builtin.«range.__contains__» ⟨[.ref r, .int k t'], []⟩) (fun _ R s => s.heap.get? r = some { cls := .type "range", dict := none, data := .fields #[.int a t, .int b u, .int c v], slots := #[] } ∧ R (.ok (.ret (.bool (Builtin.Range.rangePlace? a b c k).isSome))) s) :=
  .of_wp fun prog w A R s h => by obtain ⟨hp, g, d, tk, os⟩ := s; obtain ⟨hl, h⟩ := h; wp_walk; exact ⟨_, rfl, h⟩
section
variable {prog : Program} {w : World} {A : Around} {E : Value → Shared → Prop} {s : Shared}
theorem in_range {r : Addr} {a b k : Int} {t u v t' : Tok} {Q : Value → Shared → Prop} (hr : IsRange s.heap r a b 1 t u v) (h : Q (.bool (decide (a ≤ k ∧ k < b))) s) : wpAny (model prog w) A (compareOp .In (.int k t') (.ref r)) Q E s := by
  refine SeqRoads2.in_meets ⟨_, hr, rfl⟩ F.slot_range_contains F.entry_range_contains (F.args_range_contains_2 _ _) (range_contains r a b 1 k t u v t') ⟨hr, _, rfl, ?_⟩
  have e : (Builtin.Range.rangePlace? a b 1 k).isSome = decide (a ≤ k ∧ k < b) := by
    unfold Builtin.Range.rangePlace?
    simp only [show (1 : Int) > 0 by decide, if_true, Int.emod_one, beq_self_eq_true, Bool.and_true, Int.ediv_one]
    by_cases h1 : a ≤ k <;> by_cases h2 : k < b <;> simp [h1, h2]
  rw [e]; exact h
end
end Mine
end
-- part Li
section
set_option maxRecDepth 100000
open PySem PySem.W PySem.Calls PyProof.Rows PyProof.V PySem.Spec
set_option Elab.async false
namespace Mine
section
variable {prog : Program} {w : World} {A : Around} {E : Value → Shared → Prop} {s : Shared}
theorem item_last {value slice : Expr} {l : Addr} {vs : List Value} {ns : List Int} {u : Tok} {Q : Value → Shared → Prop} (hl : s.heap.IsList l vs.toArray) (hi : IntsAre vs ns) (hne : 0 < ns.length) (hsz : ns.length < 2 ^ 62)
    (h : ∀ z t, z = sg ns (ns.length - 1) → Q (.int z t) s)
    (hs : subscripted slice false (.ref l) (.int (-1) u) = operate [.ref l, .int (-1) u] (getItem (.ref l) (.int (-1) u)) := by with_unfolding_all rfl) (hg : ∀ r, letTemporaryGo value (.ref l) r = pure () := by intro _; with_unfolding_all rfl) :
    wpAny (model prog w) A (subscriptTail value slice (.ref l) (.int (-1) u)) Q E s := by
  have hln := hi.length
  obtain ⟨t, ht⟩ := hi.get (ns.length - 1) ns[ns.length - 1] (by simp)
  refine subscriptTail_builtin hl.typeIs slot_list_getitem.lookup (wpAny_getItem_list_neg hl (x := .int ns[ns.length - 1] t) (by decide) (by simp; omega) (by decide) ?_ ?_) hs hg
  · have e : ((-1 : Int) + (vs.toArray.size : Int)).toNat = ns.length - 1 := by simp; omega
    rw [e]; simpa using ht
  · have := h _ t rfl
    unfold sg at this
    have e : ((ns.length : Int) - 1).toNat = ns.length - 1 := by omega
    rw [e, List.getD_eq_getElem?_getD, List.getElem?_eq_getElem (by omega)] at this
    exact this
theorem item_at0 {value slice : Expr} {l : Addr} {vs : List Value} {ns : List Int} {k : Int} {u : Tok} {Q : Value → Shared → Prop} (hl : s.heap.IsList l vs.toArray) (hi : IntsAre vs ns) (h0 : 0 ≤ k) (h1 : k < ns.length) (hsz : ns.length < 2 ^ 62)
    (h : ∀ z t, z = sg ns k → Q (.int z t) s)
    (hs : subscripted slice false (.ref l) (.int k u) = operate [.ref l, .int k u] (getItem (.ref l) (.int k u)) := by with_unfolding_all rfl) (hg : ∀ r, letTemporaryGo value (.ref l) r = pure () := by intro _; with_unfolding_all rfl) :
    wpAny (model prog w) A (subscriptTail value slice (.ref l) (.int k u)) Q E s := by
  have hk : k.toNat < ns.length := by omega
  obtain ⟨t, ht⟩ := hi.get k.toNat ns[k.toNat] (by simp [hk])
  refine item_listL hl h0 (by omega) ht ?_ hs hg
  have := h _ t rfl
  unfold sg at this
  rw [List.getD_eq_getElem?_getD, List.getElem?_eq_getElem hk] at this
  exact this
end
end Mine
end
-- part Lt
section
set_option maxRecDepth 100000
open PySem PySem.W PySem.Calls PyProof.Rows PyProof.V PySem.Spec
set_option Elab.async false
namespace Mine
open AutoSeq1 (wpAny_loadPart')

set_option maxHeartbeats 2000000 in
theorem lt_loop (l b : Addr) (vs ws : List Value) (ns ms : List Int) (hi : IntsAre vs ns) (hj : IntsAre ws ms) (n n2 : Nat) (dd dd2 : Option Addr) (sl sl2 : Array (Option Value)) (k : Nat) :
    ∀ i : Nat, i ≤ ns.length → i ≤ ms.length → ns.length - i = k → Meets (Builtin.«list.__eq__.loop» ⟨[.ref l, .ref b, rawInt i, rawInt 0], []⟩)
      (fun _ R s => s.heap.get? l = some { cls := .type "list", dict := dd, data := .seq vs.toArray n, slots := sl } ∧ s.heap.get? b = some { cls := .type "list", dict := dd2, data := .seq ws.toArray n2, slots := sl2 } ∧
        R (.ok (.ret (.bool (decide (ordL (ns.drop i) (ms.drop i) < 0))))) s) := by
  induction k with
  | zero =>
    intro i h1 h2 hk prog w A R s h
    obtain ⟨hp, g, d, tk, os⟩ := s; obtain ⟨hl, hb, h⟩ := h
    have e0 : i = ns.length := by omega
    wp_walk using wpAny_loadPart' hl, wpAny_loadPart' hb
    have hi1 : vs.toArray[((i : Nat) : Int).toNat]? = none := by simp [hi.length]; omega
    rw [hi1]
    wp_walk using wpAny_loadPart' hl, wpAny_loadPart' hb
    have e : decide (ordL (ns.drop i) (ms.drop i) < 0) = decide (vs.toArray.size < ws.toArray.size) := by
      rw [List.drop_eq_nil_of_le (by omega : ns.length ≤ i)]
      simp only [List.size_toArray, hi.length, hj.length]
      cases q : ms.drop i with
      | nil => have := congrArg List.length q; simp at this; simp [ordL]; omega
      | cons y r => have := congrArg List.length q; simp at this; simp [ordL]; omega
    rw [e] at h
    exact h
  | succ k ih =>
    intro i h1 h2 hk prog w A R s h
    obtain ⟨hp, g, d, tk, os⟩ := s; obtain ⟨hl, hb, h⟩ := h
    wp_walk using wpAny_loadPart' hl, wpAny_loadPart' hb
    have hlt : i < ns.length := by omega
    obtain ⟨t, q1⟩ := hi.get i ns[i] (by simp [hlt])
    have hi1 : vs.toArray[((i : Nat) : Int).toNat]? = some (.int ns[i] t) := by simpa using q1
    rw [hi1]
    by_cases hlt2 : i < ms.length
    · obtain ⟨u, q2⟩ := hj.get i ms[i] (by simp [hlt2])
      have hi2 : ws.toArray[((i : Nat) : Int).toNat]? = some (.int ms[i] u) := by simpa using q2
      have hc : ((i : Int) + 1) = ((i + 1 : Nat) : Int) := by push_cast; rfl
      have hd : ordL (ns.drop i) (ms.drop i) = if ns[i] = ms[i] then ordL (ns.drop (i + 1)) (ms.drop (i + 1)) else if ns[i] < ms[i] then -1 else 1 := by
        rw [List.drop_eq_getElem_cons hlt, List.drop_eq_getElem_cons hlt2]; rfl
      rw [hd] at h
      rw [hi2]
      refine wpAny_bind (MeetsSeq.EqGives.int ns[i] ms[i] t u prog w _ _ _ _ ?_)
      by_cases he : ns[i] = ms[i]
      · rw [if_pos he] at h
        have hb' : (ns[i] == ms[i]) = true := by simp [he]
        rw [hb']
        wp_walk
        rw [hc]
        exact ⟨plainId_quiet MeetsSeq3.plain_eq_loop _, codeAny_builtin MeetsSeq3.entry_eq_loop (by
          rw [Around.under_plainId MeetsSeq3.plain_eq_loop _]
          exact ih (i + 1) (by omega) (by omega) (by omega) prog w A R _ ⟨hl, hb, h⟩)⟩
      · rw [if_neg he] at h
        have hb' : (ns[i] == ms[i]) = false := by simp [he]
        rw [hb']
        wp_walk using wpAny_loadPart' hl, wpAny_loadPart' hb
        rw [hi1, hi2]
        show wpAny _ _ (richCompare CmpOp.Lt (Value.int ns[i] t) (Value.int ms[i] u) >>= fun v => PySem.ret v) _ _ _
        refine wpAny_bind (lt_int ?_)
        wp_walk
        have e : decide ((if ns[i] < ms[i] then (-1 : Int) else 1) < 0) = decide (ns[i] < ms[i]) := by split <;> simp [*]
        rw [e] at h
        first | exact h | exact ⟨_, rfl, h⟩
    · have hi2 : ws.toArray[((i : Nat) : Int).toNat]? = none := by simp [hj.length]; omega
      rw [hi2]
      wp_walk using wpAny_loadPart' hl, wpAny_loadPart' hb
      have e : decide (ordL (ns.drop i) (ms.drop i) < 0) = decide (vs.toArray.size < ws.toArray.size) := by
        rw [List.drop_eq_nil_of_le (by omega : ms.length ≤ i), List.drop_eq_getElem_cons hlt]
        simp only [List.size_toArray, hi.length, hj.length, ordL]
        simp; omega
      rw [e] at h
      first | exact h | exact ⟨_, rfl, h⟩
set_option maxHeartbeats 2000000 in
theorem gt_loop (l b : Addr) (vs ws : List Value) (ns ms : List Int) (hi : IntsAre vs ns) (hj : IntsAre ws ms) (n n2 : Nat) (dd dd2 : Option Addr) (sl sl2 : Array (Option Value)) (k : Nat) :
    ∀ i : Nat, i ≤ ns.length → i ≤ ms.length → ns.length - i = k → Meets (Builtin.«list.__eq__.loop» ⟨[.ref l, .ref b, rawInt i, rawInt 4], []⟩)
      (fun _ R s => s.heap.get? l = some { cls := .type "list", dict := dd, data := .seq vs.toArray n, slots := sl } ∧ s.heap.get? b = some { cls := .type "list", dict := dd2, data := .seq ws.toArray n2, slots := sl2 } ∧
        R (.ok (.ret (.bool (decide (ordL (ns.drop i) (ms.drop i) > 0))))) s) := by
  induction k with
  | zero =>
    intro i h1 h2 hk prog w A R s h
    obtain ⟨hp, g, d, tk, os⟩ := s; obtain ⟨hl, hb, h⟩ := h
    have e0 : i = ns.length := by omega
    wp_walk using wpAny_loadPart' hl, wpAny_loadPart' hb
    have hi1 : vs.toArray[((i : Nat) : Int).toNat]? = none := by simp [hi.length]; omega
    rw [hi1]
    wp_walk using wpAny_loadPart' hl, wpAny_loadPart' hb
    have e : decide (ordL (ns.drop i) (ms.drop i) > 0) = decide (vs.toArray.size > ws.toArray.size) := by
      rw [List.drop_eq_nil_of_le (by omega : ns.length ≤ i)]
      simp only [List.size_toArray, hi.length, hj.length]
      cases q : ms.drop i with
      | nil => have := congrArg List.length q; simp at this; simp [ordL]; omega
      | cons y r => have := congrArg List.length q; simp at this; simp [ordL]; omega
    rw [e] at h
    exact h
  | succ k ih =>
    intro i h1 h2 hk prog w A R s h
    obtain ⟨hp, g, d, tk, os⟩ := s; obtain ⟨hl, hb, h⟩ := h
    wp_walk using wpAny_loadPart' hl, wpAny_loadPart' hb
    have hlt : i < ns.length := by omega
    obtain ⟨t, q1⟩ := hi.get i ns[i] (by simp [hlt])
    have hi1 : vs.toArray[((i : Nat) : Int).toNat]? = some (.int ns[i] t) := by simpa using q1
    rw [hi1]
    by_cases hlt2 : i < ms.length
    · obtain ⟨u, q2⟩ := hj.get i ms[i] (by simp [hlt2])
      have hi2 : ws.toArray[((i : Nat) : Int).toNat]? = some (.int ms[i] u) := by simpa using q2
      have hc : ((i : Int) + 1) = ((i + 1 : Nat) : Int) := by push_cast; rfl
      have hd : ordL (ns.drop i) (ms.drop i) = if ns[i] = ms[i] then ordL (ns.drop (i + 1)) (ms.drop (i + 1)) else if ns[i] < ms[i] then -1 else 1 := by
        rw [List.drop_eq_getElem_cons hlt, List.drop_eq_getElem_cons hlt2]; rfl
      rw [hd] at h
      rw [hi2]
      refine wpAny_bind (MeetsSeq.EqGives.int ns[i] ms[i] t u prog w _ _ _ _ ?_)
      by_cases he : ns[i] = ms[i]
      · rw [if_pos he] at h
        have hb' : (ns[i] == ms[i]) = true := by simp [he]
        rw [hb']
        wp_walk
        rw [hc]
        exact ⟨plainId_quiet MeetsSeq3.plain_eq_loop _, codeAny_builtin MeetsSeq3.entry_eq_loop (by
          rw [Around.under_plainId MeetsSeq3.plain_eq_loop _]
          exact ih (i + 1) (by omega) (by omega) (by omega) prog w A R _ ⟨hl, hb, h⟩)⟩
      · rw [if_neg he] at h
        have hb' : (ns[i] == ms[i]) = false := by simp [he]
        rw [hb']
        wp_walk using wpAny_loadPart' hl, wpAny_loadPart' hb
        rw [hi1, hi2]
        show wpAny _ _ (richCompare CmpOp.Gt (Value.int ns[i] t) (Value.int ms[i] u) >>= fun v => PySem.ret v) _ _ _
        refine wpAny_bind (gt_int ?_)
        wp_walk
        have e : decide ((if ns[i] < ms[i] then (-1 : Int) else 1) > 0) = decide (ns[i] > ms[i]) := by (split <;> simp <;> omega)
        rw [e] at h
        first | exact h | exact ⟨_, rfl, h⟩
    · have hi2 : ws.toArray[((i : Nat) : Int).toNat]? = none := by simp [hj.length]; omega
      rw [hi2]
      wp_walk using wpAny_loadPart' hl, wpAny_loadPart' hb
      have e : decide (ordL (ns.drop i) (ms.drop i) > 0) = decide (vs.toArray.size > ws.toArray.size) := by
        rw [List.drop_eq_nil_of_le (by omega : ms.length ≤ i), List.drop_eq_getElem_cons hlt]
        simp only [List.size_toArray, hi.length, hj.length, ordL]
        simp; omega
      rw [e] at h
      first | exact h | exact ⟨_, rfl, h⟩

theorem list_lt (l b : Addr) (vs ws : List Value) (ns ms : List Int) (hi : IntsAre vs ns) (hj : IntsAre ws ms) (n n2 : Nat) (dd dd2 : Option Addr) (sl sl2 : Array (Option Value)) :
    Meets (Builtin.«list.__lt__» ⟨[.ref l, .ref b], []⟩)
      (fun _ R s => s.heap.get? l = some { cls := .type "list", dict := dd, data := .seq vs.toArray n, slots := sl } ∧ s.heap.get? b = some { cls := .type "list", dict := dd2, data := .seq ws.toArray n2, slots := sl2 } ∧
        R (.ok (.ret (.bool (decide (ordL ns ms < 0))))) s) := by
  intro prog w A R s h
  obtain ⟨hp, g, d, tk, os⟩ := s; obtain ⟨hl, hb, h⟩ := h
  have f3 := AutoSeq1.sub_list_list
  wp_walk using wpAny_loadPart' hl, wpAny_loadPart' hb
  exact ⟨plainId_quiet MeetsSeq3.plain_eq_loop _, codeAny_builtin MeetsSeq3.entry_eq_loop (by
    rw [Around.under_plainId MeetsSeq3.plain_eq_loop _]
    exact lt_loop l b vs ws ns ms hi hj n n2 dd dd2 sl sl2 _ 0 (Nat.zero_le _) (Nat.zero_le _) rfl prog w A R _ ⟨hl, hb, by simpa using h⟩)⟩
theorem list_gt (l b : Addr) (vs ws : List Value) (ns ms : List Int) (hi : IntsAre vs ns) (hj : IntsAre ws ms) (n n2 : Nat) (dd dd2 : Option Addr) (sl sl2 : Array (Option Value)) :
    Meets (Builtin.«list.__gt__» ⟨[.ref l, .ref b], []⟩)
      (fun _ R s => s.heap.get? l = some { cls := .type "list", dict := dd, data := .seq vs.toArray n, slots := sl } ∧ s.heap.get? b = some { cls := .type "list", dict := dd2, data := .seq ws.toArray n2, slots := sl2 } ∧
        R (.ok (.ret (.bool (decide (ordL ns ms > 0))))) s) := by
  intro prog w A R s h
  obtain ⟨hp, g, d, tk, os⟩ := s; obtain ⟨hl, hb, h⟩ := h
  have f3 := AutoSeq1.sub_list_list
  wp_walk using wpAny_loadPart' hl, wpAny_loadPart' hb
  exact ⟨plainId_quiet MeetsSeq3.plain_eq_loop _, codeAny_builtin MeetsSeq3.entry_eq_loop (by
    rw [Around.under_plainId MeetsSeq3.plain_eq_loop _]
    exact gt_loop l b vs ws ns ms hi hj n n2 dd dd2 sl sl2 _ 0 (Nat.zero_le _) (Nat.zero_le _) rfl prog w A R _ ⟨hl, hb, by simpa using h⟩)⟩
section
variable {prog : Program} {w : World} {A : Around} {E : Value → Shared → Prop} {s : Shared}
theorem lt_lists {l b : Addr} {vs ws : List Value} {ns ms : List Int} {Q : Value → Shared → Prop} (hu : A.units < cLine) (hl : s.heap.IsList l vs.toArray) (hb : s.heap.IsList b ws.toArray) (hi : IntsAre vs ns) (hj : IntsAre ws ms)
    (h : Q (.bool (decide (ordL ns ms < 0))) s) : wpAny (model prog w) A (compareOp .Lt (.ref l) (.ref b)) Q E s := by
  obtain ⟨⟨cls, dd, data, sl⟩, ho, hc, n, hd⟩ := hl
  obtain ⟨⟨cls2, dd2, data2, sl2⟩, ho2, hc2, n2, hd2⟩ := hb
  simp only at hc hd hc2 hd2
  subst hc hd hc2 hd2
  exact richCompare_meets_room (op := .Lt) ⟨_, ho, rfl⟩ ⟨_, ho2, rfl⟩ F.slot_list_lt F.entry_list_lt (F.args_list_lt_2 _ _) (list_lt l b vs ws ns ms hi hj n n2 dd dd2 sl sl2) ⟨ho, ho2, (fun x => nomatch x), h⟩ hu
theorem gt_lists {l b : Addr} {vs ws : List Value} {ns ms : List Int} {Q : Value → Shared → Prop} (hu : A.units < cLine) (hl : s.heap.IsList l vs.toArray) (hb : s.heap.IsList b ws.toArray) (hi : IntsAre vs ns) (hj : IntsAre ws ms)
    (h : Q (.bool (decide (ordL ns ms > 0))) s) : wpAny (model prog w) A (compareOp .Gt (.ref l) (.ref b)) Q E s := by
  obtain ⟨⟨cls, dd, data, sl⟩, ho, hc, n, hd⟩ := hl
  obtain ⟨⟨cls2, dd2, data2, sl2⟩, ho2, hc2, n2, hd2⟩ := hb
  simp only at hc hd hc2 hd2
  subst hc hd hc2 hd2
  exact richCompare_meets_room (op := .Gt) ⟨_, ho, rfl⟩ ⟨_, ho2, rfl⟩ F.slot_list_gt F.entry_list_gt (F.args_list_gt_2 _ _) (list_gt l b vs ws ns ms hi hj n n2 dd dd2 sl sl2) ⟨ho, ho2, (fun x => nomatch x), h⟩ hu
end
end Mine
end
-- part C1
section
set_option maxRecDepth 100000
open PySem PySem.W PySem.Calls PyProof.Rows
set_option Elab.async false
namespace Mine
variable (w : World) (mean : ExcName → Option Value) (mg mb : Str → Option Value)

theorem rangeKs_snoc (n : Nat) : rangeKs 0 (n + 1) = rangeKs 0 n ++ [(n : Int)] := by
  simp [rangeKs, List.range_succ]
theorem kept_eq {cs : List Int} {lo hi : Int} (h0 : 0 ≤ lo) : ∀ n : Nat, n ≤ cs.length → ((rangeKs 0 n).filter (fun k => decide (lo ≤ k ∧ k < hi))).map (fun k => sg cs k) = seg cs lo (min hi n)
  | 0, _ => by rw [seg_out (by omega)]; rfl
  | n + 1, h => by
    have ih := kept_eq (cs := cs) (lo := lo) (hi := hi) h0 n (by omega)
    rw [rangeKs_snoc, List.filter_append, List.map_append, ih]
    by_cases c : lo ≤ (n : Int) ∧ (n : Int) < hi
    · have e1 : min hi (n : Int) = n := by omega
      have e2 : min hi ((n + 1 : Nat) : Int) = (n : Int) + 1 := by omega
      rw [e1, e2, seg_next h0 c.1 (by omega)]
      simp [c]
    · simp only [List.filter_cons, c, decide_false, Bool.false_eq_true, if_false, List.filter_nil, List.map_nil, List.append_nil]
      by_cases c1 : (n : Int) < lo
      · rw [seg_out (by omega), seg_out (by omega)]
      · have : min hi (n : Int) = min hi ((n + 1 : Nat) : Int) := by omega
        rw [this]
theorem kept_seg {cs : List Int} {lo hi : Int} (h0 : 0 ≤ lo) {n : Nat} (hn : n = cs.length) : ((rangeKs 0 n).filter (fun k => decide (lo ≤ k ∧ k < hi))).map (fun k => sg cs k) = seg cs lo hi := by
  subst hn
  rw [kept_eq h0 _ (Nat.le_refl _)]
  unfold seg
  by_cases c : hi ≤ (cs.length : Int)
  · rw [Int.min_eq_left c]
  · rw [Int.min_eq_right (by omega)]
    exact seg_eq cs (by omega) (.inl rfl)

theorem st_take {cs : List Int} {k : Int} {m : Nat} : (cs.drop k.toNat).take (min (k + m).toNat cs.length - k.toNat) = (cs.drop k.toNat).take m ∨ k < 0 := by
  by_cases h : k < 0
  · exact .inr h
  · exact .inl (seg_eq cs (by omega) (.inl rfl))

set_option maxHeartbeats 8000000
theorem w_kept (l r : Addr) (vs : List Value) (cs : List Int) (lo' hi' : Int) (t u v) : Pure1 w mean mg mb 160 20 200 (fun h => h.IsList l vs.toArray ∧ IntsAre vs cs ∧ IsRange h r lo' hi' 1 t u v ∧ Oks cs ∧ cs.length ≤ 100 ∧ 0 ≤ lo' ∧ lo' ≤ 100 ∧ 0 ≤ hi' ∧ hi' ≤ 100) [.ref l, .ref r]
   (fun _ r => ∃ t, r = .str (tx (seg cs lo' hi')) t) := by
  unfold Pure1; k_fill; intro dp un gd fr s Q E X T hpre hdp hun ret; refine wpAny_call ?_; k_dflt (refine' enterGC (g := s.heap) (news := []) ?k1 ?k2 ?g1 ?g2 ?g3 ?k6 ?k7 ?k8 ?k9 ?kB ?kD ?_ ?c2 ?c3 ?c4; (case k1 => assumption); (case k2 => assumption); (case g1 => exact fun _ _ e => e); (case g2 => exact Nat.le_refl _); (case g3 => exact fun _ hq => nomatch hq); (case k6 => k_is); (case k7 => k_is); (case k8 => ktr_room); (case k9 => exact BindsTo.of_eq rfl); (case kB => exact rfl); (case kD => decide +kernel); (case c2 => exact rfl); (case c3 => exact rfl); (case c4 => exact rfl); k_whole; intro L' h' tk' cells' F' N' Y' l1; (clear l1); k_cells Y'; (try simp only [List.cons_append, List.nil_append] at N'); (try dsimp only); (try k_fold))
  k_with_none
  k_with "own ne" => (refine neN ?_; (try dsimp only); first | assumption | exact Ne.symm (by assumption) | exact Nat.ne_of_gt (by assumption) | exact Nat.ne_of_lt (by assumption) | fail "none")
  k_with "own room" => first | exact room1 hdp rfl | fail "none"
  k_with "own units" => first | exact units1 hun rfl | fail "none"
  k_with "eval Call Name" => refine Call_ ?_
  k_with "pyIter ref" => k_extra "my loop"
  k_with "exec While" => k_extra "my while"
  k_with "call builtin:len" => (k_here; (with_reducible show wpAny _ _ (call (Value.builtin "len") [Value.ref _]) _ _ _); k_dflt (refine' call_len_list (News.isList ?k1 ?k2) ?k3 ?_; (case k1 => k_asm); (case k2 => k_mem); (case k3 => (simp only [List.push_toArray, List.size_toArray, Array.size_push, List.length_append, List.length_cons, List.length_nil]; omega))))
  k_with "CompEnd" => k_extra "my end"
  k_with "CompSrcT" => k_extra "my comp"
  k_with "CompSrc" => k_extra "my comp"
  k_with "eval ListComp" => (k_here; k_dflt (first | ((with_reducible show wpAny _ _ (eval (Expr.ListComp _ [⟨Expr.Name _ _, _, [_], _⟩] _ _) _) _ _ _); refine LCt.ListComp_T (F₀ := by k_asm) (by with_unfolding_all rfl) (by decide) (by rfl) (by decide) (by rfl) ?_) | (refine LCg.ListComp_U (F₀ := by k_asm) (by with_unfolding_all rfl) (by decide) (by rfl) (by decide) (by rfl) ?_)))
  k_with "exec Assign cons ListComp" => (k_here; k_dflt (first | ((with_reducible show wpAny _ _ (exec (Stmt.Assign _ (Expr.ListComp _ [⟨Expr.Name _ _, _, [_], _⟩] _ _) _) _) _ _ _); refine LCt.Assign_ListComp_T (F₀ := by k_asm) (by rfl) (by with_unfolding_all rfl) (by with_unfolding_all rfl) (by decide) (by rfl) (by decide) (by rfl) (by rfl) (by rfl) ?_) | (refine LCg.Assign_ListComp_U (F₀ := by k_asm) (by rfl) (by with_unfolding_all rfl) (by with_unfolding_all rfl) (by decide) (by rfl) (by decide) (by rfl) (by rfl) (by rfl) ?_)))
  k_with "call ref" => (k_here; (with_reducible show wpAny _ _ (call (Value.ref 133) _) _ _ _); k_dflt (refine' Pure1.use (w_textfrom _ _ _ _ _ _ _) ?k1 ?k2 ?k3 ?k4 ?k5 ?k6 ?k7 ?k8 ?_; (case k1 => k_asm); (case k2 => k_asm); (case k3 => k_asm); (case k4 => k_asm); (case k5 => rfl); (case k6 => ((repeat' apply And.intro) <;> (first | with_reducible assumption | ((with_reducible show Heap.IsList _ _ _); first | exact Heap.IsList.at (by assumption) (Fr.keep (by assumption) _) | exact News.isList (by assumption) (by k_mem) | k_extra "my pre") | exact IntsAre.nil | exact (fun _ hc => absurd hc List.not_mem_nil) | k_extra "my pre" | (first | assumption | exact Nat.le_trans (by assumption) (Nat.le_of_ble_eq_true rfl) | exact Nat.lt_of_le_of_lt (by assumption) (Nat.le_of_ble_eq_true rfl) | exact Int.natCast_nonneg _ | exact Int.le_trans (by assumption) (by decide) | exact Int.lt_of_le_of_lt (by assumption) (by decide) | exact Int.lt_of_lt_of_le (by assumption) (by decide) | ((repeat (rename (@LT.lt Nat _ _ _) ∧ _ => hxx; clear hxx)); (repeat (rename (@Ne Nat _ _) ∧ _ => hxx; clear hxx)); (repeat (rename (@Ne Nat _ _ ∧ _) ∧ _ => hxx; clear hxx)); omega)) | trivial | (dsimp only; omega) | assumption))); (case k7 => ktr_room); (case k8 => ktr_units)); intro r' h' tk' F' N' hr'; (try k_sweep); obtain ⟨tr', er'⟩ := hr'; subst er')
  k_with "compareOp In int ref" => k_extra "my in"
  obtain ⟨hl, hi, hr, ho, hz, h1, h2, h3, h4⟩ := hpre
  have hln := hi.length
  have hos : Oks (seg cs lo' hi') := ho.seg _ _
  have hzs : (seg cs lo' hi').length ≤ 1000 := by simp [seg]; omega
  k_with "my comp" => (k_here; k_dflt (refine LCt.CompSrcT.range (by rfl) (by k_asm) (by k_asm) (by assumption) (small_one (by ((try simp only [List.size_toArray]); omega)) (by ((try simp only [List.size_toArray]); omega)) (by ((try simp only [List.size_toArray]); omega)) (by ((try simp only [List.size_toArray]); omega))) (rangeSize_nat _ _) (by (rw [PySem.sizeLine_eq]; ((try simp only [List.size_toArray]); omega))) ?_; intro gS; refine' ct_range (fun k => decide (lo' ≤ k ∧ k < hi')) (fun k => sg cs k) (fun kC tC IC oIC CC oCC DC mC ysC h' tk' EC RC k1 k2 hC' hx' F' N' off' ne' hT hF => ?_) (fun ysC hYs => ?_)); rotate_left; (k_dflt (rw [kept_seg h1 (by omega)] at hYs)); rotate_left; (all_goals (try (simp only [LCg.Off3, and_true] at off'))); (all_goals (try k_fold)))
  k_with "my end" => (k_here; k_dflt (first
    | (refine' LCg.CompEnd.intro (by assumption) (by assumption) _ ?sub ?off ?S ⟨_, _, rfl, hT ?_⟩; (case sub => kcf_all); (case off => first | assumption | (simp only [LCg.Off3, and_true]; done) | (simp only [LCg.Off3, and_true]; assumption)); (case S => first | lcg_src | assumption | trivial))
    | (refine' LCg.CompEnd.intro (by assumption) (by assumption) _ ?sub ?off ?S (hF ?_); (case sub => kcf_all); (case off => first | assumption | (simp only [LCg.Off3, and_true]; done) | (simp only [LCg.Off3, and_true]; assumption)); (case S => first | lcg_src | assumption | trivial))))
  k_with "my in" => (k_here; k_dflt (refine in_range (Fr.keep (by assumption) _ _ hr) ?_))
  (repeat' (first | (k_unfold; (try dsimp only)) | (refine id ?_; k_unfold; (try dsimp only)) | (walk1; (all_goals (try (first | ((with_reducible show wpAny _ _ (exec _ _) _ _ _); k_fold) | ((with_reducible show wpAny _ _ (call _ _) _ _ _); k_fold))))) | (dsimp only; first | (walk1; (all_goals (try (first | ((with_reducible show wpAny _ _ (exec _ _) _ _ _); k_fold) | ((with_reducible show wpAny _ _ (call _ _) _ _ _); k_fold))))) | skip) | fail "no step"))
  · simpa using ‹¬(lo' ≤ kC ∧ kC < hi')›
  · exact ret _ _ _ (Fr.keep (by assumption)) ⟨_, rfl⟩
theorem w_places (l r : Addr) (vs vs2 : List Value) (cs ws : List Int) : PureL w mean mg mb 150 20 200 (fun h => h.IsList l vs.toArray ∧ IntsAre vs cs ∧ h.IsList r vs2.toArray ∧ IntsAre vs2 ws ∧ cs.length ≤ 100 ∧ ws.length ≤ 100) [.ref l, .ref r]
   (fun ys => IntsAre ys ((rangeKs 0 (cs.length - ws.length + 1 : Int).toNat).filter (St cs ws))) := by
  unfold PureL; k_fill; intro dp un gd fr s Q E X T hpre hdp hun ret; refine wpAny_call ?_; k_dflt (refine' enterGC (g := s.heap) (news := []) ?k1 ?k2 ?g1 ?g2 ?g3 ?k6 ?k7 ?k8 ?k9 ?kB ?kD ?_ ?c2 ?c3 ?c4; (case k1 => assumption); (case k2 => assumption); (case g1 => exact fun _ _ e => e); (case g2 => exact Nat.le_refl _); (case g3 => exact fun _ hq => nomatch hq); (case k6 => k_is); (case k7 => k_is); (case k8 => ktr_room); (case k9 => exact BindsTo.of_eq rfl); (case kB => exact rfl); (case kD => decide +kernel); (case c2 => exact rfl); (case c3 => exact rfl); (case c4 => exact rfl); k_whole; intro L' h' tk' cells' F' N' Y' l1; (clear l1); k_cells Y'; (try simp only [List.cons_append, List.nil_append] at N'); (try dsimp only); (try k_fold))
  k_with_none
  k_with "own ne" => (refine neN ?_; (try dsimp only); first | assumption | exact Ne.symm (by assumption) | exact Nat.ne_of_gt (by assumption) | exact Nat.ne_of_lt (by assumption) | fail "none")
  k_with "own room" => first | exact room1 hdp rfl | fail "none"
  k_with "own units" => first | exact units1 hun rfl | fail "none"
  k_with "eval Call Name" => refine Call_ ?_
  k_with "pyIter ref" => k_extra "my loop"
  k_with "exec While" => k_extra "my while"
  k_with "call builtin:len" => (k_here; (with_reducible show wpAny _ _ (call (Value.builtin "len") [Value.ref _]) _ _ _); k_dflt (refine' call_len_list (News.isList ?k1 ?k2) ?k3 ?_; (case k1 => k_asm); (case k2 => k_mem); (case k3 => (simp only [List.push_toArray, List.size_toArray, Array.size_push, List.length_append, List.length_cons, List.length_nil]; omega))))
  k_with "CompEnd" => k_extra "my end"
  k_with "CompSrcT" => k_extra "my comp"
  k_with "CompSrc" => k_extra "my comp"
  k_with "eval ListComp" => (k_here; k_dflt (first | ((with_reducible show wpAny _ _ (eval (Expr.ListComp _ [⟨Expr.Name _ _, _, [_], _⟩] _ _) _) _ _ _); refine LCt.ListComp_T (F₀ := by k_asm) (by with_unfolding_all rfl) (by decide) (by rfl) (by decide) (by rfl) ?_) | (refine LCg.ListComp_U (F₀ := by k_asm) (by with_unfolding_all rfl) (by decide) (by rfl) (by decide) (by rfl) ?_)))
  k_with "exec Assign cons ListComp" => (k_here; k_dflt (first | ((with_reducible show wpAny _ _ (exec (Stmt.Assign _ (Expr.ListComp _ [⟨Expr.Name _ _, _, [_], _⟩] _ _) _) _) _ _ _); refine LCt.Assign_ListComp_T (F₀ := by k_asm) (by rfl) (by with_unfolding_all rfl) (by with_unfolding_all rfl) (by decide) (by rfl) (by decide) (by rfl) (by rfl) (by rfl) ?_) | (refine LCg.Assign_ListComp_U (F₀ := by k_asm) (by rfl) (by with_unfolding_all rfl) (by with_unfolding_all rfl) (by decide) (by rfl) (by decide) (by rfl) (by rfl) (by rfl) ?_)))
  k_with "call ref" => (k_here; (with_reducible show wpAny _ _ (call (Value.ref 133) _) _ _ _); k_dflt (refine' Pure1.use (w_textfrom _ _ _ _ _ _ _) ?k1 ?k2 ?k3 ?k4 ?k5 ?k6 ?k7 ?k8 ?_; (case k1 => k_asm); (case k2 => k_asm); (case k3 => k_asm); (case k4 => k_asm); (case k5 => rfl); (case k6 => ((repeat' apply And.intro) <;> (first | with_reducible assumption | ((with_reducible show Heap.IsList _ _ _); first | exact Heap.IsList.at (by assumption) (Fr.keep (by assumption) _) | exact News.isList (by assumption) (by k_mem) | k_extra "my pre") | exact IntsAre.nil | exact (fun _ hc => absurd hc List.not_mem_nil) | k_extra "my pre" | (first | assumption | exact Nat.le_trans (by assumption) (Nat.le_of_ble_eq_true rfl) | exact Nat.lt_of_le_of_lt (by assumption) (Nat.le_of_ble_eq_true rfl) | exact Int.natCast_nonneg _ | exact Int.le_trans (by assumption) (by decide) | exact Int.lt_of_le_of_lt (by assumption) (by decide) | exact Int.lt_of_lt_of_le (by assumption) (by decide) | ((repeat (rename (@LT.lt Nat _ _ _) ∧ _ => hxx; clear hxx)); (repeat (rename (@Ne Nat _ _) ∧ _ => hxx; clear hxx)); (repeat (rename (@Ne Nat _ _ ∧ _) ∧ _ => hxx; clear hxx)); omega)) | trivial | (dsimp only; omega) | assumption))); (case k7 => ktr_room); (case k8 => ktr_units)); intro r' h' tk' F' N' hr'; (try k_sweep); obtain ⟨tr', er'⟩ := hr'; subst er')
  k_with "compareOp In int ref" => k_extra "my in"
  obtain ⟨hl, hi, hl2, hi2, hz, hz2⟩ := hpre
  have hln := hi.length
  have hln2 := hi2.length
  k_with "my comp" => (k_here; k_dflt (refine LCt.CompSrcT.range (by rfl) (by k_asm) (by k_asm) (by assumption) (small_one (by ((try simp only [List.size_toArray]); omega)) (by ((try simp only [List.size_toArray]); omega)) (by ((try simp only [List.size_toArray]); omega)) (by ((try simp only [List.size_toArray]); omega))) (rangeSize_nat _ _) (by (rw [PySem.sizeLine_eq]; ((try simp only [List.size_toArray]); omega))) ?_; intro gS; refine' ct_range (St cs ws) (fun k => k) (fun kC tC IC oIC CC oCC DC mC ysC h' tk' EC RC k1 k2 hC' hx' F' N' off' ne' hT hF => ?_) (fun ysC hYs => ?_)); rotate_left; (k_dflt (rw [List.map_id'] at hYs)); rotate_left; (all_goals (try (simp only [LCg.Off3, and_true] at off'))); (all_goals (try k_fold)))
  k_with "my end" => (k_here; k_dflt (first
    | (refine' LCg.CompEnd.intro (by assumption) (by assumption) _ ?sub ?off ?S ⟨_, _, rfl, hT ?_⟩; (case sub => kcf_all); (case off => first | assumption | (simp only [LCg.Off3, and_true]; done) | (simp only [LCg.Off3, and_true]; assumption)); (case S => first | lcg_src | assumption | trivial))
    | (refine' LCg.CompEnd.intro (by assumption) (by assumption) _ ?sub ?off ?S (hF ?_); (case sub => kcf_all); (case off => first | assumption | (simp only [LCg.Off3, and_true]; done) | (simp only [LCg.Off3, and_true]; assumption)); (case S => first | lcg_src | assumption | trivial))))
  (repeat' (first | (k_unfold; (try dsimp only)) | (refine id ?_; k_unfold; (try dsimp only)) | (walk1; (all_goals (try (first | ((with_reducible show wpAny _ _ (exec _ _) _ _ _); k_fold) | ((with_reducible show wpAny _ _ (call _ _) _ _ _); k_fold))))) | (dsimp only; first | (walk1; (all_goals (try (first | ((with_reducible show wpAny _ _ (exec _ _) _ _ _); k_fold) | ((with_reducible show wpAny _ _ (call _ _) _ _ _); k_fold))))) | skip) | fail "no step"))
  · rw [St_iff, ← (st_take (m := ws.length)).resolve_right (by omega)]; assumption
  · rw [Bool.eq_false_iff, ne_eq, St_iff, ← (st_take (m := ws.length)).resolve_right (by omega)]; assumption
  · rename News _ _ _ _ => nN
    rw [show ((cs.length : Int) - ws.length + 1 - 0) = (cs.length : Int) - ws.length + 1 by omega] at hYs
    exact ret _ ysC _ _ _ (Fr.keep (by assumption)) (News.fresh nN (.head _)) (News.get nN (.head _)) hYs
end Mine
end
-- part If
section
set_option maxRecDepth 100000
open PySem PySem.W PySem.Calls PyProof.Rows
set_option Elab.async false
namespace Mine
/-- the value is an int of which J holds; nothing else is changed -/
noncomputable def JoinPost (J : Int → Prop) (s : Shared) (v : Value) (s' : Shared) : Prop := ∃ z t tk, v = .int z t ∧ s' = { s with toks := tk } ∧ J z
theorem JoinPost.mk {J : Int → Prop} {s : Shared} {z : Int} {t : Tok} {tk : Nat} (h : J z) : JoinPost J s (.int z t) { s with toks := tk } := ⟨z, t, tk, rfl, rfl, h⟩
theorem join_int {M : Model} {A : Around} {env : Env} {s : Shared} {Q E : Value → Shared → Prop} {ex : Expr} (J : Int → Prop) (h : wpAny M A (eval ex env) (JoinPost J s) E s) (k : ∀ z t tk, J z → Q (.int z t) { s with toks := tk }) : wpAny M A (eval ex env) Q E s := by
  refine wpAny_mono h (fun v s' hq => ?_) (fun _ _ e => e)
  obtain ⟨z, t, tk, rfl, rfl, hJ⟩ := hq
  exact k z t tk hJ
theorem max_lat (a b n : Int) : min (max (min a n) (min b n)) n = min (max a b) n := by
  rcases Int.le_total a b with h | h
  · rw [Int.max_eq_right h, Int.max_eq_right (Int.le_min.mpr ⟨Int.le_trans (Int.min_le_left _ _) h, Int.min_le_right _ _⟩), Int.min_eq_left (Int.min_le_right _ _)]
  · rw [Int.max_eq_left h, Int.max_eq_left (Int.le_min.mpr ⟨Int.le_trans (Int.min_le_left _ _) h, Int.min_le_right _ _⟩), Int.min_eq_left (Int.min_le_right _ _)]
theorem min_lat (a b n : Int) : min (min (min a n) (min b n)) n = min (min a b) n := by
  rcases Int.le_total a b with h | h
  · rw [Int.min_eq_left h, Int.min_eq_left (Int.le_min.mpr ⟨Int.le_trans (Int.min_le_left _ _) h, Int.min_le_right _ _⟩), Int.min_eq_left (Int.min_le_right _ _)]
  · rw [Int.min_eq_right h, Int.min_eq_right (Int.le_min.mpr ⟨Int.le_trans (Int.min_le_left _ _) h, Int.min_le_right _ _⟩), Int.min_eq_left (Int.min_le_right _ _)]
theorem if_max {e : Int} : (if 0 > e then 0 else e) = max e 0 := by
  by_cases h : 0 > e
  · rw [if_pos h, Int.max_eq_right (Int.le_of_lt h)]
  · rw [if_neg h, Int.max_eq_left (Int.not_lt.mp h)]
theorem sub_lat (S e n : Int) (he : 0 ≤ e) : min (min S n + min e (n - min S n)) n = min (S + e) n := by
  rcases Int.le_total S n with h | h
  · rw [Int.min_eq_left h, show min e (n - S) = min (S + e) n - S by omega]; omega
  · rw [Int.min_eq_right h, Int.sub_self, Int.min_eq_right he, Int.add_zero, Int.min_self, Int.min_eq_right (Int.le_trans h (Int.le_add_of_nonneg_right he))]
theorem seg_cong {cs : List Int} {i j i' j' : Int} (h0 : 0 ≤ i) (h0' : 0 ≤ i') (hi : min i (cs.length : Int) = min i' cs.length) (hj : min j (cs.length : Int) = min j' cs.length) : seg cs i j = seg cs i' j' := by
  unfold seg
  refine seg_eq cs ?_ (cong_ends hi)
  intro k hk
  have e1 : (k : Int) + i < cs.length := by omega
  have e : i' = i := by rw [Int.min_eq_left (by omega)] at hi; omega
  rw [e, lt_sub_toNat, lt_sub_toNat, lt_min_iff _ _ _ e1, hj, ← lt_min_iff _ _ _ e1]
theorem pos_if {x : Int} : 0 ≤ if 0 > x then 0 else x := by rw [if_max]; exact Int.le_max_right _ _
theorem le_if {x : Int} (h : x ≤ 32) : (if 0 > x then 0 else x) ≤ 100 := by split <;> omega
theorem join_le {n : Nat} {a z : Int} (h : (0 ≤ a ∧ z = a) ∨ (a < 0 ∧ z = n + a)) (hn : n ≤ 20) (ha : a ≤ 12) : z ≤ 32 := by omega
theorem le_100 {n : Nat} (h : n ≤ 20) : n ≤ 100 := by omega
theorem le_1000 {n : Nat} (h : n ≤ 20) : n ≤ 1000 := by omega
theorem le_100i {n : Nat} (h : n ≤ 20) : (n : Int) ≤ 100 := by omega
theorem le_32 {a : Int} (h : a ≤ 12) : a ≤ 32 := by omega
theorem hi_eq {s e v n : Int} (h : max (max s 0) (max e 0) = v) : min (max (min (max s 0) n) (min (max e 0) n)) n = min v n := by subst h; exact max_lat _ _ _
theorem lo_eq {s e v n : Int} (h : min (max s 0) (max e 0) = v) : min (min (min (max s 0) n) (min (max e 0) n)) n = min v n := by subst h; exact min_lat _ _ _
theorem one_eq {s v n : Int} (h : max s 0 = v) : min (min (max s 0) n) n = min v n := by subst h; exact Int.min_eq_left (Int.min_le_right _ _)
theorem fe_eq {n : Nat} {a z : Int} (h : (0 ≤ a ∧ z = a) ∨ (a < 0 ∧ z = n + a)) : fromEnd a n = min (if 0 > z then 0 else z) n := by
  unfold fromEnd
  rw [if_max]
  rcases h with ⟨h, rfl⟩ | ⟨h, rfl⟩
  · rw [if_neg (Int.not_lt.mpr h), Int.max_eq_left h]
  · rw [if_pos h]; omega
theorem mm_eq {a n : Int} : min (min a n) n = min a n := Int.min_eq_left (Int.min_le_right _ _)
theorem sub_eq {S e : Int} {n : Nat} (hS : 0 ≤ S) : min (min S n + min (max e 0) (n - min S n)) n = min (S + if 0 > e then 0 else e) n := by rw [if_max]; exact sub_lat _ _ _ (Int.le_max_right _ _)
theorem pos_min {S : Int} {n : Nat} (h : 0 ≤ S) : 0 ≤ min S (n : Int) := Int.le_min.mpr ⟨h, Int.natCast_nonneg _⟩
end Mine
end
-- part C4
section
set_option maxRecDepth 100000
open PySem PySem.W PySem.Calls PyProof.Rows
set_option Elab.async false
namespace Mine
variable (w : World) (mean : ExcName → Option Value) (mg mb : Str → Option Value)

set_option maxHeartbeats 8000000
theorem w_cutsR (l : Addr) (vs : List Value) (cs : List Int) (start e : Int) (t1 t2) : Pure1 w mean mg mb 167 60 600 (fun h => h.IsList l vs.toArray ∧ IntsAre vs cs ∧ Oks cs ∧ cs.length ≤ 20 ∧ -12 ≤ start ∧ start ≤ 12 ∧ -12 ≤ e ∧ e ≤ 12) [.ref l, .int start t1, .int e t2] (fun _ r => r = .bool true) := by
  unfold Pure1; k_fill; intro dp un gd fr s Q E X T hpre hdp hun ret; refine wpAny_call ?_; k_dflt (refine' enterP ?k1 ?k2 ?k6 ?k7 ?k8 ?k9 ?kB ?_ ?c2 ?c3 ?c4 ?c5; (case k1 => assumption); (case k2 => assumption); (case k6 => k_is); (case k7 => k_is); (case k8 => ktr_room); (case k9 => exact BindsTo.of_eq rfl); (case c5 => decide); (case kB => exact locs rfl); (case c2 => exact rfl); (case c3 => exact rfl); (case c4 => exact rfl); k_whole; intro L' h' F' N'; (try dsimp only); (try k_fold))
  k_with_none
  k_with "own ne" => (refine neN ?_; (try dsimp only); first | assumption | exact Ne.symm (by assumption) | exact Nat.ne_of_gt (by assumption) | exact Nat.ne_of_lt (by assumption) | fail "none")
  k_with "own room" => first | exact room1 hdp rfl | fail "none"
  k_with "own units" => first | exact units1 hun rfl | fail "none"
  k_with "eval Call Name" => refine Call_ ?_
  k_with "pyIter ref" => k_extra "my loop"
  k_with "exec While" => k_extra "my while"
  k_with "call builtin:len" => (k_here; (with_reducible show wpAny _ _ (call (Value.builtin "len") [Value.ref _]) _ _ _); k_dflt (refine' call_len_list (News.isList ?k1 ?k2) ?k3 ?_; (case k1 => k_asm); (case k2 => k_mem); (case k3 => (simp only [List.push_toArray, List.size_toArray, Array.size_push, List.length_append, List.length_cons, List.length_nil]; omega))))
  k_with "CompEnd" => k_extra "my end"
  k_with "CompSrcT" => k_extra "my comp"
  k_with "CompSrc" => k_extra "my comp"
  k_with "eval ListComp" => (k_here; k_dflt (first | ((with_reducible show wpAny _ _ (eval (Expr.ListComp _ [⟨Expr.Name _ _, _, [_], _⟩] _ _) _) _ _ _); refine LCt.ListComp_T (F₀ := by k_asm) (by with_unfolding_all rfl) (by decide) (by rfl) (by decide) (by rfl) ?_) | (refine LCg.ListComp_U (F₀ := by k_asm) (by with_unfolding_all rfl) (by decide) (by rfl) (by decide) (by rfl) ?_)))
  k_with "exec Assign cons ListComp" => (k_here; k_dflt (first | ((with_reducible show wpAny _ _ (exec (Stmt.Assign _ (Expr.ListComp _ [⟨Expr.Name _ _, _, [_], _⟩] _ _) _) _) _ _ _); refine LCt.Assign_ListComp_T (F₀ := by k_asm) (by rfl) (by with_unfolding_all rfl) (by with_unfolding_all rfl) (by decide) (by rfl) (by decide) (by rfl) (by rfl) (by rfl) ?_) | (refine LCg.Assign_ListComp_U (F₀ := by k_asm) (by rfl) (by with_unfolding_all rfl) (by with_unfolding_all rfl) (by decide) (by rfl) (by decide) (by rfl) (by rfl) (by rfl) ?_)))
  k_with "call ref" => (k_here; (with_reducible show wpAny _ _ (call (Value.ref 133) _) _ _ _); k_dflt (refine' Pure1.use (w_textfrom _ _ _ _ _ _ _) ?k1 ?k2 ?k3 ?k4 ?k5 ?k6 ?k7 ?k8 ?_; (case k1 => k_asm); (case k2 => k_asm); (case k3 => k_asm); (case k4 => k_asm); (case k5 => rfl); (case k6 => ((repeat' apply And.intro) <;> (first | with_reducible assumption | ((with_reducible show Heap.IsList _ _ _); first | exact Heap.IsList.at (by assumption) (Fr.keep (by assumption) _) | exact News.isList (by assumption) (by k_mem) | k_extra "my pre") | exact IntsAre.nil | exact (fun _ hc => absurd hc List.not_mem_nil) | k_extra "my pre" | (first | assumption | exact Nat.le_trans (by assumption) (Nat.le_of_ble_eq_true rfl) | exact Nat.lt_of_le_of_lt (by assumption) (Nat.le_of_ble_eq_true rfl) | exact Int.natCast_nonneg _ | exact Int.le_trans (by assumption) (by decide) | exact Int.lt_of_le_of_lt (by assumption) (by decide) | exact Int.lt_of_lt_of_le (by assumption) (by decide) | ((repeat (rename (@LT.lt Nat _ _ _) ∧ _ => hxx; clear hxx)); (repeat (rename (@Ne Nat _ _) ∧ _ => hxx; clear hxx)); (repeat (rename (@Ne Nat _ _ ∧ _) ∧ _ => hxx; clear hxx)); omega)) | trivial | (dsimp only; omega) | assumption))); (case k7 => ktr_room); (case k8 => ktr_units)); intro r' h' tk' F' N' hr'; (try k_sweep); obtain ⟨tr', er'⟩ := hr'; subst er')
  k_with "call ref" => (k_here; (with_reducible show wpAny _ _ (call (Value.ref 51) _) _ _ _); k_dflt (refine' Pure1.use (w_slice _ _ _ _ _ _ _ _ _ _) ?k1 ?k2 ?k3 ?k4 ?k5 ?k6 ?k7 ?k8 ?_; (case k1 => k_asm); (case k2 => k_asm); (case k3 => k_asm); (case k4 => k_asm); (case k5 => rfl); (case k6 => ((repeat' apply And.intro) <;> (first | with_reducible assumption | ((with_reducible show Heap.IsList _ _ _); first | exact Heap.IsList.at (by assumption) (Fr.keep (by assumption) _) | exact News.isList (by assumption) (by k_mem) | k_extra "my pre") | exact IntsAre.nil | exact (fun _ hc => absurd hc List.not_mem_nil) | k_extra "my pre" | (first | assumption | exact Nat.le_trans (by assumption) (Nat.le_of_ble_eq_true rfl) | exact Nat.lt_of_le_of_lt (by assumption) (Nat.le_of_ble_eq_true rfl) | exact Int.natCast_nonneg _ | exact Int.le_trans (by assumption) (by decide) | exact Int.lt_of_le_of_lt (by assumption) (by decide) | exact Int.lt_of_lt_of_le (by assumption) (by decide) | ((repeat (rename (@LT.lt Nat _ _ _) ∧ _ => hxx; clear hxx)); (repeat (rename (@Ne Nat _ _) ∧ _ => hxx; clear hxx)); (repeat (rename (@Ne Nat _ _ ∧ _) ∧ _ => hxx; clear hxx)); omega)) | trivial | (dsimp only; omega) | assumption))); (case k7 => ktr_room); (case k8 => ktr_units)); intro r' h' tk' F' N' hr'; (try k_sweep); obtain ⟨tr', er'⟩ := hr'; subst er')
  k_with "call ref" => (k_here; (with_reducible show wpAny _ _ (call (Value.ref 51) _) _ _ _); k_dflt (refine' Pure1.use (w_sliceN _ _ _ _ _ _ _ _) ?k1 ?k2 ?k3 ?k4 ?k5 ?k6 ?k7 ?k8 ?_; (case k1 => k_asm); (case k2 => k_asm); (case k3 => k_asm); (case k4 => k_asm); (case k5 => rfl); (case k6 => ((repeat' apply And.intro) <;> (first | with_reducible assumption | ((with_reducible show Heap.IsList _ _ _); first | exact Heap.IsList.at (by assumption) (Fr.keep (by assumption) _) | exact News.isList (by assumption) (by k_mem) | k_extra "my pre") | exact IntsAre.nil | exact (fun _ hc => absurd hc List.not_mem_nil) | k_extra "my pre" | (first | assumption | exact Nat.le_trans (by assumption) (Nat.le_of_ble_eq_true rfl) | exact Nat.lt_of_le_of_lt (by assumption) (Nat.le_of_ble_eq_true rfl) | exact Int.natCast_nonneg _ | exact Int.le_trans (by assumption) (by decide) | exact Int.lt_of_le_of_lt (by assumption) (by decide) | exact Int.lt_of_lt_of_le (by assumption) (by decide) | ((repeat (rename (@LT.lt Nat _ _ _) ∧ _ => hxx; clear hxx)); (repeat (rename (@Ne Nat _ _) ∧ _ => hxx; clear hxx)); (repeat (rename (@Ne Nat _ _ ∧ _) ∧ _ => hxx; clear hxx)); omega)) | trivial | (dsimp only; omega) | assumption))); (case k7 => ktr_room); (case k8 => ktr_units)); intro r' h' tk' F' N' hr'; (try k_sweep); obtain ⟨tr', er'⟩ := hr'; subst er')
  k_with "call ref" => (k_here; (with_reducible show wpAny _ _ (call (Value.ref 58) _) _ _ _); k_dflt (refine' Pure1.use (w_substring _ _ _ _ _ _ _ _ _ _) ?k1 ?k2 ?k3 ?k4 ?k5 ?k6 ?k7 ?k8 ?_; (case k1 => k_asm); (case k2 => k_asm); (case k3 => k_asm); (case k4 => k_asm); (case k5 => rfl); (case k6 => ((repeat' apply And.intro) <;> (first | with_reducible assumption | ((with_reducible show Heap.IsList _ _ _); first | exact Heap.IsList.at (by assumption) (Fr.keep (by assumption) _) | exact News.isList (by assumption) (by k_mem) | k_extra "my pre") | exact IntsAre.nil | exact (fun _ hc => absurd hc List.not_mem_nil) | k_extra "my pre" | (first | assumption | exact Nat.le_trans (by assumption) (Nat.le_of_ble_eq_true rfl) | exact Nat.lt_of_le_of_lt (by assumption) (Nat.le_of_ble_eq_true rfl) | exact Int.natCast_nonneg _ | exact Int.le_trans (by assumption) (by decide) | exact Int.lt_of_le_of_lt (by assumption) (by decide) | exact Int.lt_of_lt_of_le (by assumption) (by decide) | ((repeat (rename (@LT.lt Nat _ _ _) ∧ _ => hxx; clear hxx)); (repeat (rename (@Ne Nat _ _) ∧ _ => hxx; clear hxx)); (repeat (rename (@Ne Nat _ _ ∧ _) ∧ _ => hxx; clear hxx)); omega)) | trivial | (dsimp only; omega) | assumption))); (case k7 => ktr_room); (case k8 => ktr_units)); intro r' h' tk' F' N' hr'; (try k_sweep); obtain ⟨tr', er'⟩ := hr'; subst er')
  k_with "call ref" => (k_here; (with_reducible show wpAny _ _ (call (Value.ref 58) _) _ _ _); k_dflt (refine' Pure1.use (w_substringN _ _ _ _ _ _ _ _) ?k1 ?k2 ?k3 ?k4 ?k5 ?k6 ?k7 ?k8 ?_; (case k1 => k_asm); (case k2 => k_asm); (case k3 => k_asm); (case k4 => k_asm); (case k5 => rfl); (case k6 => ((repeat' apply And.intro) <;> (first | with_reducible assumption | ((with_reducible show Heap.IsList _ _ _); first | exact Heap.IsList.at (by assumption) (Fr.keep (by assumption) _) | exact News.isList (by assumption) (by k_mem) | k_extra "my pre") | exact IntsAre.nil | exact (fun _ hc => absurd hc List.not_mem_nil) | k_extra "my pre" | (first | assumption | exact Nat.le_trans (by assumption) (Nat.le_of_ble_eq_true rfl) | exact Nat.lt_of_le_of_lt (by assumption) (Nat.le_of_ble_eq_true rfl) | exact Int.natCast_nonneg _ | exact Int.le_trans (by assumption) (by decide) | exact Int.lt_of_le_of_lt (by assumption) (by decide) | exact Int.lt_of_lt_of_le (by assumption) (by decide) | ((repeat (rename (@LT.lt Nat _ _ _) ∧ _ => hxx; clear hxx)); (repeat (rename (@Ne Nat _ _) ∧ _ => hxx; clear hxx)); (repeat (rename (@Ne Nat _ _ ∧ _) ∧ _ => hxx; clear hxx)); omega)) | trivial | (dsimp only; omega) | assumption))); (case k7 => ktr_room); (case k8 => ktr_units)); intro r' h' tk' F' N' hr'; (try k_sweep); obtain ⟨tr', er'⟩ := hr'; subst er')
  k_with "call ref" => (k_here; (with_reducible show wpAny _ _ (call (Value.ref 65) _) _ _ _); k_dflt (refine' Pure1.use (w_substr _ _ _ _ _ _ _ _ _ _) ?k1 ?k2 ?k3 ?k4 ?k5 ?k6 ?k7 ?k8 ?_; (case k1 => k_asm); (case k2 => k_asm); (case k3 => k_asm); (case k4 => k_asm); (case k5 => rfl); (case k6 => ((repeat' apply And.intro) <;> (first | with_reducible assumption | ((with_reducible show Heap.IsList _ _ _); first | exact Heap.IsList.at (by assumption) (Fr.keep (by assumption) _) | exact News.isList (by assumption) (by k_mem) | k_extra "my pre") | exact IntsAre.nil | exact (fun _ hc => absurd hc List.not_mem_nil) | k_extra "my pre" | (first | assumption | exact Nat.le_trans (by assumption) (Nat.le_of_ble_eq_true rfl) | exact Nat.lt_of_le_of_lt (by assumption) (Nat.le_of_ble_eq_true rfl) | exact Int.natCast_nonneg _ | exact Int.le_trans (by assumption) (by decide) | exact Int.lt_of_le_of_lt (by assumption) (by decide) | exact Int.lt_of_lt_of_le (by assumption) (by decide) | ((repeat (rename (@LT.lt Nat _ _ _) ∧ _ => hxx; clear hxx)); (repeat (rename (@Ne Nat _ _) ∧ _ => hxx; clear hxx)); (repeat (rename (@Ne Nat _ _ ∧ _) ∧ _ => hxx; clear hxx)); omega)) | trivial | (dsimp only; omega) | assumption))); (case k7 => ktr_room); (case k8 => ktr_units)); intro r' h' tk' F' N' hr'; (try k_sweep); obtain ⟨tr', er'⟩ := hr'; subst er')
  k_with "call ref" => (k_here; (with_reducible show wpAny _ _ (call (Value.ref 65) _) _ _ _); k_dflt (refine' Pure1.use (w_substrN _ _ _ _ _ _ _ _) ?k1 ?k2 ?k3 ?k4 ?k5 ?k6 ?k7 ?k8 ?_; (case k1 => k_asm); (case k2 => k_asm); (case k3 => k_asm); (case k4 => k_asm); (case k5 => rfl); (case k6 => ((repeat' apply And.intro) <;> (first | with_reducible assumption | ((with_reducible show Heap.IsList _ _ _); first | exact Heap.IsList.at (by assumption) (Fr.keep (by assumption) _) | exact News.isList (by assumption) (by k_mem) | k_extra "my pre") | exact IntsAre.nil | exact (fun _ hc => absurd hc List.not_mem_nil) | k_extra "my pre" | (first | assumption | exact Nat.le_trans (by assumption) (Nat.le_of_ble_eq_true rfl) | exact Nat.lt_of_le_of_lt (by assumption) (Nat.le_of_ble_eq_true rfl) | exact Int.natCast_nonneg _ | exact Int.le_trans (by assumption) (by decide) | exact Int.lt_of_le_of_lt (by assumption) (by decide) | exact Int.lt_of_lt_of_le (by assumption) (by decide) | ((repeat (rename (@LT.lt Nat _ _ _) ∧ _ => hxx; clear hxx)); (repeat (rename (@Ne Nat _ _) ∧ _ => hxx; clear hxx)); (repeat (rename (@Ne Nat _ _ ∧ _) ∧ _ => hxx; clear hxx)); omega)) | trivial | (dsimp only; omega) | assumption))); (case k7 => ktr_room); (case k8 => ktr_units)); intro r' h' tk' F' N' hr'; (try k_sweep); obtain ⟨tr', er'⟩ := hr'; subst er')
  k_with "call ref" => (k_here; (with_reducible show wpAny _ _ (call (Value.ref 160) _) _ _ _); k_dflt (refine' Pure1.use (w_kept _ _ _ _ _ _ _ _ _ _ _ _ _) ?k1 ?k2 ?k3 ?k4 ?k5 ?k6 ?k7 ?k8 ?_; (case k1 => k_asm); (case k2 => k_asm); (case k3 => k_asm); (case k4 => k_asm); (case k5 => rfl); (case k6 => ((repeat' apply And.intro) <;> (first | with_reducible assumption | ((with_reducible show Heap.IsList _ _ _); first | exact Heap.IsList.at (by assumption) (Fr.keep (by assumption) _) | exact News.isList (by assumption) (by k_mem) | k_extra "my pre") | exact IntsAre.nil | exact (fun _ hc => absurd hc List.not_mem_nil) | k_extra "my pre" | (first | assumption | exact Nat.le_trans (by assumption) (Nat.le_of_ble_eq_true rfl) | exact Nat.lt_of_le_of_lt (by assumption) (Nat.le_of_ble_eq_true rfl) | exact Int.natCast_nonneg _ | exact Int.le_trans (by assumption) (by decide) | exact Int.lt_of_le_of_lt (by assumption) (by decide) | exact Int.lt_of_lt_of_le (by assumption) (by decide) | ((repeat (rename (@LT.lt Nat _ _ _) ∧ _ => hxx; clear hxx)); (repeat (rename (@Ne Nat _ _) ∧ _ => hxx; clear hxx)); (repeat (rename (@Ne Nat _ _ ∧ _) ∧ _ => hxx; clear hxx)); omega)) | trivial | (dsimp only; omega) | assumption))); (case k7 => ktr_room); (case k8 => ktr_units)); intro r' h' tk' F' N' hr'; (try k_sweep); obtain ⟨tr', er'⟩ := hr'; subst er')
  k_with "eval IfExp" => k_extra "my if"
  obtain ⟨hl, hi, ho, hz, h1, h2, h3, h4⟩ := hpre
  have hln := hi.length
  k_with "my pre" => first | exact pos_if | exact le_if (by assumption) | exact le_if (le_32 (by assumption)) | exact le_100 (by assumption) | exact le_1000 (by assumption) | exact le_100i (by assumption) | exact Int.natCast_nonneg _
  k_with "my if" => (k_here; (fail_if_success (with_reducible show wpAny _ _ _ (JoinPost _ _) _ _)); (with_reducible show wpAny _ _ (eval (Expr.IfExp (Expr.Compare (Expr.Name (Str.ofString "start") _) _ _ _) _ _ _) _) _ _ _); k_dflt (refine' join_int (fun z => (0 ≤ start ∧ z = start) ∨ (start < 0 ∧ z = cs.length + start)) ?_ ?_); rotate_left; (intro zS tS kS hzS); (have hzSl := join_le hzS hz (by assumption)); rotate_left)
  k_with "my if" => (k_here; (fail_if_success (with_reducible show wpAny _ _ _ (JoinPost _ _) _ _)); (with_reducible show wpAny _ _ (eval (Expr.IfExp (Expr.Compare (Expr.Name (Str.ofString "end") _) _ _ _) _ _ _) _) _ _ _); k_dflt (refine' join_int (fun z => (0 ≤ e ∧ z = e) ∨ (e < 0 ∧ z = cs.length + e)) ?_ ?_); rotate_left; (intro zE tE kE hzE); (have hzEl := join_le hzE hz (by assumption)); rotate_left)
  (repeat' (first | (refine JoinPost.mk ?_; first | exact .inl ⟨by assumption, rfl⟩ | exact .inr ⟨by assumption, rfl⟩ | omega) | (k_unfold; (try dsimp only)) | (refine id ?_; k_unfold; (try dsimp only)) | (walk1; (all_goals (try (first | ((with_reducible show wpAny _ _ (exec _ _) _ _ _); k_fold) | ((with_reducible show wpAny _ _ (call _ _) _ _ _); k_fold))))) | (dsimp only; first | (walk1; (all_goals (try (first | ((with_reducible show wpAny _ _ (exec _ _) _ _ _); k_fold) | ((with_reducible show wpAny _ _ (call _ _) _ _ _); k_fold))))) | skip) | fail "no step"))
  all_goals (rename News _ _ _ _ => nN)
  all_goals first
    | (refine ret _ _ _ (Fr.keep (by assumption)) ?_
       refine congrArg Value.bool ?_
       rw [beq_iff_eq]
       refine congrArg tx (seg_cong ?_ ?_ ?_ ?_) <;> (try simp only [fe_eq hzS, fe_eq hzE]) <;> first | exact pos_if | exact pos_min pos_if | exact mm_eq | exact sub_eq pos_if | rfl | ((try simp only [fromEnd, clampP]) <;> (repeat' split) <;> first | (with_reducible refine hi_eq ?_; (first | assumption | exact Nat.le_trans (by assumption) (Nat.le_of_ble_eq_true rfl) | exact Nat.lt_of_le_of_lt (by assumption) (Nat.le_of_ble_eq_true rfl) | exact Int.natCast_nonneg _ | exact Int.le_trans (by assumption) (by decide) | exact Int.lt_of_le_of_lt (by assumption) (by decide) | exact Int.lt_of_lt_of_le (by assumption) (by decide) | ((repeat (rename (@LT.lt Nat _ _ _) ∧ _ => hxx; clear hxx)); (repeat (rename (@Ne Nat _ _) ∧ _ => hxx; clear hxx)); (repeat (rename (@Ne Nat _ _ ∧ _) ∧ _ => hxx; clear hxx)); omega))) | (with_reducible refine lo_eq ?_; (first | assumption | exact Nat.le_trans (by assumption) (Nat.le_of_ble_eq_true rfl) | exact Nat.lt_of_le_of_lt (by assumption) (Nat.le_of_ble_eq_true rfl) | exact Int.natCast_nonneg _ | exact Int.le_trans (by assumption) (by decide) | exact Int.lt_of_le_of_lt (by assumption) (by decide) | exact Int.lt_of_lt_of_le (by assumption) (by decide) | ((repeat (rename (@LT.lt Nat _ _ _) ∧ _ => hxx; clear hxx)); (repeat (rename (@Ne Nat _ _) ∧ _ => hxx; clear hxx)); (repeat (rename (@Ne Nat _ _ ∧ _) ∧ _ => hxx; clear hxx)); omega))) | (with_reducible refine one_eq ?_; (first | assumption | exact Nat.le_trans (by assumption) (Nat.le_of_ble_eq_true rfl) | exact Nat.lt_of_le_of_lt (by assumption) (Nat.le_of_ble_eq_true rfl) | exact Int.natCast_nonneg _ | exact Int.le_trans (by assumption) (by decide) | exact Int.lt_of_le_of_lt (by assumption) (by decide) | exact Int.lt_of_lt_of_le (by assumption) (by decide) | ((repeat (rename (@LT.lt Nat _ _ _) ∧ _ => hxx; clear hxx)); (repeat (rename (@Ne Nat _ _) ∧ _ => hxx; clear hxx)); (repeat (rename (@Ne Nat _ _ ∧ _) ∧ _ => hxx; clear hxx)); omega))) | (first | assumption | exact Nat.le_trans (by assumption) (Nat.le_of_ble_eq_true rfl) | exact Nat.lt_of_le_of_lt (by assumption) (Nat.le_of_ble_eq_true rfl) | exact Int.natCast_nonneg _ | exact Int.le_trans (by assumption) (by decide) | exact Int.lt_of_le_of_lt (by assumption) (by decide) | exact Int.lt_of_lt_of_le (by assumption) (by decide) | ((repeat (rename (@LT.lt Nat _ _ _) ∧ _ => hxx; clear hxx)); (repeat (rename (@Ne Nat _ _) ∧ _ => hxx; clear hxx)); (repeat (rename (@Ne Nat _ _ ∧ _) ∧ _ => hxx; clear hxx)); omega))))
    | (exfalso
       rename (_ != _) = true => q
       rw [bne_iff_ne] at q
       refine q (congrArg tx (seg_cong ?_ ?_ ?_ ?_)) <;> (clear q) <;> (try simp only [fe_eq hzS, fe_eq hzE]) <;> first | exact pos_if | exact pos_min pos_if | exact mm_eq | exact sub_eq pos_if | rfl | ((try simp only [fromEnd, clampP]) <;> (repeat' split) <;> first | (with_reducible refine hi_eq ?_; (first | assumption | exact Nat.le_trans (by assumption) (Nat.le_of_ble_eq_true rfl) | exact Nat.lt_of_le_of_lt (by assumption) (Nat.le_of_ble_eq_true rfl) | exact Int.natCast_nonneg _ | exact Int.le_trans (by assumption) (by decide) | exact Int.lt_of_le_of_lt (by assumption) (by decide) | exact Int.lt_of_lt_of_le (by assumption) (by decide) | ((repeat (rename (@LT.lt Nat _ _ _) ∧ _ => hxx; clear hxx)); (repeat (rename (@Ne Nat _ _) ∧ _ => hxx; clear hxx)); (repeat (rename (@Ne Nat _ _ ∧ _) ∧ _ => hxx; clear hxx)); omega))) | (with_reducible refine lo_eq ?_; (first | assumption | exact Nat.le_trans (by assumption) (Nat.le_of_ble_eq_true rfl) | exact Nat.lt_of_le_of_lt (by assumption) (Nat.le_of_ble_eq_true rfl) | exact Int.natCast_nonneg _ | exact Int.le_trans (by assumption) (by decide) | exact Int.lt_of_le_of_lt (by assumption) (by decide) | exact Int.lt_of_lt_of_le (by assumption) (by decide) | ((repeat (rename (@LT.lt Nat _ _ _) ∧ _ => hxx; clear hxx)); (repeat (rename (@Ne Nat _ _) ∧ _ => hxx; clear hxx)); (repeat (rename (@Ne Nat _ _ ∧ _) ∧ _ => hxx; clear hxx)); omega))) | (with_reducible refine one_eq ?_; (first | assumption | exact Nat.le_trans (by assumption) (Nat.le_of_ble_eq_true rfl) | exact Nat.lt_of_le_of_lt (by assumption) (Nat.le_of_ble_eq_true rfl) | exact Int.natCast_nonneg _ | exact Int.le_trans (by assumption) (by decide) | exact Int.lt_of_le_of_lt (by assumption) (by decide) | exact Int.lt_of_lt_of_le (by assumption) (by decide) | ((repeat (rename (@LT.lt Nat _ _ _) ∧ _ => hxx; clear hxx)); (repeat (rename (@Ne Nat _ _) ∧ _ => hxx; clear hxx)); (repeat (rename (@Ne Nat _ _ ∧ _) ∧ _ => hxx; clear hxx)); omega))) | (first | assumption | exact Nat.le_trans (by assumption) (Nat.le_of_ble_eq_true rfl) | exact Nat.lt_of_le_of_lt (by assumption) (Nat.le_of_ble_eq_true rfl) | exact Int.natCast_nonneg _ | exact Int.le_trans (by assumption) (by decide) | exact Int.lt_of_le_of_lt (by assumption) (by decide) | exact Int.lt_of_lt_of_le (by assumption) (by decide) | ((repeat (rename (@LT.lt Nat _ _ _) ∧ _ => hxx; clear hxx)); (repeat (rename (@Ne Nat _ _) ∧ _ => hxx; clear hxx)); (repeat (rename (@Ne Nat _ _ ∧ _) ∧ _ => hxx; clear hxx)); omega))))
end Mine
end
-- part C3
section
set_option maxRecDepth 100000
open PySem PySem.W PySem.Calls PyProof.Rows
set_option Elab.async false
namespace Mine
variable (w : World) (mean : ExcName → Option Value) (mg mb : Str → Option Value)

/-- the signs that the law draws -/
noncomputable def keptC : List Int := [97, 98, 97, 98, 99, 32, 10, 65279, 55296, 65535, 0]
noncomputable def Kpt (cs : List Int) : Prop := ∀ c ∈ cs, c ∈ keptC
theorem Kpt.ok {cs : List Int} (h : Kpt cs) : Oks cs := by
  intro c hc
  have := h c hc
  simp only [keptC, List.mem_cons, List.not_mem_nil, or_false] at this
  omega

noncomputable def spotsL (cs : List Int) : List Int := (rangeKs 0 cs.length).filter fun k => decide (¬(sg cs k = 32 ∨ sg cs k = 10 ∨ sg cs k = 65279))
theorem spots_len (cs : List Int) : (spotsL cs).length ≤ cs.length := by
  unfold spotsL
  refine Nat.le_trans (List.length_filter_le _ _) ?_
  simp [rangeKs]

theorem sg_mem {a : List Int} {i : Int} (h0 : 0 ≤ i) (h1 : i < a.length) : sg a i ∈ a := by
  have hi : i.toNat < a.length := by omega
  unfold sg
  rw [List.getD_eq_getElem?_getD, List.getElem?_eq_getElem hi]
  exact List.getElem_mem hi
theorem spots_mem {cs : List Int} {k : Int} (h : k ∈ spotsL cs) : 0 ≤ k ∧ k < cs.length ∧ ¬(sg cs k = 32 ∨ sg cs k = 10 ∨ sg cs k = 65279) := by
  obtain ⟨h1, h2⟩ := List.mem_filter.mp h
  have := mem_rangeKs h1
  exact ⟨by omega, by omega, by simpa using h2⟩
theorem spots_pos {cs : List Int} (q : decide (spotsL cs = []) = false) : 0 < (spotsL cs).length := List.length_pos_iff.mpr (by simpa using q)
theorem spots_in (cs : List Int) (hne : decide (spotsL cs = []) = false) {z : Int} (h : z = sg (spotsL cs) ((spotsL cs).length - 1)) : 0 ≤ z ∧ z < cs.length := by
  have := spots_pos hne
  have := spots_mem (sg_mem (a := spotsL cs) (i := (spotsL cs).length - 1) (by omega) (by omega))
  rw [h]; exact ⟨this.1, this.2.1⟩
theorem spots_in0 (cs : List Int) (hne : decide (spotsL cs = []) = false) {z : Int} (h : z = sg (spotsL cs) 0) : 0 ≤ z ∧ z < cs.length := by
  have := spots_pos hne
  have := spots_mem (sg_mem (a := spotsL cs) (i := 0) (by omega) (by omega))
  rw [h]; exact ⟨this.1, this.2.1⟩
theorem bl_kept {cs : List Int} (hk : Kpt cs) {i : Int} (h0 : 0 ≤ i) (h1 : i < cs.length) : bl (sg cs i) = decide (sg cs i = 32 ∨ sg cs i = 10 ∨ sg cs i = 65279) := by
  have h := hk _ (sg_mem h0 h1)
  generalize sg cs i = c at h
  simp only [keptC, List.mem_cons, List.not_mem_nil, or_false] at h
  rcases h with h | h | h | h | h | h | h | h | h | h | h <;> (subst h; rfl)
theorem spot_iff {cs : List Int} (hk : Kpt cs) {k : Int} : k ∈ spotsL cs ↔ 0 ≤ k ∧ k < cs.length ∧ bl (sg cs k) = false := by
  constructor
  · intro h
    have := spots_mem h
    refine ⟨this.1, this.2.1, ?_⟩
    rw [bl_kept hk this.1 this.2.1]
    simpa using this.2.2
  · rintro ⟨h0, h1, h2⟩
    rw [bl_kept hk h0 h1] at h2
    refine List.mem_filter.mpr ⟨?_, by simpa using h2⟩
    simp only [rangeKs, List.mem_map, List.mem_range]
    exact ⟨k.toNat, by omega, by omega⟩
theorem trim_none {cs : List Int} (hk : Kpt cs) {f l : Int} (hT : TrimP cs f l) (h : spotsL cs = []) : seg cs f l = [] := by
  obtain ⟨t0, t1, t2, t3, t4, t5⟩ := hT
  rcases t5 with t5 | ⟨t5, t6⟩
  · exact seg_out (by omega)
  · by_cases hfl : f < cs.length
    · have : f ∈ spotsL cs := (spot_iff hk).mpr ⟨t0, hfl, t5⟩
      rw [h] at this; cases this
    · exact seg_out (by omega)
theorem ks_sorted : ∀ n : Nat, (rangeKs 0 n).Pairwise (· < ·)
  | 0 => List.Pairwise.nil
  | n + 1 => by
    rw [rangeKs_snoc]
    refine List.pairwise_append.mpr ⟨ks_sorted n, List.pairwise_singleton _ _, fun a ha b hb => ?_⟩
    rw [List.mem_singleton.mp hb]
    have := mem_rangeKs ha
    omega
theorem sorted_ends {l : List Int} (h : l.Pairwise (· < ·)) (hp : 0 < l.length) {k : Int} (hk : k ∈ l) : sg l 0 ≤ k ∧ k ≤ sg l (l.length - 1) := by
  obtain ⟨i, hi, rfl⟩ := List.getElem_of_mem hk
  have a0 : sg l 0 = l[0] := by unfold sg; rw [List.getD_eq_getElem?_getD]; simp [hp]
  have a1 : sg l (l.length - 1) = l[l.length - 1] := by
    unfold sg
    have e : ((l.length : Int) - 1).toNat = l.length - 1 := by omega
    rw [e, List.getD_eq_getElem?_getD, List.getElem?_eq_getElem (by omega)]; rfl
  rw [a0, a1]
  have hp' := List.pairwise_iff_getElem.mp h
  constructor
  · by_cases e : i = 0
    · subst e; exact Int.le_refl _
    · exact Int.le_of_lt (hp' 0 i hp hi (by omega))
  · by_cases e : i = l.length - 1
    · subst e; exact Int.le_refl _
    · exact Int.le_of_lt (hp' i (l.length - 1) hi (by omega) (by omega))
theorem trim_some {cs : List Int} (hk : Kpt cs) {f l z0 z1 : Int} (hT : TrimP cs f l) (h : 0 < (spotsL cs).length) (h0 : z0 = sg (spotsL cs) 0) (h1 : z1 = sg (spotsL cs) ((spotsL cs).length - 1)) :
    seg cs f l = (cs.drop z0.toNat).take (min (z1 + 1).toNat cs.length - z0.toNat) := by
  have m0 := (spot_iff hk).mp (sg_mem (a := spotsL cs) (i := 0) (by omega) (by omega))
  have m1 := (spot_iff hk).mp (sg_mem (a := spotsL cs) (i := (spotsL cs).length - 1) (by omega) (by omega))
  have hs : (spotsL cs).Pairwise (· < ·) := (ks_sorted _).filter _
  rw [← h0] at m0
  rw [← h1] at m1
  obtain ⟨t0, t1, t2, t3, t4, t5⟩ := hT
  have c0 : f ≤ z0 := by
    by_cases c : f ≤ z0
    · exact c
    · have := t3 z0 m0.1 (by omega); rw [m0.2.2] at this; cases this
  have c1 : z1 < l := by
    by_cases c : z1 < l
    · exact c
    · have := t4 z1 (by omega) m1.2.1; rw [m1.2.2] at this; cases this
  have c2 : z0 ≤ z1 := by have := (sorted_ends hs h (sg_mem (a := spotsL cs) (i := 0) (by omega) (by omega))).2; rw [← h0, ← h1] at this; exact this
  rcases t5 with t5 | ⟨t5, t6⟩
  · omega
  · have d0 := (sorted_ends hs h ((spot_iff hk).mpr ⟨t0, by omega, t5⟩)).1
    have d1 := (sorted_ends hs h ((spot_iff hk).mpr ⟨by omega, by omega, t6⟩)).2
    rw [← h0] at d0
    rw [← h1] at d1
    have e0 : f = z0 := by omega
    have e1 : l = z1 + 1 := by omega
    subst e0 e1
    exact seg_eq cs (by omega) (.inl rfl)
theorem any3 (x : Int) : ([32, 10, 65279].any fun y => y == x) = decide (x = 32 ∨ x = 10 ∨ x = 65279) := by
  rw [Bool.eq_iff_iff]
  simp only [List.any_cons, List.any_nil, Bool.or_false, Bool.or_eq_true, beq_iff_eq, decide_eq_true_eq]
  omega
set_option maxHeartbeats 1000000
theorem w_trimR (l : Addr) (vs : List Value) (cs : List Int) : Pure1 w mean mg mb 182 30 300 (fun h => h.IsList l vs.toArray ∧ IntsAre vs cs ∧ Kpt cs ∧ cs.length ≤ 100) [.ref l] (fun _ r => r = .bool true) := by
  unfold Pure1; k_fill; intro dp un gd fr s Q E X T hpre hdp hun ret; refine wpAny_call ?_; k_dflt (refine' enterGC (g := s.heap) (news := []) ?k1 ?k2 ?g1 ?g2 ?g3 ?k6 ?k7 ?k8 ?k9 ?kB ?kD ?_ ?c2 ?c3 ?c4; (case k1 => assumption); (case k2 => assumption); (case g1 => exact fun _ _ e => e); (case g2 => exact Nat.le_refl _); (case g3 => exact fun _ hq => nomatch hq); (case k6 => k_is); (case k7 => k_is); (case k8 => ktr_room); (case k9 => exact BindsTo.of_eq rfl); (case kB => exact rfl); (case kD => decide +kernel); (case c2 => exact rfl); (case c3 => exact rfl); (case c4 => exact rfl); k_whole; intro L' h' tk' cells' F' N' Y' l1; (clear l1); k_cells Y'; (try simp only [List.cons_append, List.nil_append] at N'); (try dsimp only); (try k_fold))
  k_with_none
  k_with "own ne" => (refine neN ?_; (try dsimp only); first | assumption | exact Ne.symm (by assumption) | exact Nat.ne_of_gt (by assumption) | exact Nat.ne_of_lt (by assumption) | fail "none")
  k_with "own room" => first | exact room1 hdp rfl | fail "none"
  k_with "own units" => first | exact units1 hun rfl | fail "none"
  k_with "eval Call Name" => refine Call_ ?_
  k_with "pyIter ref" => k_extra "my loop"
  k_with "exec While" => k_extra "my while"
  k_with "call builtin:len" => (k_here; (with_reducible show wpAny _ _ (call (Value.builtin "len") [Value.ref _]) _ _ _); k_dflt (refine' call_len_list (News.isList ?k1 ?k2) ?k3 ?_; (case k1 => k_asm); (case k2 => k_mem); (case k3 => (simp only [List.push_toArray, List.size_toArray, Array.size_push, List.length_append, List.length_cons, List.length_nil]; omega))))
  k_with "CompEnd" => k_extra "my end"
  k_with "CompSrcT" => k_extra "my comp"
  k_with "CompSrc" => k_extra "my comp"
  k_with "eval ListComp" => (k_here; k_dflt (first | ((with_reducible show wpAny _ _ (eval (Expr.ListComp _ [⟨Expr.Name _ _, _, [_], _⟩] _ _) _) _ _ _); refine LCt.ListComp_T (F₀ := by k_asm) (by with_unfolding_all rfl) (by decide) (by rfl) (by decide) (by rfl) ?_) | (refine LCg.ListComp_U (F₀ := by k_asm) (by with_unfolding_all rfl) (by decide) (by rfl) (by decide) (by rfl) ?_)))
  k_with "exec Assign cons ListComp" => (k_here; k_dflt (first | ((with_reducible show wpAny _ _ (exec (Stmt.Assign _ (Expr.ListComp _ [⟨Expr.Name _ _, _, [_], _⟩] _ _) _) _) _ _ _); refine LCt.Assign_ListComp_T (F₀ := by k_asm) (by rfl) (by with_unfolding_all rfl) (by with_unfolding_all rfl) (by decide) (by rfl) (by decide) (by rfl) (by rfl) (by rfl) ?_) | (refine LCg.Assign_ListComp_U (F₀ := by k_asm) (by rfl) (by with_unfolding_all rfl) (by with_unfolding_all rfl) (by decide) (by rfl) (by decide) (by rfl) (by rfl) (by rfl) ?_)))
  k_with "subscriptTail Name UnaryOp ref int" => k_extra "my item"
  k_with "subscriptTail Name Constant ref int" => k_extra "my item"
  k_with "call ref" => (k_here; (with_reducible show wpAny _ _ (call (Value.ref 133) _) _ _ _); k_dflt (refine' Pure1.use (w_textfrom _ _ _ _ _ _ _) ?k1 ?k2 ?k3 ?k4 ?k5 ?k6 ?k7 ?k8 ?_; (case k1 => k_asm); (case k2 => k_asm); (case k3 => k_asm); (case k4 => k_asm); (case k5 => rfl); (case k6 => ((repeat' apply And.intro) <;> (first | with_reducible assumption | ((with_reducible show Heap.IsList _ _ _); first | exact Heap.IsList.at (by assumption) (Fr.keep (by assumption) _) | exact News.isList (by assumption) (by k_mem) | k_extra "my pre") | exact IntsAre.nil | exact (fun _ hc => absurd hc List.not_mem_nil) | k_extra "my pre" | (first | assumption | exact Nat.le_trans (by assumption) (Nat.le_of_ble_eq_true rfl) | exact Nat.lt_of_le_of_lt (by assumption) (Nat.le_of_ble_eq_true rfl) | exact Int.natCast_nonneg _ | exact Int.le_trans (by assumption) (by decide) | exact Int.lt_of_le_of_lt (by assumption) (by decide) | exact Int.lt_of_lt_of_le (by assumption) (by decide) | ((repeat (rename (@LT.lt Nat _ _ _) ∧ _ => hxx; clear hxx)); (repeat (rename (@Ne Nat _ _) ∧ _ => hxx; clear hxx)); (repeat (rename (@Ne Nat _ _ ∧ _) ∧ _ => hxx; clear hxx)); omega)) | trivial | (dsimp only; omega) | assumption))); (case k7 => ktr_room); (case k8 => ktr_units)); intro r' h' tk' F' N' hr'; (try k_sweep); obtain ⟨tr', er'⟩ := hr'; subst er')
  k_with "call ref" => (k_here; (with_reducible show wpAny _ _ (call (Value.ref 107) _) _ _ _); k_dflt (refine' Pure1.use (w_trim _ _ _ _ _ _) ?k1 ?k2 ?k3 ?k4 ?k5 ?k6 ?k7 ?k8 ?_; (case k1 => k_asm); (case k2 => k_asm); (case k3 => k_asm); (case k4 => k_asm); (case k5 => rfl); (case k6 => ((repeat' apply And.intro) <;> (first | with_reducible assumption | ((with_reducible show Heap.IsList _ _ _); first | exact Heap.IsList.at (by assumption) (Fr.keep (by assumption) _) | exact News.isList (by assumption) (by k_mem) | k_extra "my pre") | exact IntsAre.nil | exact (fun _ hc => absurd hc List.not_mem_nil) | k_extra "my pre" | (first | assumption | exact Nat.le_trans (by assumption) (Nat.le_of_ble_eq_true rfl) | exact Nat.lt_of_le_of_lt (by assumption) (Nat.le_of_ble_eq_true rfl) | exact Int.natCast_nonneg _ | exact Int.le_trans (by assumption) (by decide) | exact Int.lt_of_le_of_lt (by assumption) (by decide) | exact Int.lt_of_lt_of_le (by assumption) (by decide) | ((repeat (rename (@LT.lt Nat _ _ _) ∧ _ => hxx; clear hxx)); (repeat (rename (@Ne Nat _ _) ∧ _ => hxx; clear hxx)); (repeat (rename (@Ne Nat _ _ ∧ _) ∧ _ => hxx; clear hxx)); omega)) | trivial | (dsimp only; omega) | assumption))); (case k7 => ktr_room); (case k8 => ktr_units)); intro r' h' tk' F' N' hr'; (try k_sweep); obtain ⟨fT, lT, tr', er', hT⟩ := hr'; subst er')
  obtain ⟨hl, hi, hk, hz⟩ := hpre
  have ho := hk.ok
  have hln := hi.length
  k_with "my comp" => (k_here; k_dflt (refine LCt.CompSrcT.range (by rfl) (by k_asm) (by k_asm) (by assumption) (small_one (by ((try simp only [List.size_toArray]); omega)) (by ((try simp only [List.size_toArray]); omega)) (by ((try simp only [List.size_toArray]); omega)) (by ((try simp only [List.size_toArray]); omega))) (rangeSize_nat _ _) (by (rw [PySem.sizeLine_eq]; ((try simp only [List.size_toArray]); omega))) ?_; intro gS; refine' ct_range (fun k => decide (¬(sg cs k = 32 ∨ sg cs k = 10 ∨ sg cs k = 65279))) (fun k => k) (fun kC tC IC oIC CC oCC DC mC ysC h' tk' EC RC k1 k2 hC' hx' F' N' off' ne' hT hF => ?_) (fun ysC hYs => ?_)); rotate_left; (k_dflt (rw [List.map_id', show ((cs.length : Int) - 0).toNat = cs.length by omega] at hYs; change IntsAre _ (spotsL cs) at hYs)); rotate_left; (all_goals (try (simp only [LCg.Off3, and_true] at off'))); (all_goals (try k_fold)))
  k_with "my end" => (k_here; k_dflt (first
    | (refine' LCg.CompEnd.intro (by assumption) (by assumption) _ ?sub ?off ?S ⟨_, _, rfl, hT ?_⟩; (case sub => kcf_all); (case off => first | assumption | (simp only [LCg.Off3, and_true]; done) | (simp only [LCg.Off3, and_true]; assumption)); (case S => first | lcg_src | assumption | trivial))
    | (refine' LCg.CompEnd.intro (by assumption) (by assumption) _ ?sub ?off ?S (hF ?_); (case sub => kcf_all); (case off => first | assumption | (simp only [LCg.Off3, and_true]; done) | (simp only [LCg.Off3, and_true]; assumption)); (case S => first | lcg_src | assumption | trivial))))
  have hsl := spots_len cs
  have hzz : ∀ i j : Nat, ((cs.drop i).take j).length ≤ 1000 := fun i j => by simp; omega
  have hoo : ∀ i j : Nat, Oks ((cs.drop i).take j) := fun i j => (ho.drop i).take j
  k_with "my item" => (k_here; (with_reducible show wpAny _ _ (subscriptTail _ (Expr.UnaryOp _ _ _) _ _) _ _ _); k_dflt (refine' item_last (News.isList (by assumption) ?m1) hYs ?m2 ?m3 ?_; (case m1 => k_mem); (case m2 => (have q := ‹decide (spotsL cs = []) = false›; exact spots_pos q)); (case m3 => omega)); intro zI tI hzI; (have hbI := spots_in cs ‹decide (spotsL cs = []) = false› hzI))
  k_with "my item" => (k_here; (with_reducible show wpAny _ _ (subscriptTail _ (Expr.Constant _ _ _) _ _) _ _ _); k_dflt (refine' item_at0 (News.isList (by assumption) ?m1) hYs (by decide) ?m2 ?m3 ?_; (case m1 => k_mem); (case m2 => (have q := ‹decide (spotsL cs = []) = false›; exact Int.natCast_pos.mpr (spots_pos q))); (case m3 => omega)); intro zJ tJ hzJ; (have hbJ := spots_in0 cs ‹decide (spotsL cs = []) = false› hzJ))
  k_with "my pre" => first | exact hoo _ _ | exact hzz _ _
  (repeat' (first | (k_unfold; (try dsimp only)) | (refine id ?_; k_unfold; (try dsimp only)) | (walk1; (all_goals (try (first | ((with_reducible show wpAny _ _ (exec _ _) _ _ _); k_fold) | ((with_reducible show wpAny _ _ (call _ _) _ _ _); k_fold))))) | (dsimp only; first | (walk1; (all_goals (try (first | ((with_reducible show wpAny _ _ (exec _ _) _ _ _); k_fold) | ((with_reducible show wpAny _ _ (call _ _) _ _ _); k_fold))))) | skip) | fail "no step"))
  · have q := ‹(List.any [32, 10, 65279] fun x => x == cs.getD kC.toNat 0) = true›
    rw [any3] at q
    exact decide_eq_false (fun c => c (of_decide_eq_true q))
  · have q := ‹(List.any [32, 10, 65279] fun x => x == cs.getD kC.toNat 0) = false›
    rw [any3] at q
    exact decide_eq_true (of_decide_eq_false q)
  · refine ret _ _ _ (Fr.keep (by assumption)) ?_
    refine congrArg Value.bool ?_
    rw [beq_iff_eq]
    refine congrArg tx ?_
    exact trim_none hk (by assumption) (by simpa using ‹decide (spotsL cs = []) = true›)
  · refine ret _ _ _ (Fr.keep (by assumption)) ?_
    refine congrArg Value.bool ?_
    rw [beq_iff_eq]
    refine congrArg tx ?_
    exact trim_some hk (by assumption) (spots_pos ‹decide (spotsL cs = []) = false›) hzJ hzI
end Mine
end
-- part C2
section
set_option maxRecDepth 100000
open PySem PySem.W PySem.Calls PyProof.Rows
set_option Elab.async false
namespace Mine
theorem ordL_three : ∀ a b : List Int, ordL a b = -1 ∨ ordL a b = 0 ∨ ordL a b = 1
  | [], [] => .inr (.inl rfl)
  | [], _ :: _ => .inl rfl
  | _ :: _, [] => .inr (.inr rfl)
  | x :: a, y :: b => by
    simp only [ordL]
    split
    · exact ordL_three a b
    · split
      · exact .inl rfl
      · exact .inr (.inr rfl)
theorem ordL_swap : ∀ a b : List Int, ordL b a = 0 - ordL a b
  | [], [] => rfl
  | [], _ :: _ => rfl
  | _ :: _, [] => rfl
  | x :: a, y :: b => by
    have ih := ordL_swap a b
    simp only [ordL]
    by_cases c : x = y
    · subst c; simpa using ih
    · rw [if_neg c, if_neg (fun e => c e.symm)]
      by_cases d : x < y
      · rw [if_pos d, if_neg (by omega)]; rfl
      · rw [if_neg d, if_pos (by omega)]; rfl
variable (w : World) (mean : ExcName → Option Value) (mg mb : Str → Option Value)
set_option maxHeartbeats 1000000
theorem w_orderR (l l2 : Addr) (vs vs2 : List Value) (cs ws : List Int) : Pure1 w mean mg mb 196 30 300 (fun h => h.IsList l vs.toArray ∧ IntsAre vs cs ∧ h.IsList l2 vs2.toArray ∧ IntsAre vs2 ws ∧ Oks cs ∧ Oks ws ∧ cs.length ≤ 100 ∧ ws.length ≤ 100) [.ref l, .ref l2] (fun _ r => r = .bool true) := by
  unfold Pure1; k_fill; intro dp un gd fr s Q E X T hpre hdp hun ret; refine wpAny_call ?_; k_dflt (refine' enterP ?k1 ?k2 ?k6 ?k7 ?k8 ?k9 ?kB ?_ ?c2 ?c3 ?c4 ?c5; (case k1 => assumption); (case k2 => assumption); (case k6 => k_is); (case k7 => k_is); (case k8 => ktr_room); (case k9 => exact BindsTo.of_eq rfl); (case c5 => decide); (case kB => exact locs rfl); (case c2 => exact rfl); (case c3 => exact rfl); (case c4 => exact rfl); k_whole; intro L' h' F' N'; (try dsimp only); (try k_fold))
  k_with_none
  k_with "own ne" => (refine neN ?_; (try dsimp only); first | assumption | exact Ne.symm (by assumption) | exact Nat.ne_of_gt (by assumption) | exact Nat.ne_of_lt (by assumption) | fail "none")
  k_with "own room" => first | exact room1 hdp rfl | fail "none"
  k_with "own units" => first | exact units1 hun rfl | fail "none"
  k_with "eval Call Name" => refine Call_ ?_
  k_with "pyIter ref" => k_extra "my loop"
  k_with "exec While" => k_extra "my while"
  k_with "call builtin:len" => (k_here; (with_reducible show wpAny _ _ (call (Value.builtin "len") [Value.ref _]) _ _ _); k_dflt (refine' call_len_list (News.isList ?k1 ?k2) ?k3 ?_; (case k1 => k_asm); (case k2 => k_mem); (case k3 => (simp only [List.push_toArray, List.size_toArray, Array.size_push, List.length_append, List.length_cons, List.length_nil]; omega))))
  k_with "CompEnd" => k_extra "my end"
  k_with "CompSrcT" => k_extra "my comp"
  k_with "CompSrc" => k_extra "my comp"
  k_with "eval ListComp" => (k_here; k_dflt (first | ((with_reducible show wpAny _ _ (eval (Expr.ListComp _ [⟨Expr.Name _ _, _, [_], _⟩] _ _) _) _ _ _); refine LCt.ListComp_T (F₀ := by k_asm) (by with_unfolding_all rfl) (by decide) (by rfl) (by decide) (by rfl) ?_) | (refine LCg.ListComp_U (F₀ := by k_asm) (by with_unfolding_all rfl) (by decide) (by rfl) (by decide) (by rfl) ?_)))
  k_with "exec Assign cons ListComp" => (k_here; k_dflt (first | ((with_reducible show wpAny _ _ (exec (Stmt.Assign _ (Expr.ListComp _ [⟨Expr.Name _ _, _, [_], _⟩] _ _) _) _) _ _ _); refine LCt.Assign_ListComp_T (F₀ := by k_asm) (by rfl) (by with_unfolding_all rfl) (by with_unfolding_all rfl) (by decide) (by rfl) (by decide) (by rfl) (by rfl) (by rfl) ?_) | (refine LCg.Assign_ListComp_U (F₀ := by k_asm) (by rfl) (by with_unfolding_all rfl) (by with_unfolding_all rfl) (by decide) (by rfl) (by decide) (by rfl) (by rfl) (by rfl) ?_)))
  k_with "call ref" => (k_here; (with_reducible show wpAny _ _ (call (Value.ref 133) _) _ _ _); k_dflt (refine' Pure1.use (w_textfrom _ _ _ _ _ _ _) ?k1 ?k2 ?k3 ?k4 ?k5 ?k6 ?k7 ?k8 ?_; (case k1 => k_asm); (case k2 => k_asm); (case k3 => k_asm); (case k4 => k_asm); (case k5 => rfl); (case k6 => ((repeat' apply And.intro) <;> (first | with_reducible assumption | ((with_reducible show Heap.IsList _ _ _); first | exact Heap.IsList.at (by assumption) (Fr.keep (by assumption) _) | exact News.isList (by assumption) (by k_mem) | k_extra "my pre") | exact IntsAre.nil | exact (fun _ hc => absurd hc List.not_mem_nil) | k_extra "my pre" | (first | assumption | exact Nat.le_trans (by assumption) (Nat.le_of_ble_eq_true rfl) | exact Nat.lt_of_le_of_lt (by assumption) (Nat.le_of_ble_eq_true rfl) | exact Int.natCast_nonneg _ | exact Int.le_trans (by assumption) (by decide) | exact Int.lt_of_le_of_lt (by assumption) (by decide) | exact Int.lt_of_lt_of_le (by assumption) (by decide) | ((repeat (rename (@LT.lt Nat _ _ _) ∧ _ => hxx; clear hxx)); (repeat (rename (@Ne Nat _ _) ∧ _ => hxx; clear hxx)); (repeat (rename (@Ne Nat _ _ ∧ _) ∧ _ => hxx; clear hxx)); omega)) | trivial | (dsimp only; omega) | assumption))); (case k7 => ktr_room); (case k8 => ktr_units)); intro r' h' tk' F' N' hr'; (try k_sweep); obtain ⟨tr', er'⟩ := hr'; subst er')
  k_with "call ref" => (k_here; (with_reducible show wpAny _ _ (call (Value.ref 128) _) _ _ _); k_dflt (refine' Pure1.use (w_order _ _ _ _ _ _ _ _) ?k1 ?k2 ?k3 ?k4 ?k5 ?k6 ?k7 ?k8 ?_; (case k1 => k_asm); (case k2 => k_asm); (case k3 => k_asm); (case k4 => k_asm); (case k5 => rfl); (case k6 => ((repeat' apply And.intro) <;> (first | with_reducible assumption | ((with_reducible show Heap.IsList _ _ _); first | exact Heap.IsList.at (by assumption) (Fr.keep (by assumption) _) | exact News.isList (by assumption) (by k_mem) | k_extra "my pre") | exact IntsAre.nil | exact (fun _ hc => absurd hc List.not_mem_nil) | k_extra "my pre" | (first | assumption | exact Nat.le_trans (by assumption) (Nat.le_of_ble_eq_true rfl) | exact Nat.lt_of_le_of_lt (by assumption) (Nat.le_of_ble_eq_true rfl) | exact Int.natCast_nonneg _ | exact Int.le_trans (by assumption) (by decide) | exact Int.lt_of_le_of_lt (by assumption) (by decide) | exact Int.lt_of_lt_of_le (by assumption) (by decide) | ((repeat (rename (@LT.lt Nat _ _ _) ∧ _ => hxx; clear hxx)); (repeat (rename (@Ne Nat _ _) ∧ _ => hxx; clear hxx)); (repeat (rename (@Ne Nat _ _ ∧ _) ∧ _ => hxx; clear hxx)); omega)) | trivial | (dsimp only; omega) | assumption))); (case k7 => ktr_room); (case k8 => ktr_units)); intro r' h' tk' F' N' hr'; (try k_sweep); obtain ⟨tr', er'⟩ := hr'; subst er')
  k_with "compareOp Lt ref ref" => (k_here; k_dflt (refine' lt_lists (by ktr_units) (Heap.IsList.at (by assumption) (Fr.keep (by assumption) _)) (Heap.IsList.at (by assumption) (Fr.keep (by assumption) _)) (by assumption) (by assumption) ?_))
  k_with "compareOp Gt ref ref" => (k_here; k_dflt (refine' gt_lists (by ktr_units) (Heap.IsList.at (by assumption) (Fr.keep (by assumption) _)) (Heap.IsList.at (by assumption) (Fr.keep (by assumption) _)) (by assumption) (by assumption) ?_))
  obtain ⟨hl, hi, hl2, hi2, ho, ho2, hz, hz2⟩ := hpre
  (repeat' (first | (k_unfold; (try dsimp only)) | (refine id ?_; k_unfold; (try dsimp only)) | (walk1; (all_goals (try (first | ((with_reducible show wpAny _ _ (exec _ _) _ _ _); k_fold) | ((with_reducible show wpAny _ _ (call _ _) _ _ _); k_fold))))) | (dsimp only; first | (walk1; (all_goals (try (first | ((with_reducible show wpAny _ _ (exec _ _) _ _ _); k_fold) | ((with_reducible show wpAny _ _ (call _ _) _ _ _); k_fold))))) | skip) | fail "no step"))
  all_goals
    have h3 := ordL_three cs ws
    have hsw := ordL_swap cs ws
    simp only [decide_eq_true_eq, decide_eq_false_iff_not, beq_iff_eq, beq_eq_false_iff_ne, ne_eq, gt_iff_lt] at *
    first
    | (exfalso; omega)
    | (refine ret _ _ _ (Fr.keep (by assumption)) (congrArg Value.bool ?_)
       rw [beq_iff_eq]; omega)
    | (refine ret _ _ _ (Fr.keep (by assumption)) (congrArg Value.bool ?_)
       rw [beq_eq_false_iff_ne]; omega)
end Mine
end
-- part C6
section
set_option maxRecDepth 100000
open PySem PySem.W PySem.Calls PyProof.Rows
set_option Elab.async false
namespace Mine
/-- the places where ws stands in cs -/
noncomputable def standsL (cs ws : List Int) : List Int := (rangeKs 0 (cs.length - ws.length + 1 : Int).toNat).filter (St cs ws)
noncomputable def laterL (cs ws : List Int) (lo : Int) : List Int := (standsL cs ws).filter fun k => decide (lo ≤ k ∨ k = cs.length)
noncomputable def soonL (cs ws : List Int) (lo : Int) : List Int := (standsL cs ws).filter fun k => decide (k ≤ lo)
variable (w : World) (mean : ExcName → Option Value) (mg mb : Str → Option Value)

theorem stands_len {cs ws : List Int} (h : cs.length ≤ 20) : (standsL cs ws).length ≤ 21 := by
  unfold standsL
  refine Nat.le_trans (List.length_filter_le _ _) ?_
  rw [rangeKs_length]; omega
theorem later_len {cs ws : List Int} {lo : Int} (h : cs.length ≤ 20) : (laterL cs ws lo).length ≤ 21 := Nat.le_trans (List.length_filter_le _ _) (stands_len h)
theorem soon_len {cs ws : List Int} {lo : Int} (h : cs.length ≤ 20) : (soonL cs ws lo).length ≤ 21 := Nat.le_trans (List.length_filter_le _ _) (stands_len h)
theorem stands_sorted (cs ws : List Int) : (standsL cs ws).Pairwise (· < ·) := (ks_sorted _).filter _
theorem later_sorted (cs ws : List Int) (lo : Int) : (laterL cs ws lo).Pairwise (· < ·) := (stands_sorted cs ws).filter _
theorem soon_sorted (cs ws : List Int) (lo : Int) : (soonL cs ws lo).Pairwise (· < ·) := (stands_sorted cs ws).filter _
theorem stands_iff {cs ws : List Int} {k : Int} : k ∈ standsL cs ws ↔ 0 ≤ k ∧ k + ws.length ≤ cs.length ∧ St cs ws k = true := by
  unfold standsL
  rw [List.mem_filter]
  constructor
  · rintro ⟨h1, h2⟩
    have := mem_rangeKs h1
    exact ⟨by omega, by omega, h2⟩
  · rintro ⟨h0, h1, h2⟩
    refine ⟨?_, h2⟩
    simp only [rangeKs, List.mem_map, List.mem_range]
    exact ⟨k.toNat, by omega, by omega⟩
theorem later_iff {cs ws : List Int} {lo k : Int} : k ∈ laterL cs ws lo ↔ (0 ≤ k ∧ k + ws.length ≤ cs.length ∧ St cs ws k = true) ∧ (lo ≤ k ∨ k = cs.length) := by
  unfold laterL
  rw [List.mem_filter, stands_iff, decide_eq_true_eq]
theorem soon_iff {cs ws : List Int} {lo k : Int} : k ∈ soonL cs ws lo ↔ (0 ≤ k ∧ k + ws.length ≤ cs.length ∧ St cs ws k = true) ∧ k ≤ lo := by
  unfold soonL
  rw [List.mem_filter, stands_iff, decide_eq_true_eq]

theorem find_none {cs ws : List Int} {st lo k : Int} (hlo : lo = max st 0) (h : FindF cs ws st k) (he : laterL cs ws lo = []) : k = -1 := by
  rcases h with ⟨h, _⟩ | ⟨h1, h2, h3, _⟩
  · exact h
  · have c : k ∈ laterL cs ws lo := later_iff.mpr ⟨⟨by unfold clampP at h1; omega, h2, h3⟩, by unfold clampP at h1; omega⟩
    rw [he] at c; cases c
theorem find_some {cs ws : List Int} {st lo k z : Int} (hlo : lo = max st 0) (h : FindF cs ws st k) (he : 0 < (laterL cs ws lo).length) (hz : z = sg (laterL cs ws lo) 0) : k = z := by
  have hm := sg_mem (a := laterL cs ws lo) (i := 0) (by omega) (by omega)
  rw [← hz] at hm
  obtain ⟨⟨z0, z1, z2⟩, z3⟩ := later_iff.mp hm
  have hzp : clampP st cs.length ≤ z := by unfold clampP; omega
  rcases h with ⟨_, h⟩ | ⟨h1, h2, h3, h4⟩
  · have := h z hzp z1
    rw [z2] at this; cases this
  · have c : k ∈ laterL cs ws lo := later_iff.mpr ⟨⟨by unfold clampP at h1; omega, h2, h3⟩, by unfold clampP at h1; omega⟩
    have d := (sorted_ends (later_sorted cs ws lo) he c).1
    rw [← hz] at d
    by_cases e : z < k
    · have := h4 z hzp e
      rw [z2] at this; cases this
    · omega
theorem back_none {cs ws : List Int} {st lo k : Int} (hlo : lo = max st 0) (h : FindB cs ws st k) (he : soonL cs ws lo = []) : k = -1 := by
  rcases h with ⟨h, _⟩ | ⟨h0, h1, h2, h3, _⟩
  · exact h
  · have c : k ∈ soonL cs ws lo := soon_iff.mpr ⟨⟨h0, h2, h3⟩, by unfold clampP at h1; omega⟩
    rw [he] at c; cases c
theorem back_some {cs ws : List Int} {st lo k z : Int} (hlo : lo = max st 0) (h : FindB cs ws st k) (he : 0 < (soonL cs ws lo).length) (hz : z = sg (soonL cs ws lo) ((soonL cs ws lo).length - 1)) : k = z := by
  have hm := sg_mem (a := soonL cs ws lo) (i := (soonL cs ws lo).length - 1) (by omega) (by omega)
  rw [← hz] at hm
  obtain ⟨⟨z0, z1, z2⟩, z3⟩ := soon_iff.mp hm
  have hzp : z ≤ clampP st cs.length := by unfold clampP; omega
  rcases h with ⟨_, h⟩ | ⟨h0, h1, h2, h3, h4⟩
  · have := h z z0 hzp z1
    rw [z2] at this; cases this
  · have c : k ∈ soonL cs ws lo := soon_iff.mpr ⟨⟨h0, h2, h3⟩, by unfold clampP at h1; omega⟩
    have d := (sorted_ends (soon_sorted cs ws lo) he c).2
    rw [← hz] at d
    by_cases e : k < z
    · have := h4 z e hzp z1
      rw [z2] at this; cases this
    · omega
theorem len_pos {l : List Int} (q : decide (l = []) = false) : 0 < l.length := List.length_pos_iff.mpr (by simpa using q)

set_option maxHeartbeats 16000000
theorem w_foundR (l l2 : Addr) (vs vs2 : List Value) (cs ws : List Int) (st : Int) (t1) : Pure1 w mean mg mb 155 60 600 (fun h => h.IsList l vs.toArray ∧ IntsAre vs cs ∧ h.IsList l2 vs2.toArray ∧ IntsAre vs2 ws ∧ Oks cs ∧ Oks ws ∧ cs.length ≤ 20 ∧ ws.length ≤ 20 ∧ -12 ≤ st ∧ st ≤ 12) [.ref l, .ref l2, .int st t1] (fun _ r => r = .bool true) := by
  unfold Pure1; k_fill; intro dp un gd fr s Q E X T hpre hdp hun ret; refine wpAny_call ?_; k_dflt (refine' enterGC (g := s.heap) (news := []) ?k1 ?k2 ?g1 ?g2 ?g3 ?k6 ?k7 ?k8 ?k9 ?kB ?kD ?_ ?c2 ?c3 ?c4; (case k1 => assumption); (case k2 => assumption); (case g1 => exact fun _ _ e => e); (case g2 => exact Nat.le_refl _); (case g3 => exact fun _ hq => nomatch hq); (case k6 => k_is); (case k7 => k_is); (case k8 => ktr_room); (case k9 => exact BindsTo.of_eq rfl); (case kB => exact rfl); (case kD => decide +kernel); (case c2 => exact rfl); (case c3 => exact rfl); (case c4 => exact rfl); k_whole; intro L' h' tk' cells' F' N' Y' l1; (clear l1); k_cells Y'; (try simp only [List.cons_append, List.nil_append] at N'); (try dsimp only); (try k_fold))
  k_with_none
  k_with "own ne" => (refine neN ?_; (try dsimp only); first | assumption | exact Ne.symm (by assumption) | exact Nat.ne_of_gt (by assumption) | exact Nat.ne_of_lt (by assumption) | fail "none")
  k_with "own room" => first | exact room1 hdp rfl | fail "none"
  k_with "own units" => first | exact units1 hun rfl | fail "none"
  k_with "eval Call Name" => refine Call_ ?_
  k_with "pyIter ref" => k_extra "my loop"
  k_with "exec While" => k_extra "my while"
  k_with "call builtin:len" => (k_here; (with_reducible show wpAny _ _ (call (Value.builtin "len") [Value.ref _]) _ _ _); k_dflt (refine' call_len_list (News.isList ?k1 ?k2) ?k3 ?_; (case k1 => k_asm); (case k2 => k_mem); (case k3 => (simp only [List.push_toArray, List.size_toArray, Array.size_push, List.length_append, List.length_cons, List.length_nil]; omega))))
  k_with "CompEnd" => k_extra "my end"
  k_with "CompSrcT" => k_extra "my comp"
  k_with "CompSrc" => k_extra "my comp"
  k_with "eval ListComp" => (k_here; k_dflt (first | ((with_reducible show wpAny _ _ (eval (Expr.ListComp _ [⟨Expr.Name _ _, _, [_], _⟩] _ _) _) _ _ _); refine LCt.ListComp_T (F₀ := by k_asm) (by with_unfolding_all rfl) (by decide) (by rfl) (by decide) (by rfl) ?_) | (refine LCg.ListComp_U (F₀ := by k_asm) (by with_unfolding_all rfl) (by decide) (by rfl) (by decide) (by rfl) ?_)))
  k_with "exec Assign cons ListComp" => (k_here; k_dflt (first | ((with_reducible show wpAny _ _ (exec (Stmt.Assign _ (Expr.ListComp _ [⟨Expr.Name _ _, _, [_], _⟩] _ _) _) _) _ _ _); refine LCt.Assign_ListComp_T (F₀ := by k_asm) (by rfl) (by with_unfolding_all rfl) (by with_unfolding_all rfl) (by decide) (by rfl) (by decide) (by rfl) (by rfl) (by rfl) ?_) | (refine LCg.Assign_ListComp_U (F₀ := by k_asm) (by rfl) (by with_unfolding_all rfl) (by with_unfolding_all rfl) (by decide) (by rfl) (by decide) (by rfl) (by rfl) (by rfl) ?_)))
  k_with "subscriptTail Name UnaryOp ref int" => k_extra "my item"
  k_with "subscriptTail Name Constant ref int" => k_extra "my item"
  k_with "call ref" => (k_here; (with_reducible show wpAny _ _ (call (Value.ref 133) _) _ _ _); k_dflt (refine' Pure1.use (w_textfrom _ _ _ _ _ _ _) ?k1 ?k2 ?k3 ?k4 ?k5 ?k6 ?k7 ?k8 ?_; (case k1 => k_asm); (case k2 => k_asm); (case k3 => k_asm); (case k4 => k_asm); (case k5 => rfl); (case k6 => ((repeat' apply And.intro) <;> (first | with_reducible assumption | ((with_reducible show Heap.IsList _ _ _); first | exact Heap.IsList.at (by assumption) (Fr.keep (by assumption) _) | exact News.isList (by assumption) (by k_mem) | k_extra "my pre") | exact IntsAre.nil | exact (fun _ hc => absurd hc List.not_mem_nil) | k_extra "my pre" | (first | assumption | exact Nat.le_trans (by assumption) (Nat.le_of_ble_eq_true rfl) | exact Nat.lt_of_le_of_lt (by assumption) (Nat.le_of_ble_eq_true rfl) | exact Int.natCast_nonneg _ | exact Int.le_trans (by assumption) (by decide) | exact Int.lt_of_le_of_lt (by assumption) (by decide) | exact Int.lt_of_lt_of_le (by assumption) (by decide) | ((repeat (rename (@LT.lt Nat _ _ _) ∧ _ => hxx; clear hxx)); (repeat (rename (@Ne Nat _ _) ∧ _ => hxx; clear hxx)); (repeat (rename (@Ne Nat _ _ ∧ _) ∧ _ => hxx; clear hxx)); omega)) | trivial | (dsimp only; omega) | assumption))); (case k7 => ktr_room); (case k8 => ktr_units)); intro r' h' tk' F' N' hr'; (try k_sweep); obtain ⟨tr', er'⟩ := hr'; subst er')
  k_with "call ref" => (k_here; (with_reducible show wpAny _ _ (call (Value.ref 150) _) _ _ _); k_dflt (refine' PureL.use (w_places _ _ _ _ _ _ _ _ _ _) ?k1 ?k2 ?k3 ?k4 ?k5 ?k6 ?k7 ?k8 ?_; (case k1 => k_asm); (case k2 => k_asm); (case k3 => k_asm); (case k4 => k_asm); (case k5 => rfl); (case k6 => ((repeat' apply And.intro) <;> (first | with_reducible assumption | ((with_reducible show Heap.IsList _ _ _); first | exact Heap.IsList.at (by assumption) (Fr.keep (by assumption) _) | exact News.isList (by assumption) (by k_mem) | k_extra "my pre") | exact IntsAre.nil | exact (fun _ hc => absurd hc List.not_mem_nil) | k_extra "my pre" | (first | assumption | exact Nat.le_trans (by assumption) (Nat.le_of_ble_eq_true rfl) | exact Nat.lt_of_le_of_lt (by assumption) (Nat.le_of_ble_eq_true rfl) | exact Int.natCast_nonneg _ | exact Int.le_trans (by assumption) (by decide) | exact Int.lt_of_le_of_lt (by assumption) (by decide) | exact Int.lt_of_lt_of_le (by assumption) (by decide) | ((repeat (rename (@LT.lt Nat _ _ _) ∧ _ => hxx; clear hxx)); (repeat (rename (@Ne Nat _ _) ∧ _ => hxx; clear hxx)); (repeat (rename (@Ne Nat _ _ ∧ _) ∧ _ => hxx; clear hxx)); omega)) | trivial | (dsimp only; omega) | assumption))); (case k7 => ktr_room); (case k8 => ktr_units)); intro D' ys' n' h' tk' F' N' hD' hr'; (try k_sweep); (change IntsAre _ (standsL _ _) at hr'); (have hlS := hr'.length))
  k_with "call ref" => (k_here; (with_reducible show wpAny _ _ (call (Value.ref 79) _) _ _ _); k_dflt (refine' Pure1.use (w_find _ _ _ _ _ _ _ _ _ _) ?k1 ?k2 ?k3 ?k4 ?k5 ?k6 ?k7 ?k8 ?_; (case k1 => k_asm); (case k2 => k_asm); (case k3 => k_asm); (case k4 => k_asm); (case k5 => rfl); (case k6 => ((repeat' apply And.intro) <;> (first | with_reducible assumption | ((with_reducible show Heap.IsList _ _ _); first | exact Heap.IsList.at (by assumption) (Fr.keep (by assumption) _) | exact News.isList (by assumption) (by k_mem) | k_extra "my pre") | exact IntsAre.nil | exact (fun _ hc => absurd hc List.not_mem_nil) | k_extra "my pre" | (first | assumption | exact Nat.le_trans (by assumption) (Nat.le_of_ble_eq_true rfl) | exact Nat.lt_of_le_of_lt (by assumption) (Nat.le_of_ble_eq_true rfl) | exact Int.natCast_nonneg _ | exact Int.le_trans (by assumption) (by decide) | exact Int.lt_of_le_of_lt (by assumption) (by decide) | exact Int.lt_of_lt_of_le (by assumption) (by decide) | ((repeat (rename (@LT.lt Nat _ _ _) ∧ _ => hxx; clear hxx)); (repeat (rename (@Ne Nat _ _) ∧ _ => hxx; clear hxx)); (repeat (rename (@Ne Nat _ _ ∧ _) ∧ _ => hxx; clear hxx)); omega)) | trivial | (dsimp only; omega) | assumption))); (case k7 => ktr_room); (case k8 => ktr_units)); intro r' h' tk' F' N' hr'; (try k_sweep); obtain ⟨kF', tF', er', hFF⟩ := hr'; subst er')
  k_with "call ref" => (k_here; (with_reducible show wpAny _ _ (call (Value.ref 86) _) _ _ _); k_dflt (refine' Pure1.use (w_findB _ _ _ _ _ _ _ _ _ _) ?k1 ?k2 ?k3 ?k4 ?k5 ?k6 ?k7 ?k8 ?_; (case k1 => k_asm); (case k2 => k_asm); (case k3 => k_asm); (case k4 => k_asm); (case k5 => rfl); (case k6 => ((repeat' apply And.intro) <;> (first | with_reducible assumption | ((with_reducible show Heap.IsList _ _ _); first | exact Heap.IsList.at (by assumption) (Fr.keep (by assumption) _) | exact News.isList (by assumption) (by k_mem) | k_extra "my pre") | exact IntsAre.nil | exact (fun _ hc => absurd hc List.not_mem_nil) | k_extra "my pre" | (first | assumption | exact Nat.le_trans (by assumption) (Nat.le_of_ble_eq_true rfl) | exact Nat.lt_of_le_of_lt (by assumption) (Nat.le_of_ble_eq_true rfl) | exact Int.natCast_nonneg _ | exact Int.le_trans (by assumption) (by decide) | exact Int.lt_of_le_of_lt (by assumption) (by decide) | exact Int.lt_of_lt_of_le (by assumption) (by decide) | ((repeat (rename (@LT.lt Nat _ _ _) ∧ _ => hxx; clear hxx)); (repeat (rename (@Ne Nat _ _) ∧ _ => hxx; clear hxx)); (repeat (rename (@Ne Nat _ _ ∧ _) ∧ _ => hxx; clear hxx)); omega)) | trivial | (dsimp only; omega) | assumption))); (case k7 => ktr_room); (case k8 => ktr_units)); intro r' h' tk' F' N' hr'; (try k_sweep); obtain ⟨kB', tB', er', hFB⟩ := hr'; subst er')
  k_with "eval IfExp" => k_extra "my if"
  obtain ⟨hl, hi, hl2, hi2, ho, ho2, hz, hz2, hst, hst'⟩ := hpre
  have hln := hi.length
  have hln2 := hi2.length
  have hsl := stands_len (ws := ws) hz
  obtain ⟨lo', hlo⟩ : ∃ lo', lo' = max st 0 := ⟨_, rfl⟩
  have hll := later_len (ws := ws) (lo := lo') hz
  have hss := soon_len (ws := ws) (lo := lo') hz
  k_with "my comp" => (k_here; k_dflt (refine LCt.CompSrcT.ledger (by rfl) (by k_asm) (by k_asm) (by k_mem) (by (rw [PySem.sizeLine_eq]; ((try simp only [List.size_toArray]); omega))) ?_; intro gS; refine' ct_list (fun k => decide (lo' ≤ k ∨ k = cs.length)) (fun k => k) (by assumption) (fun kC tC IC oIC CC oCC DC mC ysC h' tk' EC RC k1 hC' hx' F' N' off' ne' hT hF => ?_) (fun ysC hYs => ?_)); rotate_left; (k_dflt (rw [List.map_id'] at hYs; change IntsAre _ (laterL cs ws lo') at hYs; have hY1 := hYs; have hY1l := hYs.length)); rotate_left; (all_goals (try (simp only [LCg.Off3, and_true] at off'))); (all_goals (try k_fold)))
  k_with "my comp" => ((have gX := hY1); (clear gX); (k_here; k_dflt (refine LCt.CompSrcT.ledger (by rfl) (by k_asm) (by k_asm) (by k_mem) (by (rw [PySem.sizeLine_eq]; ((try simp only [List.size_toArray]); omega))) ?_; intro gS; refine' ct_list (fun k => decide (k ≤ lo')) (fun k => k) (by assumption) (fun kC tC IC oIC CC oCC DC mC ysC h' tk' EC RC k1 hC' hx' F' N' off' ne' hT hF => ?_) (fun ysC hYs => ?_)); rotate_left; (k_dflt (rw [List.map_id'] at hYs; change IntsAre _ (soonL cs ws lo') at hYs; have hY2 := hYs; have hY2l := hYs.length)); rotate_left; (all_goals (try (simp only [LCg.Off3, and_true] at off'))); (all_goals (try k_fold))))
  k_with "my end" => (k_here; k_dflt (first
    | (refine' LCg.CompEnd.intro (by assumption) (by assumption) _ ?sub ?off ?S ⟨_, _, rfl, hT ?_⟩; (case sub => kcf_all); (case off => first | assumption | (simp only [LCg.Off3, and_true]; done) | (simp only [LCg.Off3, and_true]; assumption)); (case S => first | lcg_src | assumption | trivial))
    | (refine' LCg.CompEnd.intro (by assumption) (by assumption) _ ?sub ?off ?S (hF ?_); (case sub => kcf_all); (case off => first | assumption | (simp only [LCg.Off3, and_true]; done) | (simp only [LCg.Off3, and_true]; assumption)); (case S => first | lcg_src | assumption | trivial))))
  k_with "my item" => (k_here; (with_reducible show wpAny _ _ (subscriptTail _ (Expr.UnaryOp _ _ _) _ _) _ _ _); k_dflt (refine' item_last (News.isList (by assumption) ?m1) hY2 ?m2 ?m3 ?_; (case m1 => k_mem); (case m2 => exact len_pos ‹decide (soonL cs ws lo' = []) = false›); (case m3 => exact Nat.lt_of_le_of_lt hss (by decide))); intro zI tI hzI)
  k_with "my item" => (k_here; (with_reducible show wpAny _ _ (subscriptTail _ (Expr.Constant _ _ _) _ _) _ _ _); k_dflt (refine' item_at0 (News.isList (by assumption) ?m1) hY1 (by decide) ?m2 ?m3 ?_; (case m1 => k_mem); (case m2 => exact Int.natCast_pos.mpr (len_pos ‹decide (laterL cs ws lo' = []) = false›)); (case m3 => exact Nat.lt_of_le_of_lt hll (by decide))); intro zJ tJ hzJ)
  k_with "my if" => (k_here; (fail_if_success (with_reducible show wpAny _ _ _ (JoinPost _ _) _ _)); (with_reducible show wpAny _ _ (eval (Expr.IfExp (Expr.Compare (Expr.Name (Str.ofString "start") _) _ _ _) _ _ _) _) _ _ _); k_dflt (refine' join_int (fun z => lo' = z) ?_ ?_); rotate_left; (intro zL tL kL hzL; subst hzL); rotate_left)
  (repeat' (first | (refine JoinPost.mk ?_; (first | assumption | exact Nat.le_trans (by assumption) (Nat.le_of_ble_eq_true rfl) | exact Nat.lt_of_le_of_lt (by assumption) (Nat.le_of_ble_eq_true rfl) | exact Int.natCast_nonneg _ | exact Int.le_trans (by assumption) (by decide) | exact Int.lt_of_le_of_lt (by assumption) (by decide) | exact Int.lt_of_lt_of_le (by assumption) (by decide) | ((repeat (rename (@LT.lt Nat _ _ _) ∧ _ => hxx; clear hxx)); (repeat (rename (@Ne Nat _ _) ∧ _ => hxx; clear hxx)); (repeat (rename (@Ne Nat _ _ ∧ _) ∧ _ => hxx; clear hxx)); omega))) | (k_unfold; (try dsimp only)) | (refine id ?_; k_unfold; (try dsimp only)) | ((with_reducible refine decide_eq_true ?_); (first | assumption | exact Nat.le_trans (by assumption) (Nat.le_of_ble_eq_true rfl) | exact Nat.lt_of_le_of_lt (by assumption) (Nat.le_of_ble_eq_true rfl) | exact Int.natCast_nonneg _ | exact Int.le_trans (by assumption) (by decide) | exact Int.lt_of_le_of_lt (by assumption) (by decide) | exact Int.lt_of_lt_of_le (by assumption) (by decide) | ((repeat (rename (@LT.lt Nat _ _ _) ∧ _ => hxx; clear hxx)); (repeat (rename (@Ne Nat _ _) ∧ _ => hxx; clear hxx)); (repeat (rename (@Ne Nat _ _ ∧ _) ∧ _ => hxx; clear hxx)); omega))) | ((with_reducible refine decide_eq_false ?_); (first | assumption | exact Nat.le_trans (by assumption) (Nat.le_of_ble_eq_true rfl) | exact Nat.lt_of_le_of_lt (by assumption) (Nat.le_of_ble_eq_true rfl) | exact Int.natCast_nonneg _ | exact Int.le_trans (by assumption) (by decide) | exact Int.lt_of_le_of_lt (by assumption) (by decide) | exact Int.lt_of_lt_of_le (by assumption) (by decide) | ((repeat (rename (@LT.lt Nat _ _ _) ∧ _ => hxx; clear hxx)); (repeat (rename (@Ne Nat _ _) ∧ _ => hxx; clear hxx)); (repeat (rename (@Ne Nat _ _ ∧ _) ∧ _ => hxx; clear hxx)); omega))) | walk1 | (dsimp only; first | walk1 | skip) | fail "no step"))
  all_goals first
    | (refine decide_eq_false ?_; omega)
    | (refine decide_eq_true ?_; omega)
    | (exfalso
       have e := find_none hlo ‹FindF _ _ _ _› (of_decide_eq_true ‹decide (laterL _ _ _ = []) = true›)
       exact absurd e (by assumption))
    | (exfalso
       have e := find_some hlo ‹FindF _ _ _ _› (len_pos ‹decide (laterL _ _ _ = []) = false›) hzJ
       exact absurd e (by assumption))
    | (refine ret _ _ _ (Fr.keep (by assumption)) (congrArg Value.bool ?_)
       rw [beq_iff_eq]
       exact back_none hlo ‹FindB _ _ _ _› (of_decide_eq_true ‹decide (soonL _ _ _ = []) = true›))
    | (refine ret _ _ _ (Fr.keep (by assumption)) (congrArg Value.bool ?_)
       rw [beq_iff_eq]
       exact back_some hlo ‹FindB _ _ _ _› (len_pos ‹decide (soonL _ _ _ = []) = false›) hzI)
end Mine
end
-- part Bx
section
set_option maxRecDepth 100000
open PySem PySem.W PySem.Calls PyProof.Rows PyProof.V PySem.Spec
set_option Elab.async false
namespace Mine
/-- every address of the ledger is another than d -/
noncomputable def AllNe (d : Addr) : List (Addr × Obj) → Prop
  | [] => True
  | p :: r => @Ne Nat p.1 d ∧ AllNe d r
theorem allNe_of {d : Addr} : ∀ {l : List (Addr × Obj)}, (∀ p ∈ l, p.1 ≠ d) → AllNe d l
  | [], _ => trivial
  | p :: _, h => ⟨h p (.head _), allNe_of fun q hq => h q (.tail _ hq)⟩
theorem AllNe.all {d : Addr} : ∀ {l : List (Addr × Obj)}, AllNe d l → ∀ p ∈ l, p.1 ≠ d
  | [], _, _, hp => nomatch hp
  | _ :: _, ⟨h, r⟩, p, hp => by
    rcases List.mem_cons.mp hp with rfl | hp
    · exact h
    · exact r.all p hp

/-- the ground of a call that turns b: all that stands but b -/
theorem box_ground {base : Heap} {L b : Addr} {s : Shared} {m : Str → Option Value} {news : List (Addr × Obj)} {ob : Obj} {f : Obj → List (Addr × Obj)}
    (F : Fr base L s.heap m) (N : News base L s.heap news) (U : UpdF b ob news f) :
    (s.heap.get? b = some ob ∧ (s.heap.hide b).get? b = none) ∧ (∀ x o, x ≠ b → s.heap.get? x = some o → (s.heap.hide b).get? x = some o) ∧ (∀ x o, (s.heap.hide b).get? x = some o → s.heap.get? x = some o) ∧ (∀ x o, base.get? x = some o → (s.heap.hide b).get? x = some o) ∧
    (∀ h' ob', (∀ x o, (s.heap.hide b).get? x = some o → h'.get? x = some o) → h'.get? b = some ob' → Fr base L h' m ∧ News base L h' (f ob')) := by
  obtain ⟨pre, post, rfl, hf, a1, a2⟩ := U.split
  have hb := N (b, ob) (List.mem_append.mpr (.inr (.head _)))
  have up : ∀ x o, x ≠ b → s.heap.get? x = some o → (s.heap.hide b).get? x = some o := fun x o hx e => (Heap.hide_ne s.heap hx).trans e
  have dn : ∀ x o, (s.heap.hide b).get? x = some o → s.heap.get? x = some o := fun x o e => Heap.of_hide e
  have hgn : (s.heap.hide b).get? b = none := by
    cases q : (s.heap.hide b).get? b with
    | none => rfl
    | some o => rw [Heap.hide_self] at q; cases q
  have hbb : ∀ x o, base.get? x = some o → (s.heap.hide b).get? x = some o := by
    intro x o e
    refine up x o (fun q => ?_) (F.keep x o e)
    rw [q, hb.2.2] at e; cases e
  refine ⟨⟨hb.1, hgn⟩, up, dn, hbb, fun h' ob' st hob => ⟨?_, ?_⟩⟩
  · obtain ⟨oL, es, ep, hL, r⟩ := F.ns
    exact ⟨⟨oL, es, ep, st _ _ (up _ _ (fun e => hb.2.1 e.symm) hL), r⟩, fun x o e => st x o (hbb x o e), F.above⟩
  · rw [hf]
    intro p hp
    rcases List.mem_append.mp hp with hp | hp
    · have := N p (List.mem_append.mpr (.inl hp))
      exact ⟨st _ _ (up _ _ (a1 p hp) this.1), this.2⟩
    · rcases List.mem_cons.mp hp with rfl | hp
      · exact ⟨hob, hb.2⟩
      · have := N p (List.mem_append.mpr (.inr (.tail _ hp)))
        exact ⟨st _ _ (up _ _ (a2 p hp) this.1), this.2⟩

theorem BoxC.useU {w : World} {mean : ExcName → Option Value} {mg mb : Str → Option Value} {f : Addr} {dd uu : Nat} {b : Addr} {ob : Obj} {pre : Heap → Prop} {vs : List Value} {post : Heap → Obj → Heap → Value → Prop}
    (C : BoxC w mean mg mb f dd uu b ob pre vs post) {A : Around} {s : Shared} {Q E : Value → Shared → Prop} {base : Heap} {L : Addr} {m : Str → Option Value} {news : List (Addr × Obj)} {gl : Obj → List (Addr × Obj)}
    (F : Fr base L s.heap m) (N : News base L s.heap news) (U : UpdF b ob news gl) (X : (KK w.params).In base) (T : Top qq (looseW qq lo) mean mg mb base) (hh : A.handled = none)
    (hp : ∀ g : Heap, (∀ x o, x ≠ b → s.heap.get? x = some o → g.get? x = some o) → (∀ x o, base.get? x = some o → g.get? x = some o) → pre g)
    (hd : A.depth + dd < recursionLimit) (hu : A.units + uu < cLine)
    (ret : ∀ g r h' tk' ob', Fr base L h' m → News base L h' (gl ob') → post g ob' h' r → Q r { s with heap := h', toks := tk' }) :
    wpAny (model Challenge.rw_nt0344_01.row.prog w) A (call (.ref f) vs) Q E s := by
  obtain ⟨ha, dp, fr, gd, un⟩ := A
  cases hh
  obtain ⟨hb, up, dn, bb, en⟩ := box_ground F N U
  exact C dp un gd fr s (s.heap.hide b) Q E (X.keeps bb) (T.keeps bb) dn (Nat.le_of_eq (Heap.hide_size _ _)) hb (hp _ up bb) hd hu fun r h' tk' ob' st hob hr => ret (s.heap.hide b) r h' tk' ob' (en h' ob' st hob).1 (en h' ob' st hob).2 hr

/-- a call that turns one object, b, and hands back a new list -/
noncomputable def BoxL (w : World) (mean : ExcName → Option Value) (mg mb : Str → Option Value) (f : Addr) (dd uu : Nat) (b : Addr) (ob : Obj) (pre : Heap → Prop) (vs : List Value) (post : Obj → List Value → Prop) : Prop :=
  ∀ (dp un : Nat) (gd : Option (List Code)) (fr : Option (List Env)) (s : Shared) (g : Heap) (Q E : Value → Shared → Prop),
    (KK w.params).In g → Top qq (looseW qq lo) mean mg mb g → (∀ b o, g.get? b = some o → s.heap.get? b = some o) → g.objs.size ≤ s.heap.objs.size → (s.heap.get? b = some ob ∧ g.get? b = none) → pre g → dp + dd < recursionLimit → un + uu < cLine →
    (∀ D ys n h' tk' ob', (∀ b o, g.get? b = some o → h'.get? b = some o) → h'.get? b = some ob' → g.get? D = none → D ≠ b → h'.get? D = some (listOf ys.toArray n) → post ob' ys → Q (.ref D) { s with heap := h', toks := tk' }) →
    wpAny (model Challenge.rw_nt0344_01.row.prog w) (ar dp un gd fr) (call (.ref f) vs) Q E s
theorem BoxL.useU {w : World} {mean : ExcName → Option Value} {mg mb : Str → Option Value} {f : Addr} {dd uu : Nat} {b : Addr} {ob : Obj} {pre : Heap → Prop} {vs : List Value} {post : Obj → List Value → Prop}
    (C : BoxL w mean mg mb f dd uu b ob pre vs post) {A : Around} {s : Shared} {Q E : Value → Shared → Prop} {base : Heap} {L : Addr} {m : Str → Option Value} {news : List (Addr × Obj)} {gl : Obj → List (Addr × Obj)}
    (F : Fr base L s.heap m) (N : News base L s.heap news) (U : UpdF b ob news gl) (X : (KK w.params).In base) (T : Top qq (looseW qq lo) mean mg mb base) (hh : A.handled = none)
    (hp : ∀ g : Heap, (∀ x o, x ≠ b → s.heap.get? x = some o → g.get? x = some o) → (∀ x o, base.get? x = some o → g.get? x = some o) → pre g)
    (hd : A.depth + dd < recursionLimit) (hu : A.units + uu < cLine)
    (ret : ∀ D ys n h' tk' ob', Fr base L h' m → News base L h' ((D, listOf ys.toArray n) :: gl ob') → AllNe D news → post ob' ys → Q (.ref D) { s with heap := h', toks := tk' }) :
    wpAny (model Challenge.rw_nt0344_01.row.prog w) A (call (.ref f) vs) Q E s := by
  obtain ⟨ha, dp, fr, gd, un⟩ := A
  cases hh
  obtain ⟨hb, up, dn, bb, en⟩ := box_ground F N U
  refine C dp un gd fr s (s.heap.hide b) Q E (X.keeps bb) (T.keeps bb) dn (Nat.le_of_eq (Heap.hide_size _ _)) hb (hp _ up bb) hd hu fun D ys n h' tk' ob' st hob hDg hDb hD hr => ?_
  obtain ⟨F', N'⟩ := en h' ob' st hob
  refine ret D ys n h' tk' ob' F' ?_ ?_ hr
  · intro p hp
    rcases List.mem_cons.mp hp with rfl | hp
    · refine ⟨hD, ?_, ?_⟩
      · intro e
        obtain ⟨pre, post, rfl, _, _, _⟩ := U.split
        obtain ⟨oL, es, ep, hL, r⟩ := F.ns
        have hb1 := N (b, ob) (List.mem_append.mpr (.inr (.head _)))
        have := up L oL (fun q => hb1.2.1 q.symm) hL
        rw [← e, hDg] at this; cases this
      · cases q : base.get? D with
        | none => rfl
        | some o => have := bb _ _ q; rw [hDg] at this; cases this
    · exact N' p hp
  · refine allNe_of fun p hp e => ?_
    by_cases q : p.1 = b
    · exact hDb (e.symm.trans q)
    · have := up _ _ q (N p hp).1
      rw [e, hDg] at this; cases this

section
variable {prog : Program} {w : World} {A : Around} {E : Value → Shared → Prop} {s : Shared} {env : Env} {h₀ : Heap} {x : Str} {body : List Stmt} {Q : Flow → Shared → Prop}
/-- a loop over a list of ints on the ledger, over a state of my own -/
theorem lst_st {σ : Type} {l : Addr} {n₀ : Nat} {vs : List Value} {ns : List Int} {m₀ : Str → Option Value} {news : List (Addr × Obj)} (st : List Str) (Led : σ → List (Addr × Obj)) (ps : σ → List (Str × Value)) (P : Nat → σ → Prop) (c₀ : σ)
    (hh : A.handled = none) (hl : (l, listOf vs.toArray n₀) ∈ news) (hi : IntsAre vs ns) (F : Fr h₀ env.locals s.heap m₀) (N : News h₀ env.locals s.heap news) (hn : AllIn news (Led c₀)) (hbd : AllB m₀ (ps c₀)) (hp : P 0 c₀) (hadr : ∀ c c', (Led c).map (·.1) = (Led c').map (·.1)) (hap : AllNe l (Led c₀))
    (turn : ∀ (i : Nat) k c (u : Str → Option Value) t h tk own, ns[i]? = some k → OwnOff own ((Led c).map (·.1)) → P i c → Fr h₀ env.locals h (fun y => if y = x then some (.int k t) else kstB (forgB u m₀ (x :: st)) (ps c) y) → News h₀ env.locals h ((l, listOf vs.toArray n₀) :: Led c ++ own) →
      wpAny (model prog w) A (execs body env) (InvPostN h₀ env.locals (fun m' nx => ∃ c', nx = (l, listOf vs.toArray n₀) :: Led c' ∧ AllB m' (ps c') ∧ (∀ z, OffB z (OffN z (m' z = m₀ z) (x :: st)) (ps c')) ∧ P (i + 1) c') own (l :: (Led c).map (·.1)) { s with heap := h, toks := tk } Q) E { s with heap := h, toks := tk })
    (done : ∀ c (u : Str → Option Value) h tk, P ns.length c → Fr h₀ env.locals h (kstB (forgB u m₀ (x :: st)) (ps c)) → News h₀ env.locals h ((l, listOf vs.toArray n₀) :: Led c) → Q .next { s with heap := h, toks := tk }) :
    wpAny (model prog w) A (pyIter (.ref l)) (fun it s₂ => LoopAtV prog w A h₀ env x body Q E it s₂) E s := by
  have hls : s.heap.IsList l vs.toArray := News.isList N hl
  have hne : l ≠ s.heap.objs.size := Nat.ne_of_lt (Heap.lt_size (N _ hl).1)
  refine wpAny_pyIter_list hls ?_
  have W := Walks.list (prog := prog) (w := w) hh s.heap.objs.size l hne vs.toArray
  have hlen : vs.toArray.size = ns.length := by simp [hi.length]
  rw [hlen] at W
  let J : Nat → (Str → Option Value) → List (Addr × Obj) → Prop := fun i m' nx => ∃ (c : σ) (u : Str → Option Value), nx = (l, listOf vs.toArray n₀) :: Led c ∧ m' = kstB (forgB u m₀ (x :: st)) (ps c) ∧ P i c
  have hnews : ∀ p ∈ (l, listOf vs.toArray n₀) :: Led c₀, p ∈ news := fun p hp => by
    rcases List.mem_cons.mp hp with rfl | hp
    · exact hl
    · exact hn.all p hp
  refine ⟨_, _, _, ns.length, _, _, m₀, (l, listOf vs.toArray n₀) :: Led c₀, J, rfl, W, ?_, ?_, ?_, ⟨⟨_, Heap.get?_push_size _ rfl, rfl, rfl⟩, hls.at fun o e => Heap.get?_push_of_some _ e⟩, F.push _, (fun p hp => ⟨Heap.get?_push_of_some _ (N p (hnews p hp)).1, (N p (hnews p hp)).2⟩), ⟨c₀, m₀, rfl, allB_eq hbd (fun z => offB_self (offN_self rfl _) _), hp⟩, ?_, ?_⟩
  · intro hm
    rcases List.mem_cons.mp hm with e | hm
    · exact absurd F.ns.lt (e ▸ Nat.lt_irrefl _)
    · exact (N _ hl).2.1 (List.mem_singleton.mp hm).symm
  · intro b hb
    rw [List.mem_singleton.mp hb]
    exact next_is_new F
  · intro p hp hI
    exact absurd (Heap.lt_size (N p (hnews p hp)).1) ((List.mem_singleton.mp hI) ▸ Nat.lt_irrefl _)
  · rintro i v m₁ news₁ s₁ own ⟨hh', tk', rfl⟩ hin hP ⟨c, u, rfl, rfl, hc⟩ hoff hown _ _ _ F₁ N₁
    have hsep : OwnOff own ((Led c).map (·.1)) := by
      rw [hadr c c₀]
      intro p hp b hb e
      obtain ⟨q, hq, rfl⟩ := List.mem_map.mp hb
      rcases List.mem_cons.mp (hown p hp) with h1 | h1
      · exact absurd (Heap.lt_size (N q (hn.all q hq)).1) (by rw [← e, h1]; exact Nat.lt_irrefl _)
      · exact hap.all q hq (e.symm.trans (List.mem_singleton.mp h1))
    have hlt' : i < ns.length := hin
    obtain ⟨t, hx⟩ := hi.get i ns[i] (by simp [hlt'])
    have hv : v = .int ns[i] t := by
      have hP' : vs[i]? = some v := by simpa using hP
      rw [hx] at hP'; exact (Option.some.inj hP').symm
    subst hv
    have N₂ : News h₀ env.locals hh' ((l, listOf vs.toArray n₀) :: Led c ++ own) := fun p hp => N₁ p ((List.mem_append.mp hp).elim (fun h => List.mem_append.mpr (.inr h)) fun h => List.mem_append.mpr (.inl h))
    refine wpAny_mono (turn i ns[i] c u t hh' tk' own (by simp [hlt']) hsep hc F₁ N₂) (fun f s₂ p => ?_) fun _ _ e => e
    have fin : InvEndN h₀ env.locals (fun m' nx => ∃ c', nx = (l, listOf vs.toArray n₀) :: Led c' ∧ AllB m' (ps c') ∧ (∀ z, OffB z (OffN z (m' z = m₀ z) (x :: st)) (ps c')) ∧ P (i + 1) c') own (l :: (Led c).map (·.1)) { s with heap := hh', toks := tk' } s₂ →
        LoopStepU h₀ env.locals [s.heap.objs.size] own (J (i + 1)) { s with heap := hh', toks := tk' } .next s₂ := by
      rintro ⟨h', tk, m', news', nx, e, F', N', hn', ho', ha, c', rfl, hS2, hS3, hS4⟩
      refine ⟨rfl, h', tk, m', _, e, F', fun p hp => N' p ((List.mem_append.mp hp).elim (ho' p) (hn' p)), fun p hp hq => ?_, c', m', rfl, allB_eq hS2 hS3, hS4⟩
      have h1 : p.1 ∈ ((l, listOf vs.toArray n₀) :: Led c').map (·.1) := List.mem_map.mpr ⟨p, hp, rfl⟩
      rw [List.map_cons, hadr c' c] at h1
      obtain ⟨q, hq1, hq2⟩ := List.mem_map.mp (show p.1 ∈ ((l, listOf vs.toArray n₀) :: Led c).map (·.1) from h1)
      exact hoff q hq1 (by rw [hq2]; exact hq)
    cases f with
    | ret v => exact .ret p
    | brk => exact .brk p
    | next => exact .next (fin p)
    | cont => exact .cont (fin p)
  · rintro h' tk m' news' F' N' _ ⟨c, u, rfl, rfl, hc⟩
    exact done c u h' tk hc F' N'
end
theorem isList_up {h g : Heap} {b l : Addr} {its : Array Value} (up : ∀ x o, x ≠ b → h.get? x = some o → g.get? x = some o) (hn : l ≠ b) (hl : h.IsList l its) : g.IsList l its := hl.at fun o e => up l o hn e
theorem one_news {h g : Heap} {b : Addr} {ob : Obj} (hb : h.get? b = some ob ∧ g.get? b = none) : ∀ q ∈ [(b, ob)], h.get? q.1 = some q.2 ∧ g.get? q.1 = none := fun q hq => by rw [List.mem_singleton.mp hq]; exact hb
end Mine
end
-- part D1
section
set_option maxRecDepth 100000
open PySem PySem.W PySem.Calls PyProof.Rows
set_option Elab.async false
namespace Mine
variable (w : World) (mean : ExcName → Option Value) (mg mb : Str → Option Value)
/-- the box: its place, the script's list, the last number -/
noncomputable def BoxOk (c : Addr) (ob : Obj) : Prop := ∃ i ti r tr n, ob = listOf #[.int i ti, .ref c, .int r tr] n ∧ -1 ≤ i ∧ 0 ≤ r ∧ r < 2147483647
/-- the script's ints -/
noncomputable def Script (vs : List Value) : Prop := ∃ ns, IntsAre vs ns ∧ ns.length ≤ 40
set_option maxHeartbeats 2000000
theorem w_draw0 (b c : Addr) (n : Nat) (vs : List Value) (ns : List Int) (i r many : Int) (ti tr tm) : BoxC w mean mg mb 140 10 100 b (listOf #[.int i ti, .ref c, .int r tr] n) (fun g => g.IsList c vs.toArray ∧ IntsAre vs ns ∧ ns.length ≤ 40 ∧ -1 ≤ i ∧ 0 ≤ r ∧ r < 2147483647 ∧ 0 < many) [.ref b, .int many tm]
    (fun _ ob' _ r' => ∃ v t, r' = .int v t ∧ 0 ≤ v ∧ v < many ∧ BoxOk c ob') := by
  unfold BoxC; k_fill; intro dp un gd fr s g Q E X T hg hz hb hpre hdp hun ret; refine wpAny_call ?_; k_dflt (refine' enterG (g := g) (news := ?nw) ?k1 ?k2 ?g1 ?g2 ?g3 ?k6 ?k7 ?k8 ?k9 ?kB ?_ ?c2 ?c3 ?c4 ?c5; (case k1 => assumption); (case k2 => assumption); (case g1 => assumption); (case g2 => assumption); (case g3 => exact one_news hb); (case k6 => k_is); (case k7 => k_is); (case k8 => ktr_room); (case k9 => exact BindsTo.of_eq rfl); (case c5 => decide); (case kB => exact locs rfl); (case c2 => exact rfl); (case c3 => exact rfl); (case c4 => exact rfl); k_whole; intro L' h' F' N' l1; (k_lt l1); (try dsimp only); (try k_fold))
  k_with_none
  k_with "own ne" => (refine neN ?_; (try dsimp only); first | assumption | exact Ne.symm (by assumption) | exact Nat.ne_of_gt (by assumption) | exact Nat.ne_of_lt (by assumption) | fail "none")
  k_with "own room" => first | exact room1 hdp rfl | fail "none"
  k_with "own units" => first | exact units1 hun rfl | fail "none"
  k_with "eval Call Name" => refine Call_ ?_
  k_with "pyIter ref" => k_extra "my loop"
  k_with "exec While" => k_extra "my while"
  k_with "call builtin:len" => (k_here; (with_reducible show wpAny _ _ (call (Value.builtin "len") [Value.ref _]) _ _ _); k_dflt (refine' call_len_list (News.isList ?k1 ?k2) ?k3 ?_; (case k1 => k_asm); (case k2 => k_mem); (case k3 => (simp only [List.push_toArray, List.size_toArray, Array.size_push, List.length_append, List.length_cons, List.length_nil]; omega))))
  k_with "CompEnd" => k_extra "my end"
  k_with "CompSrcT" => k_extra "my comp"
  k_with "CompSrc" => k_extra "my comp"
  k_with "eval ListComp" => (k_here; k_dflt (first | ((with_reducible show wpAny _ _ (eval (Expr.ListComp _ [⟨Expr.Name _ _, _, [_], _⟩] _ _) _) _ _ _); refine LCt.ListComp_T (F₀ := by k_asm) (by with_unfolding_all rfl) (by decide) (by rfl) (by decide) (by rfl) ?_) | (refine LCg.ListComp_U (F₀ := by k_asm) (by with_unfolding_all rfl) (by decide) (by rfl) (by decide) (by rfl) ?_)))
  k_with "exec Assign cons ListComp" => (k_here; k_dflt (first | ((with_reducible show wpAny _ _ (exec (Stmt.Assign _ (Expr.ListComp _ [⟨Expr.Name _ _, _, [_], _⟩] _ _) _) _) _ _ _); refine LCt.Assign_ListComp_T (F₀ := by k_asm) (by rfl) (by with_unfolding_all rfl) (by with_unfolding_all rfl) (by decide) (by rfl) (by decide) (by rfl) (by rfl) (by rfl) ?_) | (refine LCg.Assign_ListComp_U (F₀ := by k_asm) (by rfl) (by with_unfolding_all rfl) (by with_unfolding_all rfl) (by decide) (by rfl) (by decide) (by rfl) (by rfl) (by rfl) ?_)))
  obtain ⟨hl, hi, hn, h1, h3, h4, h5⟩ := hpre
  have hln := hi.length
  (repeat' (first | (k_unfold; (try dsimp only)) | (refine id ?_; k_unfold; (try dsimp only)) | (walk1; (all_goals (try (first | ((with_reducible show wpAny _ _ (exec _ _) _ _ _); k_fold) | ((with_reducible show wpAny _ _ (call _ _) _ _ _); k_fold))))) | (dsimp only; first | (walk1; (all_goals (try (first | ((with_reducible show wpAny _ _ (exec _ _) _ _ _); k_fold) | ((with_reducible show wpAny _ _ (call _ _) _ _ _); k_fold))))) | skip) | fail "no step"))
  all_goals (rename News _ _ _ _ => nN)
  · exact ret _ _ _ _ (Fr.keep (by assumption)) (News.get nN (.head _)) ⟨_, _, rfl, Int.fmod_nonneg_of_pos _ h5, Int.fmod_lt_of_pos _ h5, _, _, _, _, _, rfl, Int.le_trans h1 (by omega), h3, h4⟩
  · exact ret _ _ _ _ (Fr.keep (by assumption)) (News.get nN (.head _)) ⟨_, _, rfl, Int.fmod_nonneg_of_pos _ h5, Int.fmod_lt_of_pos _ h5, _, _, _, _, _, rfl, Int.le_trans h1 (by omega), Int.fmod_nonneg_of_pos _ (by decide), Int.fmod_lt_of_pos _ (by decide)⟩
theorem w_draw (b c : Addr) (ob : Obj) (vs : List Value) (many : Int) (tm) : BoxC w mean mg mb 140 10 100 b ob (fun g => BoxOk c ob ∧ g.IsList c vs.toArray ∧ Script vs ∧ 0 < many) [.ref b, .int many tm]
    (fun _ ob' _ r' => ∃ v t, r' = .int v t ∧ 0 ≤ v ∧ v < many ∧ BoxOk c ob') := by
  intro dp un gd fr s g Q E X T hg hz hb hpre hdp hun ret
  obtain ⟨⟨i, ti, r, tr, n, rfl, h1, h3, h4⟩, hl, ⟨ns, hi, hn⟩, h5⟩ := hpre
  exact w_draw0 w mean mg mb b c n vs ns i r many ti tr tm dp un gd fr s g Q E X T hg hz hb ⟨hl, hi, hn, h1, h3, h4, h5⟩ hdp hun ret

theorem kept_mem {z k : Int} (h : z = sg keptC k) (h0 : 0 ≤ k) (h1 : k < 11) : z ∈ keptC := by rw [h]; exact sg_mem h0 h1
theorem kpt_snoc {cs : List Int} {z : Int} (h : Kpt cs) (hz : z ∈ keptC) : Kpt (cs ++ [z]) := fun c hc => (List.mem_append.mp hc).elim (h c) (fun q => by rw [List.mem_singleton.mp q]; exact hz)
section
variable {prog : Program} {w : World} {A : Around} {h₀ : Heap} {L : Addr} {m : Str → Option Value} {env : Env} {ct elt : Expr} {x : Str} {scope : Scope} {cl : List (Str × Addr)} {s : Shared} {S : List (Addr × Obj) → Prop} {P : Nat → Value → Prop} {Fin : List Value → List (Addr × Obj) → Prop}
theorem cs_box3 {σ : Type} {n : Nat} {p1 p2 p3 : Addr × Obj} {b : Addr} (obf : σ → Obj) (J : Nat → List Value → σ → Prop) (c₀ : σ) (hj : J 0 [] c₀)
    (turn : ∀ i v I oI C oC D m₂ ys c h tk (E' : Value → Shared → Prop), i < n → P i v → J i ys c → LCg.NsObj oC m₂ → m₂ x = some v → Fr h₀ L h m → News h₀ L h ((I, oI) :: (C, oC) :: (D, LCg.lst ys) :: [p1, p2, p3, (b, obf c)]) → LCg.Off3 I C D [p1, p2, p3, (b, obf c)] → ((@Ne Nat I C) ∧ (@Ne Nat I D) ∧ (@Ne Nat C D)) →
      wpAny (model prog w) A (eval elt (compEnvC scope cl C env)) (LCg.CompEnd h₀ L m { s with heap := h, toks := tk } I oI C oC D (LCg.lst ys) S (fun y news' => ∃ c', news' = [p1, p2, p3, (b, obf c')] ∧ J (i + 1) (ys ++ [y]) c')) E' { s with heap := h, toks := tk })
    (fin : ∀ ys c, J n ys c → Fin ys [p1, p2, p3, (b, obf c)]) : LCg.CompRest prog w A h₀ L m env elt x scope cl s S P Fin n 0 [] [p1, p2, p3, (b, obf c₀)] :=
  cs_rest (fun c => [p1, p2, p3, (b, obf c)]) J c₀ hj turn fin
end
theorem fd3 {v : Int} (h0 : 0 ≤ v) (h1 : v < 4) : 0 < 3 + 8 * v.fdiv 3 ∧ 3 + 8 * v.fdiv 3 ≤ 11 := by
  rw [Int.fdiv_eq_ediv_of_nonneg _ (show (0 : Int) ≤ 3 by decide)]; omega
theorem small_most {v most : Int} (h1 : v < most + 1) (h : most ≤ 20) : v ≤ 20 := by omega
theorem len_most {a : Nat} {v : Int} (h : a = (v - 0).toNat) (hv : v ≤ 20) : a ≤ 20 := by omega
theorem w_codes (b c : Addr) (ob : Obj) (vs : List Value) (most : Int) (tm) : BoxL w mean mg mb 145 40 400 b ob (fun g => BoxOk c ob ∧ g.IsList c vs.toArray ∧ Script vs ∧ 0 ≤ most ∧ most ≤ 20) [.ref b, .int most tm]
    (fun ob' ys => ∃ cs, IntsAre ys cs ∧ Kpt cs ∧ cs.length ≤ 20 ∧ BoxOk c ob') := by
  unfold BoxL; k_fill; intro dp un gd fr s g Q E X T hg hz hb hpre hdp hun ret; refine wpAny_call ?_; k_dflt (refine' enterGC (g := g) (news := ?nw) ?k1 ?k2 ?g1 ?g2 ?g3 ?k6 ?k7 ?k8 ?k9 ?kB ?kD ?_ ?c2 ?c3 ?c4; (case k1 => assumption); (case k2 => assumption); (case g1 => assumption); (case g2 => assumption); (case g3 => exact one_news hb); (case k6 => k_is); (case k7 => k_is); (case k8 => ktr_room); (case k9 => exact BindsTo.of_eq rfl); (case kB => exact rfl); (case kD => decide +kernel); (case c2 => exact rfl); (case c3 => exact rfl); (case c4 => exact rfl); k_whole; intro L' h' tk' cells' F' N' Y' l1; (k_lt l1); k_cells Y'; (try simp only [List.cons_append, List.nil_append] at N'); (try dsimp only); (try k_fold))
  k_with_none
  k_with "own ne" => (refine neN ?_; (try dsimp only); first | assumption | exact Ne.symm (by assumption) | exact Nat.ne_of_gt (by assumption) | exact Nat.ne_of_lt (by assumption) | fail "none")
  k_with "own room" => first | exact room1 hdp rfl | fail "none"
  k_with "own units" => first | exact units1 hun rfl | fail "none"
  k_with "eval Call Name" => refine Call_ ?_
  k_with "pyIter ref" => k_extra "my loop"
  k_with "exec While" => k_extra "my while"
  k_with "call builtin:len" => (k_here; (with_reducible show wpAny _ _ (call (Value.builtin "len") [Value.ref _]) _ _ _); k_dflt (refine' call_len_list (News.isList ?k1 ?k2) ?k3 ?_; (case k1 => k_asm); (case k2 => k_mem); (case k3 => (simp only [List.push_toArray, List.size_toArray, Array.size_push, List.length_append, List.length_cons, List.length_nil]; omega))))
  k_with "CompEnd" => k_extra "my end"
  k_with "CompSrcT" => k_extra "my comp"
  k_with "CompSrc" => k_extra "my comp"
  k_with "eval ListComp" => (k_here; k_dflt (first | ((with_reducible show wpAny _ _ (eval (Expr.ListComp _ [⟨Expr.Name _ _, _, [_], _⟩] _ _) _) _ _ _); refine LCt.ListComp_T (F₀ := by k_asm) (by with_unfolding_all rfl) (by decide) (by rfl) (by decide) (by rfl) ?_) | (refine LCg.ListComp_U (F₀ := by k_asm) (by with_unfolding_all rfl) (by decide) (by rfl) (by decide) (by rfl) ?_)))
  k_with "exec Assign cons ListComp" => (k_here; k_dflt (first | ((with_reducible show wpAny _ _ (exec (Stmt.Assign _ (Expr.ListComp _ [⟨Expr.Name _ _, _, [_], _⟩] _ _) _) _) _ _ _); refine LCt.Assign_ListComp_T (F₀ := by k_asm) (by rfl) (by with_unfolding_all rfl) (by with_unfolding_all rfl) (by decide) (by rfl) (by decide) (by rfl) (by rfl) (by rfl) ?_) | (refine LCg.Assign_ListComp_U (F₀ := by k_asm) (by rfl) (by with_unfolding_all rfl) (by with_unfolding_all rfl) (by decide) (by rfl) (by decide) (by rfl) (by rfl) (by rfl) ?_)))
  k_with "subscriptTail" => k_extra "my item"
  k_with "call ref" => (k_here; (with_reducible show wpAny _ _ (call (Value.ref 140) _) _ _ _); k_dflt (refine' BoxC.useU (w_draw _ _ _ _ _ _ _ _ _ _) ?k1 ?k2 ?kU ?k3 ?k4 ?k5 ?k6 ?k7 ?k8 ?_; (case k1 => k_asm); (case k2 => k_asm); (case kU => k_updF); (case k3 => k_asm); (case k4 => k_asm); (case k5 => rfl); (case k6 => (intro gP upP keP; (repeat' apply And.intro) <;> (first | with_reducible assumption | ((with_reducible show Heap.IsList _ _ _); first | exact Heap.IsList.at (by assumption) (keP _) | exact isList_up upP (by k_ne) (News.isList (by assumption) (by k_mem))) | decide | k_extra "my pre" | (first | assumption | exact Nat.le_trans (by assumption) (Nat.le_of_ble_eq_true rfl) | exact Nat.lt_of_le_of_lt (by assumption) (Nat.le_of_ble_eq_true rfl) | exact Int.natCast_nonneg _ | exact Int.le_trans (by assumption) (by decide) | exact Int.lt_of_le_of_lt (by assumption) (by decide) | exact Int.lt_of_lt_of_le (by assumption) (by decide) | ((repeat (rename (@LT.lt Nat _ _ _) ∧ _ => hxx; clear hxx)); (repeat (rename (@Ne Nat _ _) ∧ _ => hxx; clear hxx)); (repeat (rename (@Ne Nat _ _ ∧ _) ∧ _ => hxx; clear hxx)); omega)) | trivial | (dsimp only; omega) | assumption))); (case k7 => ktr_room); (case k8 => ktr_units)); intro g' r' h' tk' ob' F' N' hr'; obtain ⟨v', tv', er', hv0', hv1', hb'⟩ := hr'; subst er')
  obtain ⟨hbo, hl, hsc, h5, h6⟩ := hpre
  k_with "my comp" => (k_here; (have hvm := small_most (by assumption) h6); k_dflt (refine LCg.CompSrc.range (by rfl) (by k_asm) (by k_asm) (by assumption) (small_one (show -(2 ^ 62) ≤ (0 : Int) from by decide) (show (0 : Int) < 2 ^ 62 from by decide) (Int.le_trans (show -(2 ^ 62) ≤ (0 : Int) from by decide) (by assumption)) (Int.lt_of_le_of_lt hvm (show (20 : Int) < 2 ^ 62 from by decide))) (rangeSize_nat _ _) (by (rw [PySem.sizeLine_eq]; omega)) ?_; intro gS; refine' cs_box3 (σ := Obj) (fun z => z) (fun j ys z => (∃ cs, IntsAre ys cs ∧ Kpt cs ∧ cs.length = j) ∧ BoxOk c z) _ ?hj (fun iC vC IC oIC CC oCC DC mC ysC z h' tk' EC hlt hP hJ hC' hx' F' N' off' ne' => ?_) (fun ysC z hYs => ?_); (case hj => exact ⟨⟨[], .nil, (fun _ hc => absurd hc List.not_mem_nil), rfl⟩, by assumption⟩)); rotate_left; obtain ⟨⟨csN, hY1, hY2, hY3⟩, hY4⟩ := hYs; rotate_left; (simp only [LCg.Off3, and_true] at off'); obtain ⟨⟨csN, hY1, hY2, hY3⟩, hY4⟩ := hJ; obtain ⟨⟨hO1, hO2, hO3⟩, ⟨hO4, hO5, hO6⟩, ⟨hO7, hO8, hO9⟩, hOa, hOb, hOc⟩ := off'; obtain ⟨hOd, hOe, hOf⟩ := ne'; (all_goals (try k_fold)))
  k_with "my end" => (k_here; k_dflt (refine' LCg.CompEnd.intro (by assumption) (by assumption) _ ?sub ?off ?S ⟨_, rfl, ?J⟩; (case sub => kcf_all); (case off => (simp only [LCg.Off3, and_true]; exact ⟨⟨hO1, hO2, hO3⟩, ⟨hO4, hO5, hO6⟩, ⟨hO7, hO8, hO9⟩, hOa, hOb, hOc⟩)); (case S => first | lcg_src | assumption | trivial); (case J => exact ⟨⟨csN ++ [zI], ints_snoc hY1, kpt_snoc hY2 hzK, (by rw [List.length_append, hY3]; rfl)⟩, by assumption⟩)))
  k_with "my pre" => first | exact (fd3 (by assumption) (by assumption)).1 | exact Int.lt_add_one_of_le h5
  k_with "my item" => (k_here; k_dflt (refine' item_at0 (ns := keptC) (News.isList (by assumption) ?m1) ?mi ?m0 ?m2 ?m3 ?_; (case m1 => k_mem); (case mi => (repeat' (first | exact IntsAre.nil | refine IntsAre.cons _ _ ?_))); (case m0 => assumption); (case m2 => exact Int.lt_of_lt_of_le (by assumption) (fd3 (by assumption) (by assumption)).2); (case m3 => decide)); intro zI tI hzI; (have hzK := kept_mem hzI (by assumption) (Int.lt_of_lt_of_le (by assumption) (fd3 (by assumption) (by assumption)).2)))
  (repeat' (first | (k_unfold; (try dsimp only)) | (refine id ?_; k_unfold; (try dsimp only)) | (walk1; (all_goals (try (first | ((with_reducible show wpAny _ _ (exec _ _) _ _ _); k_fold) | ((with_reducible show wpAny _ _ (call _ _) _ _ _); k_fold))))) | (dsimp only; first | (walk1; (all_goals (try (first | ((with_reducible show wpAny _ _ (exec _ _) _ _ _); k_fold) | ((with_reducible show wpAny _ _ (call _ _) _ _ _); k_fold))))) | skip) | fail "no step"))
  · rename News _ _ _ _ => nN
    exact ret _ ysC _ _ _ _ (Fr.keep (by assumption)) (News.get nN (by k_mem)) (News.fresh nN (.head _)) (by k_ne) (News.get nN (.head _)) ⟨csN, hY1, hY2, len_most hY3 hvm, hY4⟩
end Mine
end
-- part D2
section
set_option maxRecDepth 100000
open PySem PySem.W PySem.Calls PyProof.Rows
set_option Elab.async false
namespace Mine
section
variable {prog : Program} {w : World} {A : Around} {E : Value → Shared → Prop} {s : Shared}
theorem item_strS {value slice : Expr} {l : Addr} {vs : List Value} {ss : List Str} {k : Int} {u : Tok} {Q : Value → Shared → Prop} (hl : s.heap.IsList l vs.toArray) (hi : StrsAre vs ss) (h0 : 0 ≤ k) (h1 : k < ss.length) (hsz : ss.length < 2 ^ 62)
    (h : ∀ z t, z = ss.getD k.toNat (Str.ofString "") → Q (.str z t) s)
    (hs : subscripted slice false (.ref l) (.int k u) = operate [.ref l, .int k u] (getItem (.ref l) (.int k u)) := by with_unfolding_all rfl) (hg : ∀ r, letTemporaryGo value (.ref l) r = pure () := by intro _; with_unfolding_all rfl) :
    wpAny (model prog w) A (subscriptTail value slice (.ref l) (.int k u)) Q E s := by
  have hk : k.toNat < ss.length := by omega
  obtain ⟨t, ht⟩ := hi.at (j := k.toNat) (y := ss[k.toNat]) (by simp [hk])
  refine item_listL hl h0 (by omega) ht (h _ t ?_) hs hg
  rw [List.getD_eq_getElem?_getD, List.getElem?_eq_getElem hk]; rfl
end
noncomputable def seven (x0 x1 x2 x3 x4 x5 x6 : Str) (k : Int) : Str := [x0, x1, x2, x3, x4, x5, x6].getD k.toNat (Str.ofString "")
theorem seven_all {P : Str → Prop} {x0 x1 x2 x3 x4 x5 x6 : Str} {k : Int} (h0 : 0 ≤ k) (h1 : k < 7) (p0 : P x0) (p1 : P x1) (p2 : P x2) (p3 : P x3) (p4 : P x4) (p5 : P x5) (p6 : P x6) : P (seven x0 x1 x2 x3 x4 x5 x6 k) := by
  have c : k = 0 ∨ k = 1 ∨ k = 2 ∨ k = 3 ∨ k = 4 ∨ k = 5 ∨ k = 6 := by omega
  rcases c with rfl | rfl | rfl | rfl | rfl | rfl | rfl
  · exact p0
  · exact p1
  · exact p2
  · exact p3
  · exact p4
  · exact p5
  · exact p6
variable (w : World) (mean : ExcName → Option Value) (mg mb : Str → Option Value)
theorem w_fillD (tm wl : List Int) (at' many : Int) (t1 t2 t3 t4) : Pure1 w mean mg mb 114 10 100 (fun _ => Oks (tm ++ [36]) ∧ Oks wl ∧ (tm ++ [36]).length ≤ 100 ∧ wl.length ≤ 100 ∧ 0 ≤ at' ∧ 0 ≤ many ∧ at' ≤ 100 ∧ many ≤ 100) [.str (tx tm ++ Str.ofString "$") t1, .str (tx wl) t2, .int at' t3, .int many t4]
    (fun _ r => ∃ t, r = .str (tx (fillL (pc wl at' many) (tm ++ [36]))) t) := by
  rw [lit_d, tx_app]; exact w_fill w mean mg mb (tm ++ [36]) wl at' many t1 t2 t3 t4
structure FlS where
  ob : Obj
  tm : Str
  dl : Str
  t1 : Tok
  t2 : Tok
noncomputable def FilP (f : Int → Int → Option (List Int)) (tm dl : Str) : Prop := ∃ a d, tm = tx a ∧ dl = tx d ∧ Oks a ∧ Oks d ∧ ∀ r, fillL f (a ++ r) = d ++ fillL f r
theorem fil_step {f : Int → Int → Option (List Int)} {tm dl P Q : Str} (h : FilP f tm dl) {p q : List Int} (hP : P = tx p) (hQ : Q = tx q) (op : Oks p) (oq : Oks q) (hf : ∀ r, fillL f (p ++ r) = q ++ fillL f r) : FilP f (tm ++ P) (dl ++ Q) := by
  obtain ⟨a, d, rfl, rfl, oa, od, h⟩ := h
  subst hP hQ
  refine ⟨a ++ p, d ++ q, tx_app _ _, tx_app _ _, oa.app op, od.app oq, fun r => ?_⟩
  rw [List.append_assoc, h, hf, List.append_assoc]
theorem fil_all {f : Int → Int → Option (List Int)} {a d : List Int} (h : ∀ r, fillL f (a ++ r) = d ++ fillL f r) : fillL f a = d := by
  have := h []
  rwa [List.append_nil, fillL, List.append_nil] at this
theorem fil_dol {f : Int → Int → Option (List Int)} {a d : List Int} (h : ∀ r, fillL f (a ++ r) = d ++ fillL f r) : fillL f (a ++ [36]) = d ++ [36] := h [36]
theorem fil_some {f : Int → Int → Option (List Int)} {c d : Int} {p : List Int} (h : f c d = some p) (r : List Int) : fillL f ([c, d] ++ r) = p ++ fillL f r := by
  show fillL f (c :: d :: r) = _
  rw [fillL, h]
theorem fil_other {wl : List Int} {a m c : Int} (h : ¬ c = 36) (r : List Int) : fillL (pc wl a m) ([c] ++ r) = [c] ++ fillL (pc wl a m) r := by
  cases r with
  | nil => rfl
  | cons d r =>
    show fillL (pc wl a m) (c :: d :: r) = c :: fillL (pc wl a m) (d :: r)
    rw [fillL, pc_n h]
theorem fil_one {wl : List Int} {a m : Int} (r : List Int) : fillL (pc wl a m) ([36, 49] ++ r) = [36, 49] ++ fillL (pc wl a m) r := by
  have h := fil_other (wl := wl) (a := a) (m := m) (c := 49) (by decide) r
  show fillL (pc wl a m) (36 :: 49 :: r) = 36 :: 49 :: fillL (pc wl a m) r
  rw [fillL, pc_m (c := 36) (d := 49) (by decide) (by decide) (by decide) (by decide)]
  exact congrArg (36 :: ·) h
theorem two_ok {j k : Int} (h0 : 0 ≤ j) (h1 : j ≤ 1114111) (g0 : 0 ≤ k) (g1 : k ≤ 1114111) : Oks [j, k] := fun c hc => by
  rcases List.mem_cons.mp hc with rfl | hc
  · exact ⟨h0, h1⟩
  · rw [List.mem_singleton.mp hc]; exact ⟨g0, g1⟩
theorem lit_dd : Str.ofString "$$" = tx [36, 36] := by decide +kernel
theorem lit_da : Str.ofString "$&" = tx [36, 38] := by decide +kernel
theorem lit_db : Str.ofString "$`" = tx [36, 96] := by decide +kernel
theorem lit_dq : Str.ofString "$'" = tx [36, 39] := by decide +kernel
theorem lit_x : Str.ofString "x" = tx [120] := by decide +kernel
theorem lit_d1 : Str.ofString "$1" = tx [36, 49] := by decide +kernel
theorem fil_seven {cs : List Int} {at' many k : Int} (ho : Oks cs) (h0 : 0 ≤ k) (h1 : k < 7) (h5 : 0 ≤ at') (h7 : 0 ≤ many) {tm dl : Str} (h : FilP (pc cs at' many) tm dl) :
    FilP (pc cs at' many) (tm ++ seven (Str.ofString "$$") (Str.ofString "$&") (Str.ofString "$`") (Str.ofString "$'") (Str.ofString "x") (Str.ofString "$1") (Str.ofString "&") k)
      (dl ++ seven (Str.ofString "$") (Txt.slice (tx cs) (some at') (some (at' + many))) (Txt.slice (tx cs) none (some at')) (Txt.slice (tx cs) (some (at' + many)) none) (Str.ofString "x") (Str.ofString "$1") (Str.ofString "&") k) := by
  have e1 := tx_seg (a := cs) h5 (show 0 ≤ at' + many by omega)
  have e2 := tx_slice_to (cs := cs) h5
  have e3 := tx_slice_from (cs := cs) (show 0 ≤ at' + many by omega)
  have c : k = 0 ∨ k = 1 ∨ k = 2 ∨ k = 3 ∨ k = 4 ∨ k = 5 ∨ k = 6 := by omega
  rcases c with rfl | rfl | rfl | rfl | rfl | rfl | rfl
  · exact fil_step h lit_dd lit_d (two_ok (by decide) (by decide) (by decide) (by decide)) (one_ok (by decide) (by decide)) (fil_some (pc_d rfl rfl))
  · exact fil_step h lit_da e1 (two_ok (by decide) (by decide) (by decide) (by decide)) (ho.seg _ _) (fil_some (pc_a rfl rfl))
  · exact fil_step h lit_db e2 (two_ok (by decide) (by decide) (by decide) (by decide)) (ho.take _) (fil_some (pc_b rfl rfl))
  · exact fil_step h lit_dq e3 (two_ok (by decide) (by decide) (by decide) (by decide)) (ho.drop _) (fil_some (pc_q rfl rfl))
  · exact fil_step h lit_x lit_x (one_ok (by decide) (by decide)) (one_ok (by decide) (by decide)) (fil_other (by decide))
  · exact fil_step h lit_d1 lit_d1 (two_ok (by decide) (by decide) (by decide) (by decide)) (two_ok (by decide) (by decide) (by decide) (by decide)) fil_one
  · exact fil_step h lit_a lit_a (one_ok (by decide) (by decide)) (one_ok (by decide) (by decide)) (fil_other (by decide))
theorem fil_sevenE {cs : List Int} {at' many k : Int} {P Q : Str} (hP : P = seven (Str.ofString "$$") (Str.ofString "$&") (Str.ofString "$`") (Str.ofString "$'") (Str.ofString "x") (Str.ofString "$1") (Str.ofString "&") k)
    (hQ : Q = seven (Str.ofString "$") (Txt.slice (tx cs) (some at') (some (at' + many))) (Txt.slice (tx cs) none (some at')) (Txt.slice (tx cs) (some (at' + many)) none) (Str.ofString "x") (Str.ofString "$1") (Str.ofString "&") k)
    (ho : Oks cs) (h0 : 0 ≤ k) (h1 : k < 7) (h5 : 0 ≤ at') (h7 : 0 ≤ many) {tm dl : Str} (h : FilP (pc cs at' many) tm dl) : FilP (pc cs at' many) (tm ++ P) (dl ++ Q) := by
  rw [hP, hQ]; exact fil_seven ho h0 h1 h5 h7 h
theorem fil_nil (f) : FilP f (Str.ofString "") (Str.ofString "") := ⟨[], [], tx_nil.symm, tx_nil.symm, Oks.nil, Oks.nil, fun _ => rfl⟩
theorem str_len_app (x y : Str) : (x ++ y).length = x.length + y.length := by unfold Str.length; rw [Str.cps_append]; simp
theorem len_nil (k : Int) : ((Str.ofString "").length : Int) ≤ k * ((0 : Nat) : Int) := by rw [← tx_nil, tx_len]; simp
theorem lit_len {x : Str} {a : List Int} (h : x = tx a) : x.length = a.length := by rw [h, tx_len]
set_option maxHeartbeats 40000000
theorem w_filledR (b c l : Addr) (ob : Obj) (vs vs2 : List Value) (cs : List Int) (at' many : Int) (t1 t2) : BoxC w mean mg mb 189 60 600 b ob (fun g => BoxOk c ob ∧ g.IsList c vs.toArray ∧ Script vs ∧
     g.IsList l vs2.toArray ∧ IntsAre vs2 cs ∧ Oks cs ∧ cs.length ≤ 20 ∧ 0 ≤ at' ∧ at' ≤ cs.length ∧ 0 ≤ many ∧ at' + many ≤ cs.length) [.ref b, .ref l, .int at' t1, .int many t2]
    (fun _ ob' _ r' => r' = .bool true ∧ BoxOk c ob') := by
  unfold BoxC; k_fill; intro dp un gd fr s g Q E X T hg hz hb hpre hdp hun ret; refine wpAny_call ?_; k_dflt (refine' enterG (g := g) (news := ?nw) ?k1 ?k2 ?g1 ?g2 ?g3 ?k6 ?k7 ?k8 ?k9 ?kB ?_ ?c2 ?c3 ?c4 ?c5; (case k1 => assumption); (case k2 => assumption); (case g1 => assumption); (case g2 => assumption); (case g3 => exact one_news hb); (case k6 => k_is); (case k7 => k_is); (case k8 => ktr_room); (case k9 => exact BindsTo.of_eq rfl); (case c5 => decide); (case kB => exact locs rfl); (case c2 => exact rfl); (case c3 => exact rfl); (case c4 => exact rfl); k_whole; intro L' h' F' N' l1; (k_lt l1); (try dsimp only); (try k_fold))
  k_with_none
  k_with "own ne" => (refine neN ?_; (try dsimp only); first | assumption | exact Ne.symm (by assumption) | exact Nat.ne_of_gt (by assumption) | exact Nat.ne_of_lt (by assumption) | fail "none")
  k_with "own room" => first | exact room1 hdp rfl | fail "none"
  k_with "own units" => first | exact units1 hun rfl | fail "none"
  k_with "eval Call Name" => refine Call_ ?_
  k_with "pyIter ref" => k_extra "my loop"
  k_with "exec While" => k_extra "my while"
  k_with "call builtin:len" => (k_here; (with_reducible show wpAny _ _ (call (Value.builtin "len") [Value.ref _]) _ _ _); k_dflt (refine' call_len_list (News.isList ?k1 ?k2) ?k3 ?_; (case k1 => k_asm); (case k2 => k_mem); (case k3 => (simp only [List.push_toArray, List.size_toArray, Array.size_push, List.length_append, List.length_cons, List.length_nil]; omega))))
  k_with "CompEnd" => k_extra "my end"
  k_with "CompSrcT" => k_extra "my comp"
  k_with "CompSrc" => k_extra "my comp"
  k_with "eval ListComp" => (k_here; k_dflt (first | ((with_reducible show wpAny _ _ (eval (Expr.ListComp _ [⟨Expr.Name _ _, _, [_], _⟩] _ _) _) _ _ _); refine LCt.ListComp_T (F₀ := by k_asm) (by with_unfolding_all rfl) (by decide) (by rfl) (by decide) (by rfl) ?_) | (refine LCg.ListComp_U (F₀ := by k_asm) (by with_unfolding_all rfl) (by decide) (by rfl) (by decide) (by rfl) ?_)))
  k_with "exec Assign cons ListComp" => (k_here; k_dflt (first | ((with_reducible show wpAny _ _ (exec (Stmt.Assign _ (Expr.ListComp _ [⟨Expr.Name _ _, _, [_], _⟩] _ _) _) _) _ _ _); refine LCt.Assign_ListComp_T (F₀ := by k_asm) (by rfl) (by with_unfolding_all rfl) (by with_unfolding_all rfl) (by decide) (by rfl) (by decide) (by rfl) (by rfl) (by rfl) ?_) | (refine LCg.Assign_ListComp_U (F₀ := by k_asm) (by rfl) (by with_unfolding_all rfl) (by with_unfolding_all rfl) (by decide) (by rfl) (by decide) (by rfl) (by rfl) (by rfl) ?_)))
  k_with "own all" => exact OwnOff.ne (by assumption) (by k_mem)
  k_with "call ref" => (k_here; (with_reducible show wpAny _ _ (call (Value.ref 140) _) _ _ _); k_dflt (refine' BoxC.useU (w_draw _ _ _ _ _ _ _ _ _ _) ?k1 ?k2 ?kU ?k3 ?k4 ?k5 ?k6 ?k7 ?k8 ?_; (case k1 => k_asm); (case k2 => k_asm); (case kU => k_updF); (case k3 => k_asm); (case k4 => k_asm); (case k5 => rfl); (case k6 => (intro gP upP keP; (repeat' apply And.intro) <;> (first | with_reducible assumption | ((with_reducible show Heap.IsList _ _ _); first | exact Heap.IsList.at (by assumption) (keP _) | exact isList_up upP (by k_ne) (News.isList (by assumption) (by k_mem))) | decide | k_extra "my pre" | (first | assumption | exact Nat.le_trans (by assumption) (Nat.le_of_ble_eq_true rfl) | exact Nat.lt_of_le_of_lt (by assumption) (Nat.le_of_ble_eq_true rfl) | exact Int.natCast_nonneg _ | exact Int.le_trans (by assumption) (by decide) | exact Int.lt_of_le_of_lt (by assumption) (by decide) | exact Int.lt_of_lt_of_le (by assumption) (by decide) | ((repeat (rename (@LT.lt Nat _ _ _) ∧ _ => hxx; clear hxx)); (repeat (rename (@Ne Nat _ _) ∧ _ => hxx; clear hxx)); (repeat (rename (@Ne Nat _ _ ∧ _) ∧ _ => hxx; clear hxx)); omega)) | trivial | (dsimp only; omega) | assumption))); (case k7 => ktr_room); (case k8 => ktr_units)); intro g' r' h' tk' ob' F' N' hr'; obtain ⟨v', tv', er', hv0', hv1', hb'⟩ := hr'; subst er')
  k_with "call ref" => (k_here; (with_reducible show wpAny _ _ (call (Value.ref 133) _) _ _ _); k_dflt (refine' Pure1.use (w_textfrom _ _ _ _ _ _ _) ?k1 ?k2 ?k3 ?k4 ?k5 ?k6 ?k7 ?k8 ?_; (case k1 => k_asm); (case k2 => k_asm); (case k3 => k_asm); (case k4 => k_asm); (case k5 => rfl); (case k6 => ((repeat' apply And.intro) <;> (first | with_reducible assumption | ((with_reducible show Heap.IsList _ _ _); first | exact Heap.IsList.at (by assumption) (Fr.keep (by assumption) _) | exact News.isList (by assumption) (by k_mem) | k_extra "my pre") | exact IntsAre.nil | exact (fun _ hc => absurd hc List.not_mem_nil) | k_extra "my pre" | (first | assumption | exact Nat.le_trans (by assumption) (Nat.le_of_ble_eq_true rfl) | exact Nat.lt_of_le_of_lt (by assumption) (Nat.le_of_ble_eq_true rfl) | exact Int.natCast_nonneg _ | exact Int.le_trans (by assumption) (by decide) | exact Int.lt_of_le_of_lt (by assumption) (by decide) | exact Int.lt_of_lt_of_le (by assumption) (by decide) | ((repeat (rename (@LT.lt Nat _ _ _) ∧ _ => hxx; clear hxx)); (repeat (rename (@Ne Nat _ _) ∧ _ => hxx; clear hxx)); (repeat (rename (@Ne Nat _ _ ∧ _) ∧ _ => hxx; clear hxx)); omega)) | trivial | (dsimp only; omega) | assumption))); (case k7 => ktr_room); (case k8 => ktr_units)); intro r' h' tk' F' N' hr'; (try k_sweep); obtain ⟨tr', er'⟩ := hr'; subst er')
  k_with "call ref" => (k_here; (with_reducible show wpAny _ _ (call (Value.ref 121) _) _ _ _); k_dflt (refine' Pure1.use (w_putin _ _ _ _ _ _ _ _ _ _ _ _) ?k1 ?k2 ?k3 ?k4 ?k5 ?k6 ?k7 ?k8 ?_; (case k1 => k_asm); (case k2 => k_asm); (case k3 => k_asm); (case k4 => k_asm); (case k5 => rfl); (case k6 => ((repeat' apply And.intro) <;> (first | with_reducible assumption | ((with_reducible show Heap.IsList _ _ _); first | exact Heap.IsList.at (by assumption) (Fr.keep (by assumption) _) | exact News.isList (by assumption) (by k_mem) | k_extra "my pre") | exact IntsAre.nil | exact (fun _ hc => absurd hc List.not_mem_nil) | k_extra "my pre" | (first | assumption | exact Nat.le_trans (by assumption) (Nat.le_of_ble_eq_true rfl) | exact Nat.lt_of_le_of_lt (by assumption) (Nat.le_of_ble_eq_true rfl) | exact Int.natCast_nonneg _ | exact Int.le_trans (by assumption) (by decide) | exact Int.lt_of_le_of_lt (by assumption) (by decide) | exact Int.lt_of_lt_of_le (by assumption) (by decide) | ((repeat (rename (@LT.lt Nat _ _ _) ∧ _ => hxx; clear hxx)); (repeat (rename (@Ne Nat _ _) ∧ _ => hxx; clear hxx)); (repeat (rename (@Ne Nat _ _ ∧ _) ∧ _ => hxx; clear hxx)); omega)) | trivial | (dsimp only; omega) | assumption))); (case k7 => ktr_room); (case k8 => ktr_units)); intro r' h' tk' F' N' hr'; (try k_sweep); obtain ⟨tr', er'⟩ := hr'; subst er')
  k_with "call ref" => (k_here; (with_reducible show wpAny _ _ (call (Value.ref 114) _) _ _ _); k_dflt (refine' Pure1.use (w_fill _ _ _ _ _ _ _ _ _ _ _ _) ?k1 ?k2 ?k3 ?k4 ?k5 ?k6 ?k7 ?k8 ?_; (case k1 => k_asm); (case k2 => k_asm); (case k3 => k_asm); (case k4 => k_asm); (case k5 => rfl); (case k6 => ((repeat' apply And.intro) <;> (first | with_reducible assumption | ((with_reducible show Heap.IsList _ _ _); first | exact Heap.IsList.at (by assumption) (Fr.keep (by assumption) _) | exact News.isList (by assumption) (by k_mem) | k_extra "my pre") | exact IntsAre.nil | exact (fun _ hc => absurd hc List.not_mem_nil) | k_extra "my pre" | (first | assumption | exact Nat.le_trans (by assumption) (Nat.le_of_ble_eq_true rfl) | exact Nat.lt_of_le_of_lt (by assumption) (Nat.le_of_ble_eq_true rfl) | exact Int.natCast_nonneg _ | exact Int.le_trans (by assumption) (by decide) | exact Int.lt_of_le_of_lt (by assumption) (by decide) | exact Int.lt_of_lt_of_le (by assumption) (by decide) | ((repeat (rename (@LT.lt Nat _ _ _) ∧ _ => hxx; clear hxx)); (repeat (rename (@Ne Nat _ _) ∧ _ => hxx; clear hxx)); (repeat (rename (@Ne Nat _ _ ∧ _) ∧ _ => hxx; clear hxx)); omega)) | trivial | (dsimp only; omega) | assumption))); (case k7 => ktr_room); (case k8 => ktr_units)); intro r' h' tk' F' N' hr'; (try k_sweep); obtain ⟨tr', er'⟩ := hr'; subst er')
  k_with "call ref" => (k_here; (with_reducible show wpAny _ _ (call (Value.ref 114) _) _ _ _); k_dflt (refine' Pure1.use (w_fillD _ _ _ _ _ _ _ _ _ _ _ _) ?k1 ?k2 ?k3 ?k4 ?k5 ?k6 ?k7 ?k8 ?_; (case k1 => k_asm); (case k2 => k_asm); (case k3 => k_asm); (case k4 => k_asm); (case k5 => rfl); (case k6 => ((repeat' apply And.intro) <;> (first | with_reducible assumption | ((with_reducible show Heap.IsList _ _ _); first | exact Heap.IsList.at (by assumption) (Fr.keep (by assumption) _) | exact News.isList (by assumption) (by k_mem) | k_extra "my pre") | exact IntsAre.nil | exact (fun _ hc => absurd hc List.not_mem_nil) | k_extra "my pre" | (first | assumption | exact Nat.le_trans (by assumption) (Nat.le_of_ble_eq_true rfl) | exact Nat.lt_of_le_of_lt (by assumption) (Nat.le_of_ble_eq_true rfl) | exact Int.natCast_nonneg _ | exact Int.le_trans (by assumption) (by decide) | exact Int.lt_of_le_of_lt (by assumption) (by decide) | exact Int.lt_of_lt_of_le (by assumption) (by decide) | ((repeat (rename (@LT.lt Nat _ _ _) ∧ _ => hxx; clear hxx)); (repeat (rename (@Ne Nat _ _) ∧ _ => hxx; clear hxx)); (repeat (rename (@Ne Nat _ _ ∧ _) ∧ _ => hxx; clear hxx)); omega)) | trivial | (dsimp only; omega) | assumption))); (case k7 => ktr_room); (case k8 => ktr_units)); intro r' h' tk' F' N' hr'; (try k_sweep); obtain ⟨tr', er'⟩ := hr'; subst er')
  k_with "binaryOp Add str str" => k_extra "my add"
  k_with "subscriptTail" => k_extra "my item"
  k_with "subscriptTail Name Slice ref ref" => k_extra "my slice"
  obtain ⟨hbo, hl, hsc, hl2, hi2, ho, hcz, h5, h6, h7, h8⟩ := hpre
  have hln2 := hi2.length
  have htl := tx_len cs
  have c1 := lit_len lit_dd
  have c2 := lit_len lit_da
  have c3 := lit_len lit_db
  have c4 := lit_len lit_dq
  have c5 := lit_len lit_x
  have c6 := lit_len lit_d1
  have c7 := lit_len lit_a
  have c8 := lit_len lit_d
  simp only [List.length_cons, List.length_nil] at c1 c2 c3 c4 c5 c6 c7 c8
  have e1 := tx_seg (a := cs) h5 (show 0 ≤ at' + many by omega)
  have e2 := tx_slice_to (cs := cs) h5
  have e3 := tx_slice_from (cs := cs) (show 0 ≤ at' + many by omega)
  have s1 : (Txt.slice (tx cs) (some at') (some (at' + many))).length ≤ 20 := by rw [e1, tx_len]; simp [seg]; omega
  have s2 : (Txt.slice (tx cs) none (some at')).length ≤ 20 := by rw [e2, tx_len]; simp; omega
  have s3 : (Txt.slice (tx cs) (some (at' + many)) none).length ≤ 20 := by rw [e3, tx_len]; simp; omega
  k_with "my add" => (k_here; k_dflt (refine' add_str ?_ ?z; (case z => (rw [PySem.sizeLine_eq]; (try simp only [tx_app, tx_len, List.length_append, List.length_take, List.length_drop]); omega))); intro t' k')
  k_with "my pre" => first | exact ho.take _ | exact ho.drop _ | exact ((ho.drop _).take _) | ((try simp only [List.length_take, List.length_drop]); omega) | exact Oks.app (by assumption) (one_ok (by decide) (by decide)) | ((try simp only [List.length_append, List.length_cons, List.length_nil]); omega)
  k_with "my loop" => ((k_here; k_dflt ((rename Fr _ _ _ _ => lF'); (rename News _ _ _ _ => lN'); (rename IsRange _ _ _ _ _ _ _ _ => rgX); (with_unfolding_all refine' rng_st (σ := FlS) ([Str.ofString "form"]) (fun z => [(b, z.ob)]) (fun z => [(Str.ofString "template", Value.str z.tm z.t1), (Str.ofString "due", Value.str z.dl z.t2)]) (fun j z => BoxOk c z.ob ∧ (z.tm.length : Int) ≤ 20 * j ∧ (z.dl.length : Int) ≤ 20 * j ∧ FilP (pc cs at' many) z.tm z.dl) (⟨_, _, _, _, _⟩) (by rfl) rgX ?b1 ?b2 ?b3 ?b4 lF' lN' ?n1 ?n2 ?n3 ?n4 ?_ ?_); (case b1 => (first | assumption | exact Nat.le_trans (by assumption) (Nat.le_of_ble_eq_true rfl) | exact Nat.lt_of_le_of_lt (by assumption) (Nat.le_of_ble_eq_true rfl) | exact Int.natCast_nonneg _ | exact Int.le_trans (by assumption) (by decide) | exact Int.lt_of_le_of_lt (by assumption) (by decide) | exact Int.lt_of_lt_of_le (by assumption) (by decide) | ((repeat (rename (@LT.lt Nat _ _ _) ∧ _ => hxx; clear hxx)); (repeat (rename (@Ne Nat _ _) ∧ _ => hxx; clear hxx)); (repeat (rename (@Ne Nat _ _ ∧ _) ∧ _ => hxx; clear hxx)); omega))); (case b2 => (first | assumption | exact Nat.le_trans (by assumption) (Nat.le_of_ble_eq_true rfl) | exact Nat.lt_of_le_of_lt (by assumption) (Nat.le_of_ble_eq_true rfl) | exact Int.natCast_nonneg _ | exact Int.le_trans (by assumption) (by decide) | exact Int.lt_of_le_of_lt (by assumption) (by decide) | exact Int.lt_of_lt_of_le (by assumption) (by decide) | ((repeat (rename (@LT.lt Nat _ _ _) ∧ _ => hxx; clear hxx)); (repeat (rename (@Ne Nat _ _) ∧ _ => hxx; clear hxx)); (repeat (rename (@Ne Nat _ _ ∧ _) ∧ _ => hxx; clear hxx)); omega))); (case b3 => (first | assumption | exact Nat.le_trans (by assumption) (Nat.le_of_ble_eq_true rfl) | exact Nat.lt_of_le_of_lt (by assumption) (Nat.le_of_ble_eq_true rfl) | exact Int.natCast_nonneg _ | exact Int.le_trans (by assumption) (by decide) | exact Int.lt_of_le_of_lt (by assumption) (by decide) | exact Int.lt_of_lt_of_le (by assumption) (by decide) | ((repeat (rename (@LT.lt Nat _ _ _) ∧ _ => hxx; clear hxx)); (repeat (rename (@Ne Nat _ _) ∧ _ => hxx; clear hxx)); (repeat (rename (@Ne Nat _ _ ∧ _) ∧ _ => hxx; clear hxx)); omega))); (case b4 => (first | assumption | exact Nat.le_trans (by assumption) (Nat.le_of_ble_eq_true rfl) | exact Nat.lt_of_le_of_lt (by assumption) (Nat.le_of_ble_eq_true rfl) | exact Int.natCast_nonneg _ | exact Int.le_trans (by assumption) (by decide) | exact Int.lt_of_le_of_lt (by assumption) (by decide) | exact Int.lt_of_lt_of_le (by assumption) (by decide) | ((repeat (rename (@LT.lt Nat _ _ _) ∧ _ => hxx; clear hxx)); (repeat (rename (@Ne Nat _ _) ∧ _ => hxx; clear hxx)); (repeat (rename (@Ne Nat _ _ ∧ _) ∧ _ => hxx; clear hxx)); omega))); (case n1 => (repeat' (first | exact True.intro | (refine And.intro ?_ ?_) | k_mem))); (case n2 => (repeat' (first | exact True.intro | (refine And.intro ?_ ?_) | exact rfl))); (case n3 => (dsimp only; exact ⟨by assumption, len_nil 20, len_nil 20, fil_nil _⟩)); (case n4 => (intro _ _; rfl)); (all_goals clear lF' lN' rgX); rotate_left; (intro z uL' h' tk' hz F' N'); rotate_left; (intro iT z uL' t' h' tk' own' hiT hOff hz F' N'); (all_goals (dsimp only [kstB, forgB, envOf] at F' N' hz)); (all_goals (try simp only [List.nil_append, List.cons_append] at N')); (all_goals (try k_fold)))); rotate_left; (obtain ⟨zob, ztm, zdl, zt1, zt2⟩ := z); (k_dflt (obtain ⟨hz1, hz5, hz6, aT, dT, eT, eD, oT, oD, hz7⟩ := hz)); (dsimp only at *); (subst eT eD); (simp only [tx_len] at hz5 hz6); rotate_left; (have hzb := hz.1))
  k_with "my slice" => (k_here; (with_reducible show wpAny _ _ (subscriptTail _ (PySem.Expr.Slice (some _) none none _) (Value.ref _) (Value.ref _)) _ _ _); k_dflt (refine' kmk_slice_ints ?slF ?slN ?slL ?slP ?slQ hi2 (kmk_from hi2 ?slM) rfl ?_ ?slS ?slT ?slZ; (case slF => k_asm); (case slN => k_asm); (case slL => exact Heap.IsList.at (by assumption) (Fr.keep (by assumption) _)); (case slP => kmk_part); (case slQ => kmk_part); (case slM => (first | assumption | exact Nat.le_trans (by assumption) (Nat.le_of_ble_eq_true rfl) | exact Nat.lt_of_le_of_lt (by assumption) (Nat.le_of_ble_eq_true rfl) | exact Int.natCast_nonneg _ | exact Int.le_trans (by assumption) (by decide) | exact Int.lt_of_le_of_lt (by assumption) (by decide) | exact Int.lt_of_lt_of_le (by assumption) (by decide) | ((repeat (rename (@LT.lt Nat _ _ _) ∧ _ => hxx; clear hxx)); (repeat (rename (@Ne Nat _ _) ∧ _ => hxx; clear hxx)); (repeat (rename (@Ne Nat _ _ ∧ _) ∧ _ => hxx; clear hxx)); omega))); (case slS => with_unfolding_all rfl); (case slT => kmk_pure); (case slZ => (rw [sizeLine_eq, List.size_toArray]; (first | assumption | exact Nat.le_trans (by assumption) (Nat.le_of_ble_eq_true rfl) | exact Nat.lt_of_le_of_lt (by assumption) (Nat.le_of_ble_eq_true rfl) | exact Int.natCast_nonneg _ | exact Int.le_trans (by assumption) (by decide) | exact Int.lt_of_le_of_lt (by assumption) (by decide) | exact Int.lt_of_lt_of_le (by assumption) (by decide) | ((repeat (rename (@LT.lt Nat _ _ _) ∧ _ => hxx; clear hxx)); (repeat (rename (@Ne Nat _ _) ∧ _ => hxx; clear hxx)); (repeat (rename (@Ne Nat _ _ ∧ _) ∧ _ => hxx; clear hxx)); omega))))); intro D' ws' h' F' N' l1 hI' hC' hL'; (try k_lt l1); (try k_sweep))
  k_with "my item" => (k_here; (with_reducible show wpAny _ _ (subscriptTail (Expr.Name _ _) _ _ _) _ _ _); k_dflt (refine' item_strS (ss := [_, _, _, _, _, _, _]) (News.isList (by assumption) ?m1) ?mi ?m0 ?m2 ?m3 ?_; (case m1 => k_mem); (case mi => (repeat' (first | exact StrsAre.nil | refine StrsAre.cons _ _ ?_))); (case m0 => assumption); (case m2 => (show _ < (7 : Int); assumption)); (case m3 => (show (7 : Nat) < 2 ^ 62; decide))); intro zI tI hzI; (k_dflt (change zI = seven _ _ _ _ _ _ _ _ at hzI)); (have hzl : zI.length ≤ 20 := (by rw [hzI]; exact seven_all (P := fun x => x.length ≤ 20) (by assumption) (by assumption) (by omega) (by omega) (by omega) (by omega) (by omega) (by omega) (by omega))))
  (repeat' (first | (k_unfold; (try dsimp only)) | (refine id ?_; k_unfold; (try dsimp only)) | (walk1; (all_goals (try (first | ((with_reducible show wpAny _ _ (exec _ _) _ _ _); k_fold) | ((with_reducible show wpAny _ _ (call _ _) _ _ _); k_fold))))) | (dsimp only; first | (walk1; (all_goals (try (first | ((with_reducible show wpAny _ _ (exec _ _) _ _ _); k_fold) | ((with_reducible show wpAny _ _ (call _ _) _ _ _); k_fold))))) | skip) | fail "no step"))
  · (refine' InvEndN.intro (by assumption) (by assumption) ⟨⟨_, _, _, _, _⟩, rfl, ?e2, ?e3, ?e4⟩ ?e6 ?e1 ?e5; (case e2 => (repeat' (first | exact True.intro | (refine And.intro ?_ ?_) | exact rfl))); (case e1 => kcf_all); (case e6 => rfl); (case e5 => (intro p hp; (repeat (first | exact hp | refine List.Mem.tail _ ?_)))); (case e3 => (intro z; dsimp only [OffB, OffN]; intro z1 z2 z3 z4; first | rfl | (simp only [z1, z2, z3, z4, if_false]; done))); (case e4 => (obtain ⟨y1, y5, y6, y7⟩ := hz; dsimp only; exact ⟨by assumption, by (simp only [str_len_app]; (first | assumption | exact Nat.le_trans (by assumption) (Nat.le_of_ble_eq_true rfl) | exact Nat.lt_of_le_of_lt (by assumption) (Nat.le_of_ble_eq_true rfl) | exact Int.natCast_nonneg _ | exact Int.le_trans (by assumption) (by decide) | exact Int.lt_of_le_of_lt (by assumption) (by decide) | exact Int.lt_of_lt_of_le (by assumption) (by decide) | ((repeat (rename (@LT.lt Nat _ _ _) ∧ _ => hxx; clear hxx)); (repeat (rename (@Ne Nat _ _) ∧ _ => hxx; clear hxx)); (repeat (rename (@Ne Nat _ _ ∧ _) ∧ _ => hxx; clear hxx)); omega))), by (simp only [str_len_app]; (first | assumption | exact Nat.le_trans (by assumption) (Nat.le_of_ble_eq_true rfl) | exact Nat.lt_of_le_of_lt (by assumption) (Nat.le_of_ble_eq_true rfl) | exact Int.natCast_nonneg _ | exact Int.le_trans (by assumption) (by decide) | exact Int.lt_of_le_of_lt (by assumption) (by decide) | exact Int.lt_of_lt_of_le (by assumption) (by decide) | ((repeat (rename (@LT.lt Nat _ _ _) ∧ _ => hxx; clear hxx)); (repeat (rename (@Ne Nat _ _) ∧ _ => hxx; clear hxx)); (repeat (rename (@Ne Nat _ _ ∧ _) ∧ _ => hxx; clear hxx)); omega))), fil_sevenE (by assumption) (by assumption) ho (by assumption) (by assumption) h5 h7 y7⟩)))
  · exfalso
    have q := ‹(tx (fillL (pc cs at' many) aT) != tx dT) = true›
    rw [fil_all hz7] at q; simp at q
  · exfalso
    have q := ‹(tx (fillL (pc cs at' many) (aT ++ [36])) != tx dT ++ Str.ofString "$") = true›
    rw [fil_dol hz7, lit_d, tx_app] at q; simp at q
  · rename News _ _ _ _ => nN
    refine ret _ _ _ _ (Fr.keep (by assumption)) (News.get nN (by k_mem)) ⟨?_, by assumption⟩
    refine congrArg Value.bool ?_
    rw [beq_iff_eq, tx_app, tx_app]
end Mine
end
-- part E1
section
set_option maxRecDepth 100000
open PySem PySem.W PySem.Calls PyProof.Rows
set_option Elab.async false
namespace Mine
/-- rows of ints, each a list of its own -/
inductive RowsP : List (Addr × Obj) → List (List Int) → Prop
  | nil : RowsP [] []
  | cons {a : Addr} {vs : List Value} {n : Nat} {p : List Int} {r : List (Addr × Obj)} {L : List (List Int)} : IntsAre vs p → RowsP r L → RowsP ((a, listOf vs.toArray n) :: r) (p :: L)
noncomputable def refs (r : List (Addr × Obj)) : List Value := r.map fun p => Value.ref p.1
theorem RowsP.snoc {a : Addr} {vs : List Value} {n : Nat} {p : List Int} (hi : IntsAre vs p) : ∀ {r : List (Addr × Obj)} {L : List (List Int)}, RowsP r L → RowsP (r ++ [(a, listOf vs.toArray n)]) (L ++ [p])
  | _, _, .nil => .cons hi .nil
  | _, _, .cons h r => .cons h (r.snoc hi)
theorem RowsP.length : ∀ {r : List (Addr × Obj)} {L : List (List Int)}, RowsP r L → r.length = L.length
  | _, _, .nil => rfl
  | _, _, .cons _ r => congrArg (· + 1) r.length
theorem RowsP.at : ∀ {r : List (Addr × Obj)} {L : List (List Int)}, RowsP r L → ∀ {i : Nat} {v : Value}, (refs r)[i]? = some v → ∃ a vs n p, v = .ref a ∧ (a, listOf vs.toArray n) ∈ r ∧ L[i]? = some p ∧ IntsAre vs p
  | _, _, .nil, i, v, h => by simp [refs] at h
  | _, _, .cons (a := a) (vs := vs) (n := n) (p := p) h r, i, v, e => by
    cases i with
    | zero =>
      simp only [refs, List.map_cons, List.getElem?_cons_zero, Option.some.injEq] at e
      exact ⟨a, vs, n, p, e.symm, .head _, rfl, h⟩
    | succ i =>
      simp only [refs, List.map_cons, List.getElem?_cons_succ] at e
      obtain ⟨a', vs', n', p', h1, h2, h3, h4⟩ := r.at (i := i) (v := v) e
      exact ⟨a', vs', n', p', h1, .tail _ h2, h3, h4⟩
theorem refs_snoc (r : List (Addr × Obj)) (a : Addr) (o : Obj) : refs (r ++ [(a, o)]) = refs r ++ [.ref a] := by simp [refs]

/-- a call that hands back a new list of new lists of ints -/
noncomputable def PureR (w : World) (mean : ExcName → Option Value) (mg mb : Str → Option Value) (f : Addr) (dd uu : Nat) (pre : Heap → Prop) (vs : List Value) (parts : List (List Int)) : Prop :=
  ∀ (dp un : Nat) (gd : Option (List Code)) (fr : Option (List Env)) (s : Shared) (Q E : Value → Shared → Prop),
    (KK w.params).In s.heap → Top qq (looseW qq lo) mean mg mb s.heap → pre s.heap → dp + dd < recursionLimit → un + uu < cLine →
    (∀ D rows n h' tk', (∀ b o, s.heap.get? b = some o → h'.get? b = some o) → s.heap.get? D = none → h'.get? D = some (listOf (refs rows).toArray n) → (∀ p ∈ rows, h'.get? p.1 = some p.2 ∧ s.heap.get? p.1 = none) → RowsP rows parts → Q (.ref D) { s with heap := h', toks := tk' }) →
    wpAny (model Challenge.rw_nt0344_01.row.prog w) (ar dp un gd fr) (call (.ref f) vs) Q E s
theorem PureR.use {w : World} {mean : ExcName → Option Value} {mg mb : Str → Option Value} {f : Addr} {dd uu : Nat} {pre : Heap → Prop} {vs : List Value} {parts : List (List Int)}
    (C : PureR w mean mg mb f dd uu pre vs parts) {A : Around} {s : Shared} {Q E : Value → Shared → Prop} {base : Heap} {L : Addr} {m : Str → Option Value} {news : List (Addr × Obj)}
    (F : Fr base L s.heap m) (N : News base L s.heap news) (X : (KK w.params).In base) (T : Top qq (looseW qq lo) mean mg mb base) (hh : A.handled = none) (hp : pre s.heap) (hd : A.depth + dd < recursionLimit) (hu : A.units + uu < cLine)
    (ret : ∀ D rows n h' tk', Fr base L h' m → News base L h' ((D, listOf (refs rows).toArray n) :: (news ++ rows)) → RowsP rows parts → Q (.ref D) { s with heap := h', toks := tk' }) :
    wpAny (model Challenge.rw_nt0344_01.row.prog w) A (call (.ref f) vs) Q E s := by
  obtain ⟨ha, dp, fr, gd, un⟩ := A
  cases hh
  refine C dp un gd fr s Q E (X.keeps F.keep) (T.keeps F.keep) hp hd hu fun D rows n h' tk' st hD hD' hrows hr => ret D rows n h' tk' ?_ ?_ hr
  · obtain ⟨oL, es, ep, hL, r⟩ := F.ns
    exact ⟨⟨oL, es, ep, st _ _ hL, r⟩, fun b o e => st b o (F.keep b o e), F.above⟩
  · have fresh : ∀ x, s.heap.get? x = none → x ≠ L ∧ base.get? x = none := by
      intro x hx
      constructor
      · intro e
        obtain ⟨oL, es, ep, hL, r⟩ := F.ns
        rw [← e, hx] at hL; cases hL
      · cases q : base.get? x with
        | none => rfl
        | some o => have := F.keep _ _ q; rw [hx] at this; cases this
    intro p hp
    rcases List.mem_cons.mp hp with rfl | hp
    · exact ⟨hD', fresh _ hD⟩
    · rcases List.mem_append.mp hp with hp | hp
      · exact ⟨st _ _ (N p hp).1, (N p hp).2⟩
      · exact ⟨(hrows p hp).1, fresh _ (hrows p hp).2⟩
section
variable {prog : Program} {w : World} {A : Around} {E : Value → Shared → Prop} {s : Shared}
theorem item_lastV {value slice : Expr} {l : Addr} {ys : List Value} {v : Value} {u : Tok} {Q : Value → Shared → Prop} (hl : s.heap.IsList l (ys ++ [v]).toArray) (hsz : ys.length < 2 ^ 60) (h : Q v s)
    (hs : subscripted slice false (.ref l) (.int (-1) u) = operate [.ref l, .int (-1) u] (getItem (.ref l) (.int (-1) u)) := by with_unfolding_all rfl) (hg : ∀ r, letTemporaryGo value (.ref l) r = pure () := by intro _; with_unfolding_all rfl) :
    wpAny (model prog w) A (subscriptTail value slice (.ref l) (.int (-1) u)) Q E s := by
  refine subscriptTail_builtin hl.typeIs slot_list_getitem.lookup (wpAny_getItem_list_neg hl (x := v) (by decide) (by simp; omega) (by decide) ?_ h) hs hg
  have e : ((-1 : Int) + ((ys ++ [v]).toArray.size : Int)).toNat = ys.length := by simp; omega
  rw [e]; simp
end
theorem allIn_of {news : List (Addr × Obj)} : ∀ {l : List (Addr × Obj)}, (∀ p ∈ l, p ∈ news) → AllIn news l
  | [], _ => trivial
  | p :: _, h => ⟨h p (.head _), allIn_of fun q hq => h q (.tail _ hq)⟩
theorem allLt_ne {d : Addr} : ∀ {l : List (Addr × Obj)}, AllLt d l → ∀ p ∈ l, p.1 ≠ d
  | [], _, _, hp => nomatch hp
  | _ :: _, ⟨h, r⟩, p, hp => by
    rcases List.mem_cons.mp hp with rfl | hp
    · exact Nat.ne_of_lt h
    · exact allLt_ne r p hp
theorem cut_step {ws cur cll : List Int} (hw : 0 < ws.length) (hc : 0 < cll.length) (h : cll.take ws.length = ws) : partsF ws cur cll = cur :: partsF ws [] (cll.drop ws.length) := by
  cases cll with
  | nil => simp at hc
  | cons x r =>
    rw [partsF, if_pos ⟨h, .inl (List.length_pos_iff.mp hw)⟩]
theorem skip_step {ws cur cll : List Int} {z : Int} (hc : 0 < cll.length) (hz : z = sg cll 0) (h : ¬ cll.take ws.length = ws) : partsF ws cur cll = partsF ws (cur ++ [z]) (cll.drop 1) := by
  cases cll with
  | nil => simp at hc
  | cons x r =>
    subst hz
    rw [partsF, if_neg (fun q => h q.1)]
    rfl
set_option linter.unusedVariables false
theorem parts_last {ws cur cll : List Int} (h : cll = []) : partsF ws cur cll = [cur] := by subst h; rw [partsF]
theorem cut_len {ws cll : List Int} (h : cll.take ws.length = ws) : ws.length ≤ cll.length := by
  have := congrArg List.length h
  rw [List.length_take] at this; omega
theorem news_rows {base h : Heap} {L : Addr} {all rows : List (Addr × Obj)} (N : News base L h all) (hs : ∀ p ∈ rows, p ∈ all) : ∀ p ∈ rows, h.get? p.1 = some p.2 ∧ base.get? p.1 = none := fun p hp => ⟨(N p (hs p hp)).1, (N p (hs p hp)).2.2⟩
structure PaS where
  D : Addr
  A : Addr
  n : Nat
  an : Nat
  ys : List Value
  avs : List Value
  cur : List Int
  older : List (Addr × Obj)
  L : List (List Int)
  lf : Addr
  lfe : List (Addr × Obj)
  lvs : List Value
  ll : List Int
variable (w : World) (mean : ExcName → Option Value) (mg mb : Str → Option Value)
section
variable {prog : Program} {w : World} {A : Around} {h₀ : Heap} {L : Addr} {m : Str → Option Value} {env : Env} {ct elt : Expr} {x : Str} {scope : Scope} {cl : List (Str × Addr)} {s : Shared} {S : List (Addr × Obj) → Prop} {P : Nat → Value → Prop} {Fin : List Value → List (Addr × Obj) → Prop}
theorem cs_rows {n : Nat} {p1 : Addr × Obj} (J : Nat → List Value → List (Addr × Obj) → Prop) (hj : J 0 [] [])
    (turn : ∀ i v I oI C oC D m₂ ys c h tk (E' : Value → Shared → Prop), i < n → P i v → J i ys c → LCg.NsObj oC m₂ → m₂ x = some v → Fr h₀ L h m → News h₀ L h ((I, oI) :: (C, oC) :: (D, LCg.lst ys) :: p1 :: c) → LCg.Off3 I C D (p1 :: c) → ((@Ne Nat I C) ∧ (@Ne Nat I D) ∧ (@Ne Nat C D)) →
      wpAny (model prog w) A (eval elt (compEnvC scope cl C env)) (LCg.CompEnd h₀ L m { s with heap := h, toks := tk } I oI C oC D (LCg.lst ys) S (fun y news' => ∃ c', news' = p1 :: c' ∧ J (i + 1) (ys ++ [y]) c')) E' { s with heap := h, toks := tk })
    (fin : ∀ ys c, J n ys c → Fin ys (p1 :: c)) : LCg.CompRest prog w A h₀ L m env elt x scope cl s S P Fin n 0 [] [p1] :=
  cs_rest (fun c => p1 :: c) J [] hj turn fin
theorem off3_snoc {I C D a : Addr} {o : Obj} (h1 : @Ne Nat a I) (h2 : @Ne Nat a C) (h3 : @Ne Nat a D) : ∀ {l : List (Addr × Obj)}, LCg.Off3 I C D l → LCg.Off3 I C D (l ++ [(a, o)])
  | [], _ => ⟨⟨h1, h2, h3⟩, trivial⟩
  | _ :: _, ⟨h, r⟩ => ⟨h, off3_snoc h1 h2 h3 r⟩
end
theorem rows_step {vs : List Value} {cs : List Int} (hi : IntsAre vs cs) {i : Nat} {ys : List Value} {c : List (Addr × Obj)} {k : Int} {t : Tok} {a : Addr} {n : Nat} (hk : cs[i]? = some k) (h : ys = refs c ∧ RowsP c ((cs.take i).map fun k => [k])) :
    ys ++ [.ref a] = refs (c ++ [(a, listOf #[.int k t] n)]) ∧ RowsP (c ++ [(a, listOf #[.int k t] n)]) ((cs.take (i + 1)).map fun k => [k]) := by
  obtain ⟨rfl, h⟩ := h
  refine ⟨(refs_snoc _ _ _).symm, ?_⟩
  have hs : cs.take (i + 1) = cs.take i ++ [k] := by simp [List.take_add_one, hk]
  rw [hs, List.map_append]
  exact RowsP.snoc (vs := [.int k t]) (.cons k t .nil) h
set_option maxHeartbeats 40000000
theorem w_parts (l l2 : Addr) (vs vs2 : List Value) (cs ws : List Int) : PureR w mean mg mb 172 30 300 (fun h => h.IsList l vs.toArray ∧ IntsAre vs cs ∧ h.IsList l2 vs2.toArray ∧ IntsAre vs2 ws ∧ cs.length ≤ 20 ∧ ws.length ≤ 20) [.ref l, .ref l2] (partsA ws cs) := by
  unfold PureR; k_fill; intro dp un gd fr s Q E X T hpre hdp hun ret; refine wpAny_call ?_; k_dflt (refine' enterP ?k1 ?k2 ?k6 ?k7 ?k8 ?k9 ?kB ?_ ?c2 ?c3 ?c4 ?c5; (case k1 => assumption); (case k2 => assumption); (case k6 => k_is); (case k7 => k_is); (case k8 => ktr_room); (case k9 => exact BindsTo.of_eq rfl); (case c5 => decide); (case kB => exact locs rfl); (case c2 => exact rfl); (case c3 => exact rfl); (case c4 => exact rfl); k_whole; intro L' h' F' N'; (try dsimp only); (try k_fold))
  k_with_none
  k_with "own ne" => (refine neN ?_; (try dsimp only); first | assumption | exact Ne.symm (by assumption) | exact Nat.ne_of_gt (by assumption) | exact Nat.ne_of_lt (by assumption) | fail "none")
  k_with "own room" => first | exact room1 hdp rfl | fail "none"
  k_with "own units" => first | exact units1 hun rfl | fail "none"
  k_with "eval Call Name" => refine Call_ ?_
  k_with "pyIter ref" => k_extra "my loop"
  k_with "exec While" => k_extra "my while"
  k_with "call builtin:len" => (k_here; (with_reducible show wpAny _ _ (call (Value.builtin "len") [Value.ref _]) _ _ _); k_dflt (refine' call_len_list (News.isList ?k1 ?k2) ?k3 ?_; (case k1 => k_asm); (case k2 => k_mem); (case k3 => (simp only [List.push_toArray, List.size_toArray, Array.size_push, List.length_append, List.length_cons, List.length_nil]; omega))))
  k_with "CompEnd" => k_extra "my end"
  k_with "CompSrcT" => k_extra "my comp"
  k_with "CompSrc" => k_extra "my comp"
  k_with "eval ListComp" => (k_here; k_dflt (first | ((with_reducible show wpAny _ _ (eval (Expr.ListComp _ [⟨Expr.Name _ _, _, [_], _⟩] _ _) _) _ _ _); refine LCt.ListComp_T (F₀ := by k_asm) (by with_unfolding_all rfl) (by decide) (by rfl) (by decide) (by rfl) ?_) | (refine LCg.ListComp_U (F₀ := by k_asm) (by with_unfolding_all rfl) (by decide) (by rfl) (by decide) (by rfl) ?_)))
  k_with "exec Assign cons ListComp" => (k_here; k_dflt (first | ((with_reducible show wpAny _ _ (exec (Stmt.Assign _ (Expr.ListComp _ [⟨Expr.Name _ _, _, [_], _⟩] _ _) _) _) _ _ _); refine LCt.Assign_ListComp_T (F₀ := by k_asm) (by rfl) (by with_unfolding_all rfl) (by with_unfolding_all rfl) (by decide) (by rfl) (by decide) (by rfl) (by rfl) (by rfl) ?_) | (refine LCg.Assign_ListComp_U (F₀ := by k_asm) (by rfl) (by with_unfolding_all rfl) (by with_unfolding_all rfl) (by decide) (by rfl) (by decide) (by rfl) (by rfl) (by rfl) ?_)))
  k_with "subscriptTail Name UnaryOp ref int" => k_extra "my item"
  k_with "subscriptTail Name Constant ref int" => k_extra "my item"
  k_with "own all" => assumption
  k_with "subscriptTail Name Slice ref ref" => k_extra "my slice"
  k_with "call builtin:list.append" => (k_here; (with_reducible show wpAny _ _ (call (Value.builtin _) [Value.ref _, _]) _ _ _); k_dflt (refine' append_K ?k1 ?k2 ?k3 ?_ ?z; (case k1 => k_asm); (case k2 => k_asm); (case k3 => k_upd); (case z => (rw [PySem.sizeLine_eq]; (simp only [refs, List.size_toArray, List.length_append, List.length_map, List.length_cons, List.length_nil]); omega)); k_whole); intro h' F' N'; (try k_sweep))
  obtain ⟨hl, hi, hl2, hi2, hcz, hwz⟩ := hpre
  have hln := hi.length
  have hln2 := hi2.length
  k_with "my while" => ((k_here; k_dflt ((rename Fr _ _ _ _ => lF'); (rename News _ _ _ _ => lN'); (with_unfolding_all refine' while_st (σ := PaS) ([]) (fun c => (c.D, listOf c.ys.toArray c.n) :: (c.A, listOf c.avs.toArray c.an) :: (c.lfe ++ c.older)) (fun c => [(Str.ofString "found", Value.ref c.D), (Str.ofString "left", Value.ref c.lf)]) (fun c => c.ys = refs c.older ++ [.ref c.A] ∧ RowsP c.older c.L ∧ IntsAre c.avs c.cur ∧ IntsAre c.lvs c.ll ∧ @Ne Nat c.D c.A ∧ (∀ p ∈ c.older, p.1 ≠ c.D) ∧ (∀ p ∈ c.older, p.1 ≠ c.A) ∧ ((c.lfe = [] ∧ c.lf = l ∧ c.lvs = vs ∧ c.ll = cs) ∨ (∃ k, c.lfe = [(c.lf, listOf c.lvs.toArray k)] ∧ @Ne Nat c.lf c.D ∧ @Ne Nat c.lf c.A)) ∧ c.L.length + c.ll.length ≤ cs.length ∧ c.cur.length + c.ll.length ≤ cs.length ∧ c.L ++ partsF ws c.cur c.ll = partsF ws [] cs) (fun c => c.ll.length) (⟨_, _, _, _, [.ref _], [], [], [], [], l, [], vs, cs⟩) lF' lN' ?n1 ?n2 ?n3 ?_); (case n1 => (repeat' (first | exact True.intro | (refine And.intro ?_ ?_) | k_mem))); (case n2 => (repeat' (first | exact True.intro | (refine And.intro ?_ ?_) | exact rfl))); (case n3 => (dsimp only; exact ⟨rfl, .nil, .nil, hi, neN (by omega), (fun _ hc => absurd hc List.not_mem_nil), (fun _ hc => absurd hc List.not_mem_nil), .inl ⟨rfl, rfl, rfl, rfl⟩, (by simp), (by simp), rfl⟩)); (clear lF' lN'); (intro c u' h' tk' hc F' N'); (dsimp only [kstB, forgB, envOf] at F' N' hc); (try simp only [List.nil_append, List.cons_append] at N'); (try k_fold))); (k_dflt (obtain ⟨cD, cA, cn, can, cys, cavs, ccur, colder, cL, clf, clfe, clvs, cll⟩ := c)); (dsimp only at *); (k_dflt (obtain ⟨hys, hR, hcA, hcl, hDA, hoD, hoA, hlf, hs1, hs2, hpf⟩ := hc)); (subst hys); (have hRl := hR.length); (have hcAl := hcA.length); (have hcll := hcl.length); (k_dflt (rcases hlf with ⟨e1, e2, e3, e4⟩ | ⟨k1, e1, hn1, hn2⟩)); (all_goals first | (subst e1 e2 e3 e4) | (subst e1)); (all_goals (try simp only [List.nil_append, List.cons_append] at N')))
  k_with "my item" => (k_here; (with_reducible show wpAny _ _ (subscriptTail _ (Expr.UnaryOp _ _ _) _ _) _ _ _); k_dflt (refine' item_lastV (News.isList (by assumption) ?m1) ?m3 ?_; (case m1 => k_mem); (case m3 => (have hRl := hR.length; simp only [refs, List.length_map]; omega))))
  k_with "my item" => (k_here; (with_reducible show wpAny _ _ (subscriptTail _ (Expr.Constant _ _ _) _ _) _ _ _); k_dflt (refine' item_at0 ?m1 hcl (by decide) ?m2 ?m3 ?_; (case m1 => (first | exact News.isList (by assumption) (by k_mem) | exact Heap.IsList.at (by assumption) (Fr.keep (by assumption) _))); (case m2 => exact Int.natCast_pos.mpr (len_pos (by assumption))); (case m3 => omega)); intro zJ tJ hzJ)
  k_with "my slice" => (k_here; (with_reducible show wpAny _ _ (subscriptTail _ (PySem.Expr.Slice (some _) none none _) (Value.ref _) (Value.ref _)) _ _ _); k_dflt (refine' kmk_slice_ints ?slF ?slN ?slL ?slP ?slQ hcl (kmk_from hcl ?slM) rfl ?_ ?slS ?slT ?slZ; (case slF => k_asm); (case slN => k_asm); (case slL => first | exact News.isList (by k_asm) (by k_mem) | exact Heap.IsList.at (by assumption) (Fr.keep (by assumption) _)); (case slP => kmk_part); (case slQ => kmk_part); (case slM => first | decide | exact Int.natCast_nonneg _); (case slS => with_unfolding_all rfl); (case slT => kmk_pure); (case slZ => (rw [sizeLine_eq, List.size_toArray]; (first | assumption | exact Nat.le_trans (by assumption) (Nat.le_of_ble_eq_true rfl) | exact Nat.lt_of_le_of_lt (by assumption) (Nat.le_of_ble_eq_true rfl) | exact Int.natCast_nonneg _ | exact Int.le_trans (by assumption) (by decide) | exact Int.lt_of_le_of_lt (by assumption) (by decide) | exact Int.lt_of_lt_of_le (by assumption) (by decide) | ((repeat (rename (@LT.lt Nat _ _ _) ∧ _ => hxx; clear hxx)); (repeat (rename (@Ne Nat _ _) ∧ _ => hxx; clear hxx)); (repeat (rename (@Ne Nat _ _ ∧ _) ∧ _ => hxx; clear hxx)); omega))))); intro D' ws' h' F' N' l1 hI' hC' hL'; (try k_lt l1); (try k_sweep))
  k_with "my comp" => (k_here; k_dflt (refine LCg.CompSrc.base (by rfl) (by k_asm) (by k_asm) (by assumption) (by (rw [PySem.sizeLine_eq]; (try simp only [List.size_toArray]); omega)) ?_; intro gS; refine' cs_rows (fun j ys z => ys = refs z ∧ RowsP z ((cs.take j).map fun k => [k])) ?hj (fun iC vC IC oIC CC oCC DC mC ysC z h' tk' EC hlt hP hJ hC' hx' F' N' off' ne' => ?_) (fun ysC z hYs => ?_); (case hj => exact ⟨rfl, by simp; exact .nil⟩)); rotate_left; (k_dflt (obtain ⟨eY, hYs⟩ := hYs)); (subst eY); rotate_left; (k_dflt (obtain ⟨kC, tC, eC, hkC⟩ := IntsAre.at hi iC vC (by simpa using hP))); (subst eC); (all_goals (try k_fold)))
  k_with "my end" => (k_here; k_dflt (refine' LCg.CompEnd.intro (by assumption) (by assumption) _ ?sub ?off ?S ⟨z ++ [(_, _)], rfl, ?J⟩; (case sub => kcf_all); (case off => exact off3_snoc (neN (by omega)) (neN (by omega)) (neN (by omega)) off'); (case S => first | lcg_src | assumption | trivial); (case J => exact rows_step hi hkC hJ)))
  (repeat' (first | (k_unfold; (try dsimp only)) | (refine id ?_; k_unfold; (try dsimp only)) | (walk1; (all_goals (try (first | ((with_reducible show wpAny _ _ (exec _ _) _ _ _); k_fold) | ((with_reducible show wpAny _ _ (call _ _) _ _ _); k_fold))))) | (dsimp only; first | (walk1; (all_goals (try (first | ((with_reducible show wpAny _ _ (exec _ _) _ _ _); k_fold) | ((with_reducible show wpAny _ _ (call _ _) _ _ _); k_fold))))) | skip) | fail "no step"))
  · rename News _ _ _ _ => nN
    refine ret _ z _ _ _ (Fr.keep (by assumption)) (News.fresh nN (.head _)) (News.get nN (.head _)) (news_rows nN (by kcf_all)) ?_
    have hw : ws = [] := of_decide_eq_true ‹decide (ws = []) = true›
    subst hw
    rw [partsA_nil]
    rw [List.size_toArray, hln, List.take_length] at hYs
    exact hYs
  · rename News _ _ _ _ => nN
    have e0 : cll = [] := of_decide_eq_true (by assumption)
    refine ret cD (colder ++ [(cA, listOf cavs.toArray can)]) _ _ _ (Fr.keep (by assumption)) (News.fresh nN (by k_mem)) (by rw [refs_snoc]; exact News.get nN (by k_mem)) (news_rows nN (by kcf_all)) ?_
    have hw : ws ≠ [] := of_decide_eq_false ‹decide (ws = []) = false›
    rw [partsA_ne hw, ← hpf, parts_last e0]
    exact hR.snoc hcA
  · (try simp only [List.push_toArray] at *)
    (rename News _ _ _ _ => nN)
    have hw : 0 < ws.length := len_pos ‹decide (ws = []) = false›
    have hp : 0 < cll.length := len_pos ‹decide (cll = []) = false›
    have ht : cll.take ws.length = ws := ‹List.take (ws.length : Int).toNat cll = ws›
    have hwl := cut_len ht
    (repeat (rename _ ∧ _ => hcj; obtain ⟨_, _⟩ := hcj))
    (try dsimp only [WPost])
    refine' WEnd.intro (⟨cD, _, _, _, _, [], [], colder ++ [(cA, listOf cavs.toArray can)], cL ++ [ccur], _, [(_, listOf _ _)], _, _⟩ : PaS) (by assumption) nN ?e1 ?e2 ?e3 ?e4 ?e5
    case e2 => (repeat' (first | exact True.intro | (refine And.intro ?_ ?_) | exact rfl))
    case e1 => (dsimp only [AllIn, List.cons_append, List.nil_append]; refine ⟨?_, ?_, ?_, allIn_of ?_⟩; (focus k_mem); (focus k_mem); (focus k_mem); kcf_all)
    case e3 => (intro z; dsimp only [OffB, OffN]; intro z1 z2; first | rfl | (simp only [z1, z2, if_false]; done))
    case e4 => (dsimp only; refine ⟨by rw [refs_snoc], hR.snoc hcA, .nil, by assumption, neN (by omega), List.forall_mem_append.mpr ⟨hoD, by k_all⟩, List.forall_mem_append.mpr ⟨allLt_ne (by assumption), by k_all⟩, .inr ⟨_, rfl, neN (by omega), neN (by omega)⟩, ?_, ?_, ?_⟩; (simp only [List.length_append, List.length_cons, List.length_nil, List.length_drop]; omega); (simp only [List.length_nil, List.length_drop]; omega); (rw [List.append_assoc]; exact (congrArg (cL ++ ·) (cut_step hw hp ht).symm).trans hpf))
    case e5 => (dsimp only; simp only [List.length_drop]; omega)
  · (try simp only [List.push_toArray] at *)
    (rename News _ _ _ _ => nN)
    have hp : 0 < cll.length := len_pos ‹decide (cll = []) = false›
    have ht : ¬ cll.take ws.length = ws := ‹¬ List.take (ws.length : Int).toNat cll = ws›
    (repeat (rename _ ∧ _ => hcj; obtain ⟨_, _⟩ := hcj))
    (try dsimp only [WPost])
    refine' WEnd.intro (⟨cD, cA, _, _, _, cavs ++ [.int zJ tJ], ccur ++ [zJ], colder, cL, _, [(_, listOf _ _)], _, _⟩ : PaS) (by assumption) nN ?e1 ?e2 ?e3 ?e4 ?e5
    case e2 => (repeat' (first | exact True.intro | (refine And.intro ?_ ?_) | exact rfl))
    case e1 => (dsimp only [AllIn, List.cons_append, List.nil_append]; refine ⟨?_, ?_, ?_, allIn_of ?_⟩; (focus k_mem); (focus k_mem); (focus k_mem); kcf_all)
    case e3 => (intro z; dsimp only [OffB, OffN]; intro z1 z2; first | rfl | (simp only [z1, z2, if_false]; done))
    case e4 => (dsimp only; refine ⟨rfl, hR, ints_snoc hcA, by assumption, hDA, hoD, hoA, .inr ⟨_, rfl, neN (by omega), neN (by omega)⟩, ?_, ?_, ?_⟩; (simp only [List.length_drop]; omega); (simp only [List.length_append, List.length_cons, List.length_nil, List.length_drop]; omega); (exact (congrArg (cL ++ ·) (skip_step hp hzJ ht).symm).trans hpf))
    case e5 => (dsimp only; simp only [List.length_drop]; omega)
  · rename News _ _ _ _ => nN
    have e0 : cll = [] := of_decide_eq_true (by assumption)
    refine ret cD (colder ++ [(cA, listOf cavs.toArray can)]) _ _ _ (Fr.keep (by assumption)) (News.fresh nN (by k_mem)) (by rw [refs_snoc]; exact News.get nN (by k_mem)) (news_rows nN (by kcf_all)) ?_
    have hw : ws ≠ [] := of_decide_eq_false ‹decide (ws = []) = false›
    rw [partsA_ne hw, ← hpf, parts_last e0]
    exact hR.snoc hcA
  · (try simp only [List.push_toArray] at *)
    (rename News _ _ _ _ => nN)
    have hw : 0 < ws.length := len_pos ‹decide (ws = []) = false›
    have hp : 0 < cll.length := len_pos ‹decide (cll = []) = false›
    have ht : cll.take ws.length = ws := ‹List.take (ws.length : Int).toNat cll = ws›
    have hwl := cut_len ht
    (repeat (rename _ ∧ _ => hcj; obtain ⟨_, _⟩ := hcj))
    (try dsimp only [WPost])
    refine' WEnd.intro (⟨cD, _, _, _, _, [], [], colder ++ [(cA, listOf cavs.toArray can)], cL ++ [ccur], _, [(_, listOf _ _)], _, _⟩ : PaS) (by assumption) nN ?e1 ?e2 ?e3 ?e4 ?e5
    case e2 => (repeat' (first | exact True.intro | (refine And.intro ?_ ?_) | exact rfl))
    case e1 => (dsimp only [AllIn, List.cons_append, List.nil_append]; refine ⟨?_, ?_, ?_, allIn_of ?_⟩; (focus k_mem); (focus k_mem); (focus k_mem); kcf_all)
    case e3 => (intro z; dsimp only [OffB, OffN]; intro z1 z2; first | rfl | (simp only [z1, z2, if_false]; done))
    case e4 => (dsimp only; refine ⟨by rw [refs_snoc], hR.snoc hcA, .nil, by assumption, neN (by omega), List.forall_mem_append.mpr ⟨hoD, by k_all⟩, List.forall_mem_append.mpr ⟨allLt_ne (by assumption), by k_all⟩, .inr ⟨_, rfl, neN (by omega), neN (by omega)⟩, ?_, ?_, ?_⟩; (simp only [List.length_append, List.length_cons, List.length_nil, List.length_drop]; omega); (simp only [List.length_nil, List.length_drop]; omega); (rw [List.append_assoc]; exact (congrArg (cL ++ ·) (cut_step hw hp ht).symm).trans hpf))
    case e5 => (dsimp only; simp only [List.length_drop]; omega)
  · (try simp only [List.push_toArray] at *)
    (rename News _ _ _ _ => nN)
    have hp : 0 < cll.length := len_pos ‹decide (cll = []) = false›
    have ht : ¬ cll.take ws.length = ws := ‹¬ List.take (ws.length : Int).toNat cll = ws›
    (repeat (rename _ ∧ _ => hcj; obtain ⟨_, _⟩ := hcj))
    (try dsimp only [WPost])
    refine' WEnd.intro (⟨cD, cA, _, _, _, cavs ++ [.int zJ tJ], ccur ++ [zJ], colder, cL, _, [(_, listOf _ _)], _, _⟩ : PaS) (by assumption) nN ?e1 ?e2 ?e3 ?e4 ?e5
    case e2 => (repeat' (first | exact True.intro | (refine And.intro ?_ ?_) | exact rfl))
    case e1 => (dsimp only [AllIn, List.cons_append, List.nil_append]; refine ⟨?_, ?_, ?_, allIn_of ?_⟩; (focus k_mem); (focus k_mem); (focus k_mem); kcf_all)
    case e3 => (intro z; dsimp only [OffB, OffN]; intro z1 z2; first | rfl | (simp only [z1, z2, if_false]; done))
    case e4 => (dsimp only; refine ⟨rfl, hR, ints_snoc hcA, by assumption, hDA, hoD, hoA, .inr ⟨_, rfl, neN (by omega), neN (by omega)⟩, ?_, ?_, ?_⟩; (simp only [List.length_drop]; omega); (simp only [List.length_append, List.length_cons, List.length_nil, List.length_drop]; omega); (exact (congrArg (cL ++ ·) (skip_step hp hzJ ht).symm).trans hpf))
    case e5 => (dsimp only; simp only [List.length_drop]; omega)
end Mine
end
-- part E2
section
set_option maxRecDepth 100000
open PySem PySem.W PySem.Calls PyProof.Rows PyProof.V PySem.Spec
set_option Elab.async false
namespace Mine
theorem strOk_tx {p : List Int} (h : Oks p) : PyData.strOk (tx p) = true := by
  unfold PyData.strOk
  rw [← Array.all_toList, tx_list, List.all_eq_true]
  intro c hc
  obtain ⟨k, hk, rfl⟩ := List.mem_map.mp hc
  have := h k hk
  rw [decide_eq_true_eq]; omega
theorem strs_lay : ∀ ns : List Str, (∀ x ∈ ns, PyData.strOk x = true) → PyData.canLayAll0 (ns.map PyData.str) = true
  | [], _ => rfl
  | x :: r, h => by
    simp only [List.map_cons, PyData.canLayAll0, PyData.canLay0, Bool.and_eq_true]
    exact ⟨h x (.head _), strs_lay r fun y hy => h y (.tail _ hy)⟩
theorem strs_depth : ∀ ns : List Str, PyData.depthAll (ns.map PyData.str) = 0
  | [] => rfl
  | _ :: r => by simp [PyData.depthAll, PyData.depth, strs_depth r]
theorem strs_shaped (ns : List Str) (h : ∀ x ∈ ns, PyData.strOk x = true) : SeqAt.shaped (.list (ns.map PyData.str)) = true := by
  simp [SeqAt.shaped, PyData.canLay0, PyData.depth, strs_lay ns h, strs_depth]
theorem strs_sameAll : ∀ ns ms : List Str, PySem.Spec.sameAll (ns.map PyData.str) (ms.map PyData.str) = decide (ns = ms)
  | [], [] => by simp [PySem.Spec.sameAll]
  | [], _ :: _ => by simp [PySem.Spec.sameAll]
  | _ :: _, [] => by simp [PySem.Spec.sameAll]
  | a :: r, b :: t => by
    simp only [List.map_cons, PySem.Spec.sameAll, PySem.Spec.same, strs_sameAll r t]
    by_cases h : a = b <;> by_cases h' : r = t <;> simp [h, h']
theorem strs_same (ns ms : List Str) : PySem.Spec.same (.list (ns.map PyData.str)) (.list (ms.map PyData.str)) = decide (ns = ms) := by
  simp only [PySem.Spec.same]; exact strs_sameAll ns ms
theorem strs_carried : ∀ {vs : List Value} {ns : List Str}, StrsAre vs ns → CarriedAll vs (ns.map PyData.str)
  | _, _, .nil => .nil
  | _, _, .cons _ t r => .cons (.str _ t) (strs_carried r)
section
variable {prog : Program} {w : World} {A : Around} {E : Value → Shared → Prop} {s : Shared}
theorem ne_strs {a b : Addr} {xs ys : List Value} {ns ms : List Str} {Q : Value → Shared → Prop} (ha : s.heap.IsList a xs.toArray) (hb : s.heap.IsList b ys.toArray) (hi : StrsAre xs ns) (hj : StrsAre ys ms) (on : ∀ x ∈ ns, PyData.strOk x = true) (om : ∀ x ∈ ms, PyData.strOk x = true) (hu : A.units + 64 < cLine) (h : Q (.bool (!decide (ns = ms))) s) :
    wpAny (model prog w) A (compareOp .NotEq (.ref a) (.ref b)) Q E s :=
  ne_dataH_same (reads_newData ha (strs_carried hi)) (reads_newData hb (strs_carried hj)) (strs_shaped _ on) (strs_shaped _ om) hu (SeqAt.noMix_of_shape (.list .str) rfl _ _ (list_map_has fun _ => rfl) (list_map_has fun _ => rfl)) (by rw [strs_same]; exact h)
theorem upto_strs {vs : List Value} {ns : List Str} (hi : StrsAre vs ns) {y : Int} (h0 : 0 ≤ y) : StrsAre (slicePick vs.toArray none (some y) none).toList (ns.take y.toNat) := by
  have ey : y = (y.toNat : Int) := by omega
  rw [ey, slicePick_upto' vs.toArray y.toNat]
  simpa [← ey] using hi.take' y.toNat
theorem slice_upto {h₀ : Heap} {L : Addr} {m : Str → Option Value} {news : List (Addr × Obj)} {value slice : Expr} {l : Addr} {vs : List Value} {ns : List Str} {k : Int} {u : Tok} {Q : Value → Shared → Prop} (F : Fr h₀ L s.heap m) (N : News h₀ L s.heap news) (hl : s.heap.IsList l vs.toArray) (hi : StrsAre vs ns) (h0 : 0 ≤ k)
    (h : ∀ D ws h', Fr h₀ L h' m → News h₀ L h' ((D, listOf (List.toArray ws) 0) :: news) → (∀ p ∈ news, p.1 < D) → StrsAre ws (ns.take k.toNat) → Q (.ref D) { s with heap := h' })
    (hz : vs.toArray.size ≤ sizeLine)
    (hs : subscripted slice false (.ref l) (.ref s.heap.objs.size) = operate [.ref s.heap.objs.size, .ref l] (getItem (.ref l) (.ref s.heap.objs.size)) := by with_unfolding_all rfl) (ht : ∀ r, letTemporaryGo value (.ref l) r = pure () := by intro _; with_unfolding_all rfl) :
    wpAny (model prog w) A (subscriptTail value slice (.ref l) (.ref s.heap.objs.size)) Q E { s with heap := s.heap.push { cls := .type "slice", data := .fields #[.none, .int k u, .none] } } :=
  kmk_slice F N hl .none (.int k u) (fun D h' F' N' l1 => h D (slicePick vs.toArray none (some k) none).toList h' F' N' l1 (upto_strs hi h0)) hs ht hz
end
section
variable {prog : Program} {w : World} {A : Around} {h₀ : Heap} {L : Addr} {m : Str → Option Value} {env : Env} {ct elt : Expr} {x : Str} {scope : Scope} {cl : List (Str × Addr)} {s : Shared} {S : List (Addr × Obj) → Prop} {P : Nat → Value → Prop} {Fin : List Value → List (Addr × Obj) → Prop}
/-- the ledger stands while the items are made -/
theorem cs_const {n : Nat} {news : List (Addr × Obj)} (J : Nat → List Value → Prop) (hj : J 0 [])
    (turn : ∀ i v I oI C oC D m₂ ys h tk (E' : Value → Shared → Prop), i < n → P i v → J i ys → LCg.NsObj oC m₂ → m₂ x = some v → Fr h₀ L h m → News h₀ L h ((I, oI) :: (C, oC) :: (D, LCg.lst ys) :: news) → LCg.Off3 I C D news → ((@Ne Nat I C) ∧ (@Ne Nat I D) ∧ (@Ne Nat C D)) →
      wpAny (model prog w) A (eval elt (compEnvC scope cl C env)) (LCg.CompEnd h₀ L m { s with heap := h, toks := tk } I oI C oC D (LCg.lst ys) S (fun y news' => news' = news ∧ J (i + 1) (ys ++ [y]))) E' { s with heap := h, toks := tk })
    (fin : ∀ ys, J n ys → Fin ys news) : LCg.CompRest prog w A h₀ L m env elt x scope cl s S P Fin n 0 [] news :=
  cs_rest (σ := Unit) (fun _ => news) (fun i ys _ => J i ys) () hj (fun i v I oI C oC D m₂ ys c h tk E' hi hP hJ hC hx F N off ne => wpAny_mono (turn i v I oI C oC D m₂ ys h tk E' hi hP hJ hC hx F N off ne) (fun y s₂ hq => by
    obtain ⟨h', tk', nw, e, F', N', off', hS, e2, hJ'⟩ := hq
    exact ⟨h', tk', nw, e, F', N', off', hS, (), e2, hJ'⟩) fun _ _ e => e) (fun ys _ => fin ys)
end
theorem partsF_sub (sp : List Int) : ∀ (n : Nat) (cur left : List Int), 2 * left.length + (if cur = [] then 0 else 1) ≤ n → ∀ p ∈ partsF sp cur left, (∀ c ∈ p, c ∈ cur ∨ c ∈ left) ∧ p.length ≤ cur.length + left.length := by
  intro n
  induction n with
  | zero =>
    intro cur left h p hp
    cases left with
    | nil => rw [partsF, List.mem_singleton] at hp; subst hp; exact ⟨fun c hc => .inl hc, by simp⟩
    | cons x r => simp at h
  | succ n ih =>
    intro cur left h p hp
    cases left with
    | nil => rw [partsF, List.mem_singleton] at hp; subst hp; exact ⟨fun c hc => .inl hc, by simp⟩
    | cons x r =>
      rw [partsF] at hp
      split at hp
      · rename_i hc
        have hm : 2 * ((x :: r).drop sp.length).length + (if ([] : List Int) = [] then 0 else 1) ≤ n := by
          simp only [List.length_drop, List.length_cons, if_true] at h ⊢
          rcases hc.2 with h2 | h2
          · have : 0 < sp.length := List.length_pos_iff.mpr h2
            split at h <;> omega
          · rw [if_neg h2] at h; omega
        rcases List.mem_cons.mp hp with rfl | hp
        · exact ⟨fun c hc => .inl hc, by omega⟩
        · obtain ⟨i1, i2⟩ := ih [] _ hm p hp
          refine ⟨fun c hc => .inr ?_, ?_⟩
          · rcases i1 c hc with q | q
            · cases q
            · exact List.mem_of_mem_drop q
          · simp only [List.length_drop, List.length_nil, List.length_cons] at i2 ⊢; omega
      · have hm : 2 * r.length + (if cur ++ [x] = [] then 0 else 1) ≤ n := by
          simp at h ⊢
          split at h <;> omega
        obtain ⟨i1, i2⟩ := ih (cur ++ [x]) r hm p hp
        refine ⟨fun c hc => ?_, ?_⟩
        · rcases i1 c hc with q | q
          · rcases List.mem_append.mp q with q | q
            · exact .inl q
            · rw [List.mem_singleton.mp q]; exact .inr (.head _)
          · exact .inr (.tail _ q)
        · simp only [List.length_append, List.length_cons, List.length_nil] at i2 ⊢; omega
theorem partsA_ok {sp a : List Int} (h : Oks a) {p : List Int} (hp : p ∈ partsA sp a) : Oks p ∧ p.length ≤ a.length := by
  unfold partsA at hp
  split at hp
  · cases hp
  · obtain ⟨i1, i2⟩ := partsF_sub sp _ [] a (Nat.le_refl _) p hp
    refine ⟨fun c hc => ?_, by simpa using i2⟩
    rcases i1 c hc with q | q
    · cases q
    · exact h c q
theorem strs_step {vs : List Value} {L : List (List Int)} {i : Nat} {p : List Int} {t : Tok} (hp : L[i]? = some p) (h : StrsAre vs ((L.take i).map tx)) : StrsAre (vs ++ [.str (tx p) t]) ((L.take (i + 1)).map tx) := by
  have hs : L.take (i + 1) = L.take i ++ [p] := by simp [List.take_add_one, hp]
  rw [hs, List.map_append]
  exact h.append' (.cons _ _ .nil)
theorem flat_len {L : List (List Int)} {n : Nat} (h : ∀ p ∈ L, p.length ≤ n) : L.flatten.length ≤ n * L.length := by
  induction L with
  | nil => simp
  | cons x r ih =>
    have h1 := h x (.head _)
    have h2 := ih fun p hp => h p (.tail _ hp)
    simp only [List.flatten_cons, List.length_append, List.length_cons, Nat.mul_succ]
    omega
theorem tx_sum : ∀ L : List (List Int), ((L.map tx).map (·.length)).sum = L.flatten.length
  | [] => rfl
  | x :: r => by
    have ih := tx_sum r
    simp only [List.map_cons, List.sum_cons, List.flatten_cons, List.length_append, tx_len] at ih ⊢
    rw [ih]
theorem parts_strOk {sp a : List Int} (h : Oks a) {L : List (List Int)} (hs : ∀ p ∈ L, p ∈ partsA sp a) : ∀ x ∈ L.map tx, PyData.strOk x = true := by
  intro x hx
  obtain ⟨p, hp, rfl⟩ := List.mem_map.mp hx
  exact strOk_tx (partsA_ok h (hs p hp)).1
theorem parts_strOk2 {sp a : List Int} (h : Oks a) {L : List (List Int)} {k : Nat} (hs : ∀ p ∈ L, p ∈ partsA sp a) : ∀ x ∈ List.take k (L.map tx), PyData.strOk x = true := fun x hx => parts_strOk h hs x (List.mem_of_mem_take hx)
theorem parts_sum {sp a : List Int} (h : Oks a) (hz : a.length ≤ 20) {k : Nat} : ((((partsA sp a).take k).map tx).map (·.length)).sum + (((partsA sp a).take k).map tx).length * 64 ≤ 16777216 := by
  have h1 := partsA_len sp a
  have h2 := flat_len (L := (partsA sp a).take k) (n := 20) fun p hp => Nat.le_trans (partsA_ok h (List.mem_of_mem_take hp)).2 hz
  rw [tx_sum, List.length_map]
  have h3 : ((partsA sp a).take k).length ≤ 21 := by rw [List.length_take]; omega
  omega
theorem rows_all {rows : List (Addr × Obj)} {P : List (List Int)} (h : RowsP rows P) : P.take (refs rows).toArray.size = P := List.take_of_length_le (by simp [refs, h.length])
theorem take_all {α : Type} {L : List α} {k : Int} (h : (L.length : Int) ≤ k) : L.take k.toNat = L := List.take_of_length_le (by omega)
variable (w : World) (mean : ExcName → Option Value) (mg mb : Str → Option Value)
set_option maxHeartbeats 4000000
theorem w_splitR (l l2 : Addr) (vs vs2 : List Value) (cs ws : List Int) (lim : Int) (t1) : Pure1 w mean mg mb 177 60 600 (fun h => h.IsList l vs.toArray ∧ IntsAre vs cs ∧ h.IsList l2 vs2.toArray ∧ IntsAre vs2 ws ∧ Oks cs ∧ Oks ws ∧ cs.length ≤ 20 ∧ ws.length ≤ 20 ∧ 0 ≤ lim ∧ lim ≤ 100) [.ref l, .ref l2, .int lim t1] (fun _ r => r = .bool true) := by
  unfold Pure1; k_fill; intro dp un gd fr s Q E X T hpre hdp hun ret; refine wpAny_call ?_; k_dflt (refine' enterP ?k1 ?k2 ?k6 ?k7 ?k8 ?k9 ?kB ?_ ?c2 ?c3 ?c4 ?c5; (case k1 => assumption); (case k2 => assumption); (case k6 => k_is); (case k7 => k_is); (case k8 => ktr_room); (case k9 => exact BindsTo.of_eq rfl); (case c5 => decide); (case kB => exact locs rfl); (case c2 => exact rfl); (case c3 => exact rfl); (case c4 => exact rfl); k_whole; intro L' h' F' N'; (try dsimp only); (try k_fold))
  k_with_none
  k_with "own ne" => (refine neN ?_; (try dsimp only); first | assumption | exact Ne.symm (by assumption) | exact Nat.ne_of_gt (by assumption) | exact Nat.ne_of_lt (by assumption) | fail "none")
  k_with "own room" => first | exact room1 hdp rfl | fail "none"
  k_with "own units" => first | exact units1 hun rfl | fail "none"
  k_with "eval Call Name" => refine Call_ ?_
  k_with "pyIter ref" => k_extra "my loop"
  k_with "exec While" => k_extra "my while"
  k_with "call builtin:len" => (k_here; (with_reducible show wpAny _ _ (call (Value.builtin "len") [Value.ref _]) _ _ _); k_dflt (refine' call_len_list (News.isList ?k1 ?k2) ?k3 ?_; (case k1 => k_asm); (case k2 => k_mem); (case k3 => (simp only [List.push_toArray, List.size_toArray, Array.size_push, List.length_append, List.length_cons, List.length_nil]; omega))))
  k_with "CompEnd" => k_extra "my end"
  k_with "CompSrcT" => k_extra "my comp"
  k_with "CompSrc" => k_extra "my comp"
  k_with "eval ListComp" => (k_here; k_dflt (first | ((with_reducible show wpAny _ _ (eval (Expr.ListComp _ [⟨Expr.Name _ _, _, [_], _⟩] _ _) _) _ _ _); refine LCt.ListComp_T (F₀ := by k_asm) (by with_unfolding_all rfl) (by decide) (by rfl) (by decide) (by rfl) ?_) | (refine LCg.ListComp_U (F₀ := by k_asm) (by with_unfolding_all rfl) (by decide) (by rfl) (by decide) (by rfl) ?_)))
  k_with "exec Assign cons ListComp" => (k_here; k_dflt (first | ((with_reducible show wpAny _ _ (exec (Stmt.Assign _ (Expr.ListComp _ [⟨Expr.Name _ _, _, [_], _⟩] _ _) _) _) _ _ _); refine LCt.Assign_ListComp_T (F₀ := by k_asm) (by rfl) (by with_unfolding_all rfl) (by with_unfolding_all rfl) (by decide) (by rfl) (by decide) (by rfl) (by rfl) (by rfl) ?_) | (refine LCg.Assign_ListComp_U (F₀ := by k_asm) (by rfl) (by with_unfolding_all rfl) (by with_unfolding_all rfl) (by decide) (by rfl) (by decide) (by rfl) (by rfl) (by rfl) ?_)))
  k_with "call ref" => (k_here; (with_reducible show wpAny _ _ (call (Value.ref 133) _) _ _ _); k_dflt (refine' Pure1.use (w_textfrom _ _ _ _ _ _ _) ?k1 ?k2 ?k3 ?k4 ?k5 ?k6 ?k7 ?k8 ?_; (case k1 => k_asm); (case k2 => k_asm); (case k3 => k_asm); (case k4 => k_asm); (case k5 => rfl); (case k6 => ((repeat' apply And.intro) <;> (first | with_reducible assumption | ((with_reducible show Heap.IsList _ _ _); first | exact Heap.IsList.at (by assumption) (Fr.keep (by assumption) _) | exact News.isList (by assumption) (by k_mem) | k_extra "my pre") | exact IntsAre.nil | exact (fun _ hc => absurd hc List.not_mem_nil) | k_extra "my pre" | (first | assumption | exact Nat.le_trans (by assumption) (Nat.le_of_ble_eq_true rfl) | exact Nat.lt_of_le_of_lt (by assumption) (Nat.le_of_ble_eq_true rfl) | exact Int.natCast_nonneg _ | exact Int.le_trans (by assumption) (by decide) | exact Int.lt_of_le_of_lt (by assumption) (by decide) | exact Int.lt_of_lt_of_le (by assumption) (by decide) | ((repeat (rename (@LT.lt Nat _ _ _) ∧ _ => hxx; clear hxx)); (repeat (rename (@Ne Nat _ _) ∧ _ => hxx; clear hxx)); (repeat (rename (@Ne Nat _ _ ∧ _) ∧ _ => hxx; clear hxx)); omega)) | trivial | (dsimp only; omega) | assumption))); (case k7 => ktr_room); (case k8 => ktr_units)); intro r' h' tk' F' N' hr'; (try k_sweep); obtain ⟨tr', er'⟩ := hr'; subst er')
  k_with "call ref" => (k_here; (with_reducible show wpAny _ _ (call (Value.ref 93) _) _ _ _); k_dflt (refine' PureL.use (w_split _ _ _ _ _ _ _ _ _ _) ?k1 ?k2 ?k3 ?k4 ?k5 ?k6 ?k7 ?k8 ?_; (case k1 => k_asm); (case k2 => k_asm); (case k3 => k_asm); (case k4 => k_asm); (case k5 => rfl); (case k6 => ((repeat' apply And.intro) <;> (first | with_reducible assumption | ((with_reducible show Heap.IsList _ _ _); first | exact Heap.IsList.at (by assumption) (Fr.keep (by assumption) _) | exact News.isList (by assumption) (by k_mem) | k_extra "my pre") | exact IntsAre.nil | exact (fun _ hc => absurd hc List.not_mem_nil) | k_extra "my pre" | (first | assumption | exact Nat.le_trans (by assumption) (Nat.le_of_ble_eq_true rfl) | exact Nat.lt_of_le_of_lt (by assumption) (Nat.le_of_ble_eq_true rfl) | exact Int.natCast_nonneg _ | exact Int.le_trans (by assumption) (by decide) | exact Int.lt_of_le_of_lt (by assumption) (by decide) | exact Int.lt_of_lt_of_le (by assumption) (by decide) | ((repeat (rename (@LT.lt Nat _ _ _) ∧ _ => hxx; clear hxx)); (repeat (rename (@Ne Nat _ _) ∧ _ => hxx; clear hxx)); (repeat (rename (@Ne Nat _ _ ∧ _) ∧ _ => hxx; clear hxx)); omega)) | trivial | (dsimp only; omega) | assumption))); (case k7 => ktr_room); (case k8 => ktr_units)); intro D' ys' n' h' tk' F' N' hD' hr'; (try k_sweep); (have hlS := hr'.length))
  k_with "call ref" => (k_here; k_dflt (refine' PureR.use (w_parts _ _ _ _ _ _ _ _ _ _) ?k1 ?k2 ?k3 ?k4 ?k5 ?k6 ?k7 ?k8 ?_; (case k1 => k_asm); (case k2 => k_asm); (case k3 => k_asm); (case k4 => k_asm); (case k5 => rfl); (case k6 => ((repeat' apply And.intro) <;> (first | with_reducible assumption | omega | exact Heap.IsList.at (by assumption) (Fr.keep (by assumption) _)))); (case k7 => ktr_room); (case k8 => ktr_units)); intro D' rows' n' h' tk' F' N' hrows; (try simp only [List.nil_append, List.cons_append] at N'))
  k_with "subscriptTail Name Slice ref ref" => k_extra "my item"
  k_with "compareOp NotEq ref ref" => k_extra "my ne"
  k_with "call builtin:str.join" => k_extra "my join"
  obtain ⟨hl, hi, hl2, hi2, ho, ho2, hz, hz2, hm0, hm1⟩ := hpre
  have hln := hi.length
  have hln2 := hi2.length
  have hpl := partsA_len ws cs
  have htl := tx_len cs
  have htl2 := tx_len ws
  k_with "my comp" => (k_here; k_dflt (refine LCg.CompSrc.ledger (by rfl) (by k_asm) (by k_asm) (by k_mem) (by (rw [PySem.sizeLine_eq]; (have hrl := (‹RowsP _ (partsA ws cs)›).length); (simp only [refs, List.size_toArray, List.length_map]); omega)) ?_; intro gS; refine' cs_const (fun j ys => StrsAre ys (((partsA ws cs).take j).map tx)) ?hj (fun iC vC IC oIC CC oCC DC mC ysC h' tk' EC hlt hP hJ hC' hx' F' N' off' ne' => ?_) (fun ysC hYs => ?_); (case hj => exact .nil)); rotate_left; (have hYl := hYs.length); rotate_left; (k_dflt (obtain ⟨aC, vsC, nC, pC, eC, hmC, hpC, hiC⟩ := RowsP.at (‹RowsP _ (partsA ws cs)›) (i := iC) (v := vC) (by simpa using hP))); (subst eC); (have hoC := partsA_ok ho (List.mem_of_getElem? hpC)); (have hoC1 := hoC.1); (have hoC2 := hoC.2); (all_goals (try (simp only [LCg.Off3, and_true] at off'))); (all_goals (try k_fold)))
  k_with "my pre" => exact News.isList (by assumption) (by (repeat (first | exact hmC | refine List.Mem.tail _ ?_)))
  k_with "my end" => (k_here; k_dflt (refine' LCg.CompEnd.intro (by assumption) (by assumption) _ ?sub ?off ?S ⟨rfl, ?J⟩; (case sub => kcf_all); (case off => first | assumption | (simp only [LCg.Off3, and_true]; done) | (simp only [LCg.Off3, and_true]; assumption)); (case S => first | lcg_src | assumption | trivial); (case J => exact strs_step hpC hJ)))
  k_with "my item" => (k_here; (with_reducible show wpAny _ _ (subscriptTail _ (PySem.Expr.Slice none (some _) none _) (Value.ref _) (Value.ref _)) _ _ _); k_dflt (refine' slice_upto ?suF ?suN ?suL hYs hm0 ?_ ?suZ; (case suF => k_asm); (case suN => k_asm); (case suL => exact News.isList (by assumption) (by k_mem)); (case suZ => (rw [PySem.sizeLine_eq]; (simp only [List.size_toArray, hYl, List.length_map, List.length_take]); omega))); intro D' ws' h' F' N' l1 hTk; (k_lt l1); (try k_sweep))
  k_with "my ne" => (k_here; (with_reducible show wpAny _ _ (compareOp CmpOp.NotEq (Value.ref _) (Value.ref _)) _ _ _); k_dflt (refine' ne_strs ?neA ?neB ?neI ?neJ ?neX ?neY ?neU ?_; (case neA => exact News.isList (by assumption) (by k_mem)); (case neB => exact News.isList (by assumption) (by k_mem)); (case neI => assumption); (case neJ => assumption); (case neX => first | with_reducible exact parts_strOk ho (fun p hp => List.mem_of_mem_take hp) | with_reducible exact parts_strOk2 ho (fun p hp => List.mem_of_mem_take hp)); (case neY => first | with_reducible exact parts_strOk ho (fun p hp => List.mem_of_mem_take hp) | with_reducible exact parts_strOk2 ho (fun p hp => List.mem_of_mem_take hp)); (case neU => ktr_units)))
  k_with "my join" => (k_here; (rename News _ _ _ _ => nN); k_dflt (refine' join_listC (News.isList nN (.head _)) (by assumption) ?j1 ?j2 ?_); (case j1 => omega); (case j2 => exact parts_sum ho hz); intro t' k')
  (repeat' (first | (k_unfold; (try dsimp only)) | (refine id ?_; k_unfold; (try dsimp only)) | (walk1; (all_goals (try (first | ((with_reducible show wpAny _ _ (exec _ _) _ _ _); k_fold) | ((with_reducible show wpAny _ _ (call _ _) _ _ _); k_fold))))) | (dsimp only; first | (walk1; (all_goals (try (first | ((with_reducible show wpAny _ _ (exec _ _) _ _ _); k_fold) | ((with_reducible show wpAny _ _ (call _ _) _ _ _); k_fold))))) | skip) | fail "no step"))
  · refine ret _ _ _ (Fr.keep (by assumption)) (congrArg Value.bool ?_)
    rw [beq_iff_eq, tx_join, take_all (by omega), joinL_parts]
  · exfalso
    refine ‹¬ _ = List.map tx _› ?_
    rw [rows_all ‹RowsP _ (partsA ws cs)›, take_all (show ((partsA ws cs).length : Int) ≤ 2 ^ Int.toNat 32 - 1 by (show _ ≤ (4294967295 : Int)); omega)]
  · exfalso
    refine ‹¬ _ = List.take _ _› ?_
    rw [rows_all ‹RowsP _ (partsA ws cs)›, List.map_take]
end Mine
end
-- part Mb
section
set_option maxRecDepth 100000
open PySem PySem.W PySem.Calls PyProof.Rows PyProof.V PySem.Spec
set_option Elab.async false
namespace Mine
structure CoS where
  i : Int
  r : Int
  ti : Tok
  tr : Tok
section
variable {prog : Program} {w : World} {A : Around} {E : Value → Shared → Prop} {s : Shared} {env : Env} {h₀ : Heap} {x : Str} {body : List Stmt} {Q : Flow → Shared → Prop}
/-- the loop over the script's list: only the box's last place is turned -/
theorem lst_box {b l : Addr} {n n₀ : Nat} {vs : List Value} {ns : List Int} {i r₀ : Int} {ti tr₀ : Tok} {m₀ : Str → Option Value} {news : List (Addr × Obj)}
    (hh : A.handled = none) (hl : (l, listOf vs.toArray n₀) ∈ news) (hb : (b, listOf #[.int i ti, .ref l, .int r₀ tr₀] n) ∈ news) (hne : @Ne Nat b l) (hi : IntsAre vs ns) (hn : ns.length ≤ 40) (hi1 : -1 ≤ i) (hr0 : 0 ≤ r₀) (hr1 : r₀ < 2147483647) (F : Fr h₀ env.locals s.heap m₀) (N : News h₀ env.locals s.heap news)
    (turn : ∀ (j : Nat) k (c : CoS) (u : Str → Option Value) t h tk own, ns[j]? = some k → OwnOff own [b] → Fr h₀ env.locals h (fun y => if y = x then some (.int k t) else forgB u m₀ [x] y) → News h₀ env.locals h ((l, listOf vs.toArray n₀) :: (b, listOf #[.int i ti, .ref l, .int c.r c.tr] n) :: own) →
      wpAny (model prog w) A (execs body env) (InvPostN h₀ env.locals (fun m' nx => ∃ c' : CoS, nx = [(l, listOf vs.toArray n₀), (b, listOf #[.int i ti, .ref l, .int c'.r c'.tr] n)] ∧ AllB m' [] ∧ (∀ z, OffB z (OffN z (m' z = m₀ z) [x]) []) ∧ 0 ≤ c'.r ∧ c'.r < 2147483647) own [l, b] { s with heap := h, toks := tk } Q) E { s with heap := h, toks := tk })
    (done : ∀ ob (u : Str → Option Value) h tk, BoxOk l ob → Script vs → Fr h₀ env.locals h (forgB u m₀ [x]) → News h₀ env.locals h [(l, listOf vs.toArray n₀), (b, ob)] → Q .next { s with heap := h, toks := tk }) :
    wpAny (model prog w) A (pyIter (.ref l)) (fun it s₂ => LoopAtV prog w A h₀ env x body Q E it s₂) E s :=
  lst_st (σ := CoS) [] (fun c => [(b, listOf #[.int i ti, .ref l, .int c.r c.tr] n)]) (fun _ => []) (fun _ c => 0 ≤ c.r ∧ c.r < 2147483647) ⟨i, r₀, ti, tr₀⟩ hh hl hi F N ⟨hb, trivial⟩ trivial ⟨hr0, hr1⟩ (fun _ _ => rfl) ⟨hne, trivial⟩ (fun j k c u t h tk own h1 h2 _ => turn j k c u t h tk own h1 h2)
    (fun c u h tk hc => done _ u h tk ⟨i, ti, c.r, c.tr, n, rfl, hi1, hc.1, hc.2⟩ ⟨ns, hi, hn⟩)
/-- the rounds: the box is turned, the script's list stands -/
theorem rng_box {b l : Addr} {ob₀ : Obj} {n₀ : Nat} {vs : List Value} {r : Addr} {a e : Int} {t u v : Tok} {m₀ : Str → Option Value} {news : List (Addr × Obj)} (st : List Str)
    (hh : A.handled = none) (hr : IsRange s.heap r a e 1 t u v) (ha : -(2 ^ 62) ≤ a) (ha' : a < 2 ^ 62) (hb : -(2 ^ 62) ≤ e) (hb' : e < 2 ^ 62) (hbo : BoxOk l ob₀) (hbx : (b, ob₀) ∈ news) (hl : (l, listOf vs.toArray n₀) ∈ news) (hne : @Ne Nat l b) (F : Fr h₀ env.locals s.heap m₀) (N : News h₀ env.locals s.heap news)
    (turn : ∀ (j : Nat) ob (u : Str → Option Value) t h tk own, @Ne Nat l b → OwnOff own [b, l] → BoxOk l ob → Fr h₀ env.locals h (fun y => if y = x then some (.int (a + j) t) else forgB u m₀ (x :: st) y) → News h₀ env.locals h ((b, ob) :: (l, listOf vs.toArray n₀) :: own) →
      wpAny (model prog w) A (execs body env) (InvPostN h₀ env.locals (fun m' nx => ∃ ob', nx = [(b, ob'), (l, listOf vs.toArray n₀)] ∧ AllB m' [] ∧ (∀ z, OffB z (OffN z (m' z = m₀ z) (x :: st)) []) ∧ BoxOk l ob') own [b, l] { s with heap := h, toks := tk } Q) E { s with heap := h, toks := tk })
    (done : ∀ ob (u : Str → Option Value) h tk, Fr h₀ env.locals h (forgB u m₀ (x :: st)) → News h₀ env.locals h [(b, ob), (l, listOf vs.toArray n₀)] → Q .next { s with heap := h, toks := tk }) :
    wpAny (model prog w) A (pyIter (.ref r)) (fun it s₂ => LoopAtV prog w A h₀ env x body Q E it s₂) E s :=
  rng_st (σ := Obj) st (fun ob => [(b, ob), (l, listOf vs.toArray n₀)]) (fun _ => []) (fun _ ob => BoxOk l ob) ob₀ hh hr ha ha' hb hb' F N ⟨hbx, hl, trivial⟩ trivial hbo (fun _ _ => rfl) (fun j ob u t h tk own _ => turn j ob u t h tk own hne) (fun ob u h tk _ => done ob u h tk)
end
theorem len_td {cs : List Int} {a b : Nat} (h : cs.length ≤ 20) : ((cs.drop a).take b).length ≤ 20 := by simp; omega
theorem len_40 {α : Type} {ns : List α} : (ns.take 40).length ≤ 40 := by simp; omega
end Mine
end
-- part M
section
set_option maxRecDepth 100000
open PySem PySem.W PySem.Calls PyProof.Rows
set_option Elab.async false
namespace Mine
theorem kpt_take {a : List Int} (h : Kpt a) {n : Nat} : Kpt (a.take n) := fun c hc => h c (List.mem_of_mem_take hc)
theorem kpt_drop {a : List Int} (h : Kpt a) {n : Nat} : Kpt (a.drop n) := fun c hc => h c (List.mem_of_mem_drop hc)
set_option maxHeartbeats 40000000
theorem main : Challenge.rw_nt0344_01.Holds := hd (by rfl) (by
  k_go0
  k_with_none
  k_with "own ne" => (refine neN ?_; (try dsimp only); first | assumption | exact Ne.symm (by assumption) | exact Nat.ne_of_gt (by assumption) | exact Nat.ne_of_lt (by assumption) | fail "none")
  k_with "own room" => first | exact room1 hdp rfl | fail "none"
  k_with "own units" => first | exact units1 hun rfl | fail "none"
  k_with "eval Call Name" => refine Call_ ?_
  k_with "pyIter ref" => k_extra "my loop"
  k_with "exec While" => k_extra "my while"
  k_with "call builtin:len" => (k_here; (with_reducible show wpAny _ _ (call (Value.builtin "len") [Value.ref _]) _ _ _); k_dflt (refine' call_len_list (News.isList ?k1 ?k2) ?k3 ?_; (case k1 => k_asm); (case k2 => k_mem); (case k3 => (simp only [List.push_toArray, List.size_toArray, Array.size_push, List.length_append, List.length_cons, List.length_nil]; omega))))
  k_with "CompEnd" => k_extra "my end"
  k_with "CompSrcT" => k_extra "my comp"
  k_with "CompSrc" => k_extra "my comp"
  k_with "eval ListComp" => (k_here; k_dflt (first | ((with_reducible show wpAny _ _ (eval (Expr.ListComp _ [⟨Expr.Name _ _, _, [_], _⟩] _ _) _) _ _ _); refine LCt.ListComp_T (F₀ := by k_asm) (by with_unfolding_all rfl) (by decide) (by rfl) (by decide) (by rfl) ?_) | (refine LCg.ListComp_U (F₀ := by k_asm) (by with_unfolding_all rfl) (by decide) (by rfl) (by decide) (by rfl) ?_)))
  k_with "exec Assign cons ListComp" => (k_here; k_dflt (first | ((with_reducible show wpAny _ _ (exec (Stmt.Assign _ (Expr.ListComp _ [⟨Expr.Name _ _, _, [_], _⟩] _ _) _) _) _ _ _); refine LCt.Assign_ListComp_T (F₀ := by k_asm) (by rfl) (by with_unfolding_all rfl) (by with_unfolding_all rfl) (by decide) (by rfl) (by decide) (by rfl) (by rfl) (by rfl) ?_) | (refine LCg.Assign_ListComp_U (F₀ := by k_asm) (by rfl) (by with_unfolding_all rfl) (by with_unfolding_all rfl) (by decide) (by rfl) (by decide) (by rfl) (by rfl) (by rfl) ?_)))
  k_with "own all" => exact OwnOff.ne (by assumption) (by k_mem)
  k_with "call ref" => (k_here; (with_reducible show wpAny _ _ (call (Value.ref 140) _) _ _ _); k_dflt (refine' BoxC.useU (w_draw _ _ _ _ _ _ _ _ _ _) ?k1 ?k2 ?kU ?k3 ?k4 ?k5 ?k6 ?k7 ?k8 ?_; (case k1 => k_asm); (case k2 => k_asm); (case kU => k_updF); (case k3 => k_asm); (case k4 => k_asm); (case k5 => rfl); (case k6 => (intro gP upP keP; (repeat' apply And.intro) <;> (first | with_reducible assumption | ((with_reducible show Heap.IsList _ _ _); first | exact Heap.IsList.at (by assumption) (keP _) | exact isList_up upP (by k_ne) (News.isList (by assumption) (by k_mem))) | decide | k_extra "my pre" | (first | assumption | exact Nat.le_trans (by assumption) (Nat.le_of_ble_eq_true rfl) | exact Nat.lt_of_le_of_lt (by assumption) (Nat.le_of_ble_eq_true rfl) | exact Int.natCast_nonneg _ | exact Int.le_trans (by assumption) (by decide) | exact Int.lt_of_le_of_lt (by assumption) (by decide) | exact Int.lt_of_lt_of_le (by assumption) (by decide) | ((repeat (rename (@LT.lt Nat _ _ _) ∧ _ => hxx; clear hxx)); (repeat (rename (@Ne Nat _ _) ∧ _ => hxx; clear hxx)); (repeat (rename (@Ne Nat _ _ ∧ _) ∧ _ => hxx; clear hxx)); omega)) | trivial | (dsimp only; omega) | assumption))); (case k7 => ktr_room); (case k8 => ktr_units)); intro g' r' h' tk' ob' F' N' hr'; obtain ⟨v', tv', er', hv0', hv1', hb'⟩ := hr'; subst er'; (try simp only [List.size_toArray] at hv1'))
  k_with "call ref" => (k_here; (with_reducible show wpAny _ _ (call (Value.ref 145) _) _ _ _); k_dflt (refine' BoxL.useU (w_codes _ _ _ _ _ _ _ _ _ _) ?k1 ?k2 ?kU ?k3 ?k4 ?k5 ?k6 ?k7 ?k8 ?_; (case k1 => k_asm); (case k2 => k_asm); (case kU => k_updF); (case k3 => k_asm); (case k4 => k_asm); (case k5 => rfl); (case k6 => (intro gP upP keP; (repeat' apply And.intro) <;> (first | with_reducible assumption | ((with_reducible show Heap.IsList _ _ _); first | exact Heap.IsList.at (by assumption) (keP _) | exact isList_up upP (by k_ne) (News.isList (by assumption) (by k_mem))) | decide | k_extra "my pre" | (first | assumption | exact Nat.le_trans (by assumption) (Nat.le_of_ble_eq_true rfl) | exact Nat.lt_of_le_of_lt (by assumption) (Nat.le_of_ble_eq_true rfl) | exact Int.natCast_nonneg _ | exact Int.le_trans (by assumption) (by decide) | exact Int.lt_of_le_of_lt (by assumption) (by decide) | exact Int.lt_of_lt_of_le (by assumption) (by decide) | ((repeat (rename (@LT.lt Nat _ _ _) ∧ _ => hxx; clear hxx)); (repeat (rename (@Ne Nat _ _) ∧ _ => hxx; clear hxx)); (repeat (rename (@Ne Nat _ _ ∧ _) ∧ _ => hxx; clear hxx)); omega)) | trivial | (dsimp only; omega) | assumption))); (case k7 => ktr_room); (case k8 => ktr_units)); intro D' ys' n' h' tk' ob' F' N' hD' hr'; (simp only [AllNe, and_true] at hD'); obtain ⟨cs', hI', hK', hz', hb'⟩ := hr'; have hO' := hK'.ok; have hln' := hI'.length; obtain ⟨hN1, hN2, hN3⟩ := hD')
  k_with "call ref" => (k_here; (with_reducible show wpAny _ _ (call (Value.ref 189) _) _ _ _); k_dflt (refine' BoxC.useU (w_filledR _ _ _ _ _ _ _ _ _ _ _ _ _ _ _) ?k1 ?k2 ?kU ?k3 ?k4 ?k5 ?k6 ?k7 ?k8 ?_; (case k1 => k_asm); (case k2 => k_asm); (case kU => k_updF); (case k3 => k_asm); (case k4 => k_asm); (case k5 => rfl); (case k6 => (intro gP upP keP; (repeat' apply And.intro) <;> (first | with_reducible assumption | ((with_reducible show Heap.IsList _ _ _); first | exact Heap.IsList.at (by assumption) (keP _) | exact isList_up upP (by k_ne) (News.isList (by assumption) (by k_mem))) | decide | k_extra "my pre" | (first | assumption | exact Nat.le_trans (by assumption) (Nat.le_of_ble_eq_true rfl) | exact Nat.lt_of_le_of_lt (by assumption) (Nat.le_of_ble_eq_true rfl) | exact Int.natCast_nonneg _ | exact Int.le_trans (by assumption) (by decide) | exact Int.lt_of_le_of_lt (by assumption) (by decide) | exact Int.lt_of_lt_of_le (by assumption) (by decide) | ((repeat (rename (@LT.lt Nat _ _ _) ∧ _ => hxx; clear hxx)); (repeat (rename (@Ne Nat _ _) ∧ _ => hxx; clear hxx)); (repeat (rename (@Ne Nat _ _ ∧ _) ∧ _ => hxx; clear hxx)); omega)) | trivial | (dsimp only; omega) | assumption))); (case k7 => ktr_room); (case k8 => ktr_units)); intro g' r' h' tk' ob' F' N' hr'; obtain ⟨er', hb'⟩ := hr'; subst er')
  k_with "subscriptTail Name Slice ref ref" => k_extra "my slice"
  k_with "call ref" => (k_here; (with_reducible show wpAny _ _ (call (Value.ref 155) _) _ _ _); k_dflt (refine' Pure1.use (w_foundR _ _ _ _ _ _ _ _ _ _ _ _) ?k1 ?k2 ?k3 ?k4 ?k5 ?k6 ?k7 ?k8 ?_; (case k1 => k_asm); (case k2 => k_asm); (case k3 => k_asm); (case k4 => k_asm); (case k5 => rfl); (case k6 => ((repeat' apply And.intro) <;> (first | with_reducible assumption | ((with_reducible show Heap.IsList _ _ _); first | exact Heap.IsList.at (by assumption) (Fr.keep (by assumption) _) | exact News.isList (by assumption) (by k_mem) | k_extra "my pre") | exact IntsAre.nil | exact (fun _ hc => absurd hc List.not_mem_nil) | k_extra "my pre" | (first | assumption | exact Nat.le_trans (by assumption) (Nat.le_of_ble_eq_true rfl) | exact Nat.lt_of_le_of_lt (by assumption) (Nat.le_of_ble_eq_true rfl) | exact Int.natCast_nonneg _ | exact Int.le_trans (by assumption) (by decide) | exact Int.lt_of_le_of_lt (by assumption) (by decide) | exact Int.lt_of_lt_of_le (by assumption) (by decide) | ((repeat (rename (@LT.lt Nat _ _ _) ∧ _ => hxx; clear hxx)); (repeat (rename (@Ne Nat _ _) ∧ _ => hxx; clear hxx)); (repeat (rename (@Ne Nat _ _ ∧ _) ∧ _ => hxx; clear hxx)); omega)) | trivial | (dsimp only; omega) | assumption))); (case k7 => ktr_room); (case k8 => ktr_units)); intro r' h' tk' F' N' hr'; (try k_sweep); subst hr')
  k_with "call ref" => (k_here; (with_reducible show wpAny _ _ (call (Value.ref 167) _) _ _ _); k_dflt (refine' Pure1.use (w_cutsR _ _ _ _ _ _ _ _ _ _ _) ?k1 ?k2 ?k3 ?k4 ?k5 ?k6 ?k7 ?k8 ?_; (case k1 => k_asm); (case k2 => k_asm); (case k3 => k_asm); (case k4 => k_asm); (case k5 => rfl); (case k6 => ((repeat' apply And.intro) <;> (first | with_reducible assumption | ((with_reducible show Heap.IsList _ _ _); first | exact Heap.IsList.at (by assumption) (Fr.keep (by assumption) _) | exact News.isList (by assumption) (by k_mem) | k_extra "my pre") | exact IntsAre.nil | exact (fun _ hc => absurd hc List.not_mem_nil) | k_extra "my pre" | (first | assumption | exact Nat.le_trans (by assumption) (Nat.le_of_ble_eq_true rfl) | exact Nat.lt_of_le_of_lt (by assumption) (Nat.le_of_ble_eq_true rfl) | exact Int.natCast_nonneg _ | exact Int.le_trans (by assumption) (by decide) | exact Int.lt_of_le_of_lt (by assumption) (by decide) | exact Int.lt_of_lt_of_le (by assumption) (by decide) | ((repeat (rename (@LT.lt Nat _ _ _) ∧ _ => hxx; clear hxx)); (repeat (rename (@Ne Nat _ _) ∧ _ => hxx; clear hxx)); (repeat (rename (@Ne Nat _ _ ∧ _) ∧ _ => hxx; clear hxx)); omega)) | trivial | (dsimp only; omega) | assumption))); (case k7 => ktr_room); (case k8 => ktr_units)); intro r' h' tk' F' N' hr'; (try k_sweep); subst hr')
  k_with "call ref" => (k_here; (with_reducible show wpAny _ _ (call (Value.ref 177) _) _ _ _); k_dflt (refine' Pure1.use (w_splitR _ _ _ _ _ _ _ _ _ _ _ _) ?k1 ?k2 ?k3 ?k4 ?k5 ?k6 ?k7 ?k8 ?_; (case k1 => k_asm); (case k2 => k_asm); (case k3 => k_asm); (case k4 => k_asm); (case k5 => rfl); (case k6 => ((repeat' apply And.intro) <;> (first | with_reducible assumption | ((with_reducible show Heap.IsList _ _ _); first | exact Heap.IsList.at (by assumption) (Fr.keep (by assumption) _) | exact News.isList (by assumption) (by k_mem) | k_extra "my pre") | exact IntsAre.nil | exact (fun _ hc => absurd hc List.not_mem_nil) | k_extra "my pre" | (first | assumption | exact Nat.le_trans (by assumption) (Nat.le_of_ble_eq_true rfl) | exact Nat.lt_of_le_of_lt (by assumption) (Nat.le_of_ble_eq_true rfl) | exact Int.natCast_nonneg _ | exact Int.le_trans (by assumption) (by decide) | exact Int.lt_of_le_of_lt (by assumption) (by decide) | exact Int.lt_of_lt_of_le (by assumption) (by decide) | ((repeat (rename (@LT.lt Nat _ _ _) ∧ _ => hxx; clear hxx)); (repeat (rename (@Ne Nat _ _) ∧ _ => hxx; clear hxx)); (repeat (rename (@Ne Nat _ _ ∧ _) ∧ _ => hxx; clear hxx)); omega)) | trivial | (dsimp only; omega) | assumption))); (case k7 => ktr_room); (case k8 => ktr_units)); intro r' h' tk' F' N' hr'; (try k_sweep); subst hr')
  k_with "call ref" => (k_here; (with_reducible show wpAny _ _ (call (Value.ref 182) _) _ _ _); k_dflt (refine' Pure1.use (w_trimR _ _ _ _ _ _ _) ?k1 ?k2 ?k3 ?k4 ?k5 ?k6 ?k7 ?k8 ?_; (case k1 => k_asm); (case k2 => k_asm); (case k3 => k_asm); (case k4 => k_asm); (case k5 => rfl); (case k6 => ((repeat' apply And.intro) <;> (first | with_reducible assumption | ((with_reducible show Heap.IsList _ _ _); first | exact Heap.IsList.at (by assumption) (Fr.keep (by assumption) _) | exact News.isList (by assumption) (by k_mem) | k_extra "my pre") | exact IntsAre.nil | exact (fun _ hc => absurd hc List.not_mem_nil) | k_extra "my pre" | (first | assumption | exact Nat.le_trans (by assumption) (Nat.le_of_ble_eq_true rfl) | exact Nat.lt_of_le_of_lt (by assumption) (Nat.le_of_ble_eq_true rfl) | exact Int.natCast_nonneg _ | exact Int.le_trans (by assumption) (by decide) | exact Int.lt_of_le_of_lt (by assumption) (by decide) | exact Int.lt_of_lt_of_le (by assumption) (by decide) | ((repeat (rename (@LT.lt Nat _ _ _) ∧ _ => hxx; clear hxx)); (repeat (rename (@Ne Nat _ _) ∧ _ => hxx; clear hxx)); (repeat (rename (@Ne Nat _ _ ∧ _) ∧ _ => hxx; clear hxx)); omega)) | trivial | (dsimp only; omega) | assumption))); (case k7 => ktr_room); (case k8 => ktr_units)); intro r' h' tk' F' N' hr'; (try k_sweep); subst hr')
  k_with "call ref" => (k_here; (with_reducible show wpAny _ _ (call (Value.ref 196) _) _ _ _); k_dflt (refine' Pure1.use (w_orderR _ _ _ _ _ _ _ _ _ _) ?k1 ?k2 ?k3 ?k4 ?k5 ?k6 ?k7 ?k8 ?_; (case k1 => k_asm); (case k2 => k_asm); (case k3 => k_asm); (case k4 => k_asm); (case k5 => rfl); (case k6 => ((repeat' apply And.intro) <;> (first | with_reducible assumption | ((with_reducible show Heap.IsList _ _ _); first | exact Heap.IsList.at (by assumption) (Fr.keep (by assumption) _) | exact News.isList (by assumption) (by k_mem) | k_extra "my pre") | exact IntsAre.nil | exact (fun _ hc => absurd hc List.not_mem_nil) | k_extra "my pre" | (first | assumption | exact Nat.le_trans (by assumption) (Nat.le_of_ble_eq_true rfl) | exact Nat.lt_of_le_of_lt (by assumption) (Nat.le_of_ble_eq_true rfl) | exact Int.natCast_nonneg _ | exact Int.le_trans (by assumption) (by decide) | exact Int.lt_of_le_of_lt (by assumption) (by decide) | exact Int.lt_of_lt_of_le (by assumption) (by decide) | ((repeat (rename (@LT.lt Nat _ _ _) ∧ _ => hxx; clear hxx)); (repeat (rename (@Ne Nat _ _) ∧ _ => hxx; clear hxx)); (repeat (rename (@Ne Nat _ _ ∧ _) ∧ _ => hxx; clear hxx)); omega)) | trivial | (dsimp only; omega) | assumption))); (case k7 => ktr_room); (case k8 => ktr_units)); intro r' h' tk' F' N' hr'; (try k_sweep); subst hr')
  k_with "exec For Name Subscript cons nil" => (k_here; (rename Fr _ _ _ _ => lF'); (with_unfolding_all refine' For_invVF lF' ?k1 ?k2 ?_; (case k1 => exact rfl); (case k2 => exact rfl); k_whole))
  k_with "my pre" => first | exact len_td (by assumption) | exact kpt_take (kpt_drop (by assumption)) | exact Oks.take (Oks.drop (by assumption) _) _ | ((simp only [List.size_toArray]); (first | assumption | exact Nat.le_trans (by assumption) (Nat.le_of_ble_eq_true rfl) | exact Nat.lt_of_le_of_lt (by assumption) (Nat.le_of_ble_eq_true rfl) | exact Int.natCast_nonneg _ | exact Int.le_trans (by assumption) (by decide) | exact Int.lt_of_le_of_lt (by assumption) (by decide) | exact Int.lt_of_lt_of_le (by assumption) (by decide) | ((repeat (rename (@LT.lt Nat _ _ _) ∧ _ => hxx; clear hxx)); (repeat (rename (@Ne Nat _ _) ∧ _ => hxx; clear hxx)); (repeat (rename (@Ne Nat _ _ ∧ _) ∧ _ => hxx; clear hxx)); omega))) | (split <;> ((try simp only [List.size_toArray, List.length_take, List.length_drop]); (first | assumption | exact Nat.le_trans (by assumption) (Nat.le_of_ble_eq_true rfl) | exact Nat.lt_of_le_of_lt (by assumption) (Nat.le_of_ble_eq_true rfl) | exact Int.natCast_nonneg _ | exact Int.le_trans (by assumption) (by decide) | exact Int.lt_of_le_of_lt (by assumption) (by decide) | exact Int.lt_of_lt_of_le (by assumption) (by decide) | ((repeat (rename (@LT.lt Nat _ _ _) ∧ _ => hxx; clear hxx)); (repeat (rename (@Ne Nat _ _) ∧ _ => hxx; clear hxx)); (repeat (rename (@Ne Nat _ _ ∧ _) ∧ _ => hxx; clear hxx)); omega))))
  k_with "my slice" => (k_here; (with_reducible show wpAny _ _ (subscriptTail _ (PySem.Expr.Slice (some _) (some _) none _) (Value.ref _) (Value.ref _)) _ _ _); k_dflt (refine' kmk_slice_ints ?slF ?slN ?slL ?slP ?slQ ?slI (kmk_run ?slI ?slM ?slO) rfl ?_ ?slS ?slT ?slZ; (case slF => k_asm); (case slN => k_asm); (case slL => exact News.isList (by k_asm) (by k_mem)); (case slI => assumption); (case slP => kmk_part); (case slQ => kmk_part); (case slM => assumption); (case slO => exact Int.add_nonneg (by assumption) (by assumption)); (case slS => with_unfolding_all rfl); (case slT => kmk_pure); (case slZ => (rw [PySem.sizeLine_eq, List.size_toArray]; (first | assumption | exact Nat.le_trans (by assumption) (Nat.le_of_ble_eq_true rfl) | exact Nat.lt_of_le_of_lt (by assumption) (Nat.le_of_ble_eq_true rfl) | exact Int.natCast_nonneg _ | exact Int.le_trans (by assumption) (by decide) | exact Int.lt_of_le_of_lt (by assumption) (by decide) | exact Int.lt_of_lt_of_le (by assumption) (by decide) | ((repeat (rename (@LT.lt Nat _ _ _) ∧ _ => hxx; clear hxx)); (repeat (rename (@Ne Nat _ _) ∧ _ => hxx; clear hxx)); (repeat (rename (@Ne Nat _ _ ∧ _) ∧ _ => hxx; clear hxx)); omega))))); intro D' ws' h' F' N' l1 hI' hC' hL'; clear hC' hL'; (have hz' := hI'.length); (have hw20 := Nat.le_trans (Nat.le_of_eq hz') (len_td (by assumption))); (k_lt l1); obtain ⟨_, hlb, _⟩ := l1; (try k_sweep))
  k_with "my loop" => (k_here; k_dflt ((rename Fr _ _ _ _ => lF'); (rename News _ _ _ _ => lN'); (rename IsRange _ _ _ _ _ _ _ _ => rgX); (with_unfolding_all refine' rng_box [Str.ofString "codes", Str.ofString "first", Str.ofString "wanted", Str.ofString "start", Str.ofString "end"] ?hh rgX ?b1 ?b2 ?b3 ?b4 ?hbo ?mb ?ml ?hne lF' lN' ?_ ?_); (case hh => rfl); (case b1 => (first | assumption | exact Nat.le_trans (by assumption) (Nat.le_of_ble_eq_true rfl) | exact Nat.lt_of_le_of_lt (by assumption) (Nat.le_of_ble_eq_true rfl) | exact Int.natCast_nonneg _ | exact Int.le_trans (by assumption) (by decide) | exact Int.lt_of_le_of_lt (by assumption) (by decide) | exact Int.lt_of_lt_of_le (by assumption) (by decide) | ((repeat (rename (@LT.lt Nat _ _ _) ∧ _ => hxx; clear hxx)); (repeat (rename (@Ne Nat _ _) ∧ _ => hxx; clear hxx)); (repeat (rename (@Ne Nat _ _ ∧ _) ∧ _ => hxx; clear hxx)); omega))); (case b2 => (first | assumption | exact Nat.le_trans (by assumption) (Nat.le_of_ble_eq_true rfl) | exact Nat.lt_of_le_of_lt (by assumption) (Nat.le_of_ble_eq_true rfl) | exact Int.natCast_nonneg _ | exact Int.le_trans (by assumption) (by decide) | exact Int.lt_of_le_of_lt (by assumption) (by decide) | exact Int.lt_of_lt_of_le (by assumption) (by decide) | ((repeat (rename (@LT.lt Nat _ _ _) ∧ _ => hxx; clear hxx)); (repeat (rename (@Ne Nat _ _) ∧ _ => hxx; clear hxx)); (repeat (rename (@Ne Nat _ _ ∧ _) ∧ _ => hxx; clear hxx)); omega))); (case b3 => (first | assumption | exact Nat.le_trans (by assumption) (Nat.le_of_ble_eq_true rfl) | exact Nat.lt_of_le_of_lt (by assumption) (Nat.le_of_ble_eq_true rfl) | exact Int.natCast_nonneg _ | exact Int.le_trans (by assumption) (by decide) | exact Int.lt_of_le_of_lt (by assumption) (by decide) | exact Int.lt_of_lt_of_le (by assumption) (by decide) | ((repeat (rename (@LT.lt Nat _ _ _) ∧ _ => hxx; clear hxx)); (repeat (rename (@Ne Nat _ _) ∧ _ => hxx; clear hxx)); (repeat (rename (@Ne Nat _ _ ∧ _) ∧ _ => hxx; clear hxx)); omega))); (case b4 => (first | assumption | exact Nat.le_trans (by assumption) (Nat.le_of_ble_eq_true rfl) | exact Nat.lt_of_le_of_lt (by assumption) (Nat.le_of_ble_eq_true rfl) | exact Int.natCast_nonneg _ | exact Int.le_trans (by assumption) (by decide) | exact Int.lt_of_le_of_lt (by assumption) (by decide) | exact Int.lt_of_lt_of_le (by assumption) (by decide) | ((repeat (rename (@LT.lt Nat _ _ _) ∧ _ => hxx; clear hxx)); (repeat (rename (@Ne Nat _ _) ∧ _ => hxx; clear hxx)); (repeat (rename (@Ne Nat _ _ ∧ _) ∧ _ => hxx; clear hxx)); omega))); (case hbo => assumption); (case mb => k_mem); (case ml => k_mem); (case hne => k_ne); (all_goals clear lF' lN' rgX); rotate_left; (intro z uL' h' tk' F' N'); rotate_left; (intro iT z uL' t' h' tk' own' hnb hOff hz F' N'); (all_goals (dsimp only [forgB, envOf] at F' N')); (all_goals (try k_fold))))
  k_with "my loop" => (k_here; k_dflt ((rename Fr _ _ _ _ => lF'); (rename News _ _ _ _ => lN'); (with_unfolding_all refine' lst_box ?hh ?ml ?mb ?ne ?hi ?hn ?hi1 ?hr0 ?hr1 lF' lN' ?_ ?_); (case hh => rfl); (case ml => k_mem); (case mb => k_mem); (case ne => k_ne); (case hi => assumption); (case hn => (rw [List.length_map]; exact len_40)); (case hi1 => decide); (case hr0 => decide); (case hr1 => decide); (all_goals clear lF' lN'); rotate_left; (intro z uL' h' tk' hz hsc F' N'); rotate_left; (intro iT kT z uL' t' h' tk' own' hiT hOff F' N'); (all_goals (dsimp only [forgB, envOf] at F' N')); (all_goals (try k_fold))))
  (repeat' (first | (k_unfold; (try dsimp only)) | (refine id ?_; k_unfold; (try dsimp only)) | (walk1; (all_goals (try (first | ((with_reducible show wpAny _ _ (exec _ _) _ _ _); k_fold) | ((with_reducible show wpAny _ _ (call _ _) _ _ _); k_fold))))) | (dsimp only; first | (walk1; (all_goals (try (first | ((with_reducible show wpAny _ _ (exec _ _) _ _ _); k_fold) | ((with_reducible show wpAny _ _ (call _ _) _ _ _); k_fold))))) | skip) | fail "no step"))
  · (refine' InvEndN.intro (by assumption) (by assumption) ⟨⟨z.i, _, z.ti, _⟩, rfl, trivial, ?e3, ?e4⟩ rfl ?e1 ?e5; (case e1 => kcf_all); (case e5 => (intro p hp; (repeat (first | exact hp | refine List.Mem.tail _ ?_)))); (case e3 => (intro z; dsimp only [OffB, OffN]; intro z1; first | rfl | (simp only [z1, if_false]; done))); (case e4 => (exact ⟨Int.fmod_nonneg_of_pos _ (by decide), Int.fmod_lt_of_pos _ (by decide)⟩)))
  all_goals first
    | (k_end; wrow_close)
    | (refine' InvEndN.intro (by assumption) (by assumption) ⟨_, rfl, trivial, ?e3, ?e4⟩ rfl ?e1 ?e5; (case e1 => kcf_all); (case e5 => (intro p hp; (repeat (first | exact hp | refine List.Mem.tail _ ?_)))); (case e3 => (intro z; dsimp only [OffB, OffN]; intro z1 z2 z3 z4 z5 z6; first | rfl | (simp only [z1, z2, z3, z4, z5, z6, if_false]; done))); (case e4 => assumption)))
end Mine
end

set_option maxRecDepth 100000 in
theorem PySem.Challenge.cw_nt0344_01_holds : PySem.Challenge.rw_nt0344_01.Holds := by
  exact Mine.main
